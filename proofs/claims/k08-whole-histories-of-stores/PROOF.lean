import PyProof.Rows.All
import Wide.All
import OpenK.AllK
import Wide.FinOn
import KE.KStateDown
import KE.KSuper
import PyProof.ExcClass
import HandS.Base
import HandS.Call
import HandS.List
import HandS.Exc
import HandS.Lambda
import HandS.EndTab
import HandS.Defaults
import HandS.Head0
import HandS.Head1
import HandS.Head2
import HandS.HeadEnd
import HandS.HeadHook1
import HandS.HeadHook2
import HandS.Words
import KE.KExcSuper
import KE.KCallOwn
import KE.KFmtOwn
import HandS.ForMost
import HandS.ForExc
import HandS.More
import HandS.Star
import HandS.ClsMeth
import HandS.Property
import HandS.IsInst
import HandS.ExcIs
import HandS.OwnEq
import HandS.Deep
import HandS.Strs
import HandS.SetKeys
import HandS.DictComp
import HandS.Conv
import HandS.Style
import HandS.FStr
import HandS.CallSlots
import HandS.Wide
import HandS.TupAny
import HandS.Flow
import HandS.Set
import HandS.SetFor
import HandS.Walk
import HandS.TupSets
import KE.KeyNested
import KE.SortData
import KE.DatumMoreOrd
import HandS.Finally
import HandS.ListItems
import PyProof.DictUpdate
import PyProof.DictDisplay
import KE.DatumMore
import PyProof.EqAt
import PyProof.EqKinds
import PyProof.TupleCall
import HandS.Dict
import HandS.Iter
import KE.GoesEnum
import HandS.NoneIn
import PySem.Challenge.RW_treefits_k08_whole_histories_of_stores
set_option Elab.async false
set_option linter.all false
set_option maxRecDepth 100000
set_option maxHeartbeats 4000000
/-! a head by one kernel run: the objects that the written part's names reach, facts about them by Bools, function objects by one equation -/
namespace TfHd
open PySem PySem.Spec PyProof.Rows L2 He
/-- what an object leads to: code and cells of a function, the names of a class, the values of a dict, what a property holds; not what a code object holds -/
def refsH (o : Obj) : List Addr := match o.data with
  | .func fd => refV fd.code ++ fd.closure.map (·.2)
  | .cls cd => [cd.ns]
  | .dict es _ => es.toList.flatMap fun e => refV e.val
  | .fields vs => (match o.cls with
    | .type n => if n == "property" || n == "classmethod" || n == "staticmethod" then vs.toList.flatMap refV else []
    | _ => [])
  | _ => []
def nextH (g : Addr → Option Obj) (as : List Addr) : List Addr := as.flatMap fun a => match g a with
  | some o => refsH o
  | none => []
/-- five steps from the module's names: the names, their code and names of classes, their methods, the code of these, the code of properties -/
def reachH (g : Addr → Option Obj) : List Addr :=
  let a1 := nextH g [mainGlobals]
  let a2 := nextH g a1
  let a3 := nextH g a2
  let a4 := nextH g a3
  let a5 := nextH g a4
  mainGlobals :: cStatics :: (a1 ++ (a2 ++ (a3 ++ (a4 ++ a5))))
def fragH (g : Addr → Option Obj) : PySem.W.Frag := frG g (reachH g)
/-! ### addresses by names -/
/-- what stands behind a class method's name -/
def cmA (K : PySem.W.Frag) (C : Addr) (m : Str) : Addr := match PySem.W.findCls K (.ref C) (.type "type") m with
  | some (.get _ (.ref p) _ _) => p
  | _ => 0
def recA (K : PySem.W.Frag) (p : Addr) (T : String) : Addr := match PySem.W.recIn K p T with
  | some (.ref f :: _) => f
  | _ => 0
def recT (K : PySem.W.Frag) (p : Addr) (T : String) : List Value := match PySem.W.recIn K p T with
  | some (_ :: r) => r
  | _ => []
/-- the token of a constant -/
def tokA (K : PySem.W.Frag) (x : Str) : Tok := match PySem.W.nsIn K mainGlobals x with
  | some (some (.int _ t)) => t
  | some (some (.str _ t)) => t
  | _ => default
def codeA (K : PySem.W.Frag) (f : Addr) : Addr := match K.lookup f with
  | some ⟨_, _, .func fd, _⟩ => (match fd.code with
    | .ref c => c
    | _ => 0)
  | _ => 0
def cellA (K : PySem.W.Frag) (f : Addr) : Addr := match K.lookup f with
  | some ⟨_, _, .func fd, _⟩ => (match fd.closure with
    | (_, c) :: _ => c
    | _ => 0)
  | _ => 0
def fldsA (K : PySem.W.Frag) (c : Addr) : Array Value := match K.lookup c with
  | some ⟨_, _, .fields vs, _⟩ => vs
  | _ => #[]
def tabA (K : PySem.W.Frag) (c : Addr) : Addr := match ((fldsA K c)[11]? : Option Value) with
  | some (.ref P) => P
  | _ => 0
def strTok (v : Option Value) : Tok := match v with
  | some (.str _ t) => t
  | _ => default
/-! ### facts -/
def cmB (K : PySem.W.Frag) (C : Addr) (m : Str) : Bool := match PySem.W.findCls K (.ref C) (.type "type") m with
  | some (.get (.builtin g) (.ref _) .none (.ref D)) => decide (g = "classmethod.__get__") && decide (D = C)
  | _ => false
theorem cm_ok {K : PySem.W.Frag} {C : Addr} {m : Str} (h : cmB K C m = true) : PySem.W.findCls K (.ref C) (.type "type") m = some (.get (.builtin "classmethod.__get__") (.ref (cmA K C m)) .none (.ref C)) := by
  unfold cmB at h
  split at h
  · rename_i g p D e
    obtain ⟨h1, h2⟩ := ba h
    have e1 := of_decide_eq_true h1
    have e2 := of_decide_eq_true h2
    subst e1 e2
    unfold cmA
    rw [e]
  · cases h
def recB (K : PySem.W.Frag) (p : Addr) (T : String) : Bool := match PySem.W.recIn K p T with
  | some (.ref _ :: _) => true
  | _ => false
theorem rec_ok {K : PySem.W.Frag} {p : Addr} {T : String} (h : recB K p T = true) : PySem.W.recIn K p T = some (.ref (recA K p T) :: recT K p T) := by
  unfold recB at h
  split at h
  · rename_i f r e
    unfold recA recT
    rw [e]
  · cases h
def excB (K : PySem.W.Frag) (C : Addr) (bm : List Value) (newId : String) : Bool := match K.lookup C with
  | some ⟨.type t, _, .cls cd, sl⟩ => decide (t = "type") && (decide (cd.mro = .ref C :: bm) && (cd.hasDict && (!cd.hasDel && (match sl with
    | ⟨[_m0, _m1, _m2, _m3, some (.builtin s), _m5]⟩ => decide (s = newId)
    | _ => false))))
  | _ => false
theorem exc_ok {K : PySem.W.Frag} {C : Addr} {bm : List Value} {newId : String} (h : excB K C bm newId = true) : ∃ (nm q : Str) (N : Addr) (bs : List Value) (sn : List Str) (sub : List Value) (ab : Bool) (col : Option Bool) (dd : Option Addr) (m0 m1 m2 m3 m5 : Option Value), K.lookup C = some (excClassObj nm q C N bs bm true sn sub ab col dd m0 m1 m2 m3 m5 newId) := by
  unfold excB at h
  split at h
  · rename_i t dd cd sl e
    obtain ⟨h1, h⟩ := ba h
    obtain ⟨h2, h⟩ := ba h
    obtain ⟨h3, h⟩ := ba h
    obtain ⟨h4, h⟩ := ba h
    split at h
    · rename_i s m0 m1 m2 m3 m5
      obtain ⟨nm, bs, mro, N, q, hd, sn, sub, ab, col, del⟩ := cd
      have e1 := of_decide_eq_true h1
      have e2 := of_decide_eq_true h2
      have e3 := of_decide_eq_true h
      dsimp only at e2 h3 h4
      subst e1 e2 e3 h3
      have e4 : del = false := by
        cases del with
        | false => rfl
        | true => cases h4
      subst e4
      exact ⟨nm, q, N, bs, sn, sub, ab, col, dd, _, _, _, _, _, e⟩
    · cases h
  · cases h
def cellB (K : PySem.W.Frag) (c C : Addr) : Bool := match K.lookup c with
  | some ⟨_, _, .cell (some (.ref D)), _⟩ => decide (D = C)
  | _ => false
theorem cell_ok {K : PySem.W.Frag} {c C : Addr} (h : cellB K c C = true) : ∃ (cl : Value) (od : Option Addr) (sl : Array (Option Value)), K.lookup c = some ⟨cl, od, .cell (some (.ref C)), sl⟩ := by
  unfold cellB at h
  split at h
  · rename_i cl od D sl e
    have e1 := of_decide_eq_true h
    subst e1
    exact ⟨cl, od, sl, e⟩
  · cases h
def fldsB (K : PySem.W.Frag) (c : Addr) : Bool := match K.lookup c with
  | some ⟨_, _, .fields _, _⟩ => true
  | _ => false
theorem flds_ok {K : PySem.W.Frag} {c : Addr} (h : fldsB K c = true) : ∃ (cl : Value) (od : Option Addr) (sl : Array (Option Value)), K.lookup c = some ⟨cl, od, .fields (fldsA K c), sl⟩ := by
  unfold fldsB at h
  split at h
  · rename_i cl od vs sl e
    refine ⟨cl, od, sl, ?_⟩
    unfold fldsA
    rw [e]
  · cases h
/-! ### functions -/
abbrev FnT : Type := Option (Str × Str × Arguments × FuncBody × Scope × Addr × List Str × Value × Addr)
def fnT (K : PySem.W.Frag) (f : Addr) : FnT := match K.lookup f with
  | some ⟨_, _, .func fd, _⟩ => some (fd.name, fd.qualname, fd.params, fd.body, fd.scope, fd.globals, fd.closure.map (·.1), fd.defaults, fd.builtins)
  | _ => none
def fnB (K : PySem.W.Frag) (f : Addr) (q : Str) : Bool := match K.lookup f with
  | some ⟨_, _, .func fd, _⟩ => (match fd.code with
    | .ref c => PySem.W.codeIn K (.ref c) q
    | _ => false)
  | _ => false
theorem fn_ok {K : PySem.W.Frag} {f : Addr} {nm q : Str} {ps : Arguments} {b : List Stmt} {sc : Scope} (e : fnT K f = some (nm, q, ps, FuncBody.stmts b, sc, mainGlobals, [], Value.none, builtinsNs)) (h : fnB K f q = true) :
    ∃ (oc : Value) (od : Option Addr) (kV doc pm : Value) (an : Option Addr) (ct : Value) (sl : Array (Option Value)), K.lookup f = some ⟨oc, od, .func (PySem.W.fnOf nm q ps b sc .none kV doc pm an (.ref (codeA K f)) ct), sl⟩ ∧ PySem.W.codeIn K (.ref (codeA K f)) q = true := by
  unfold fnT at e
  unfold fnB at h
  unfold codeA
  cases q1 : K.lookup f with
  | none =>
    rw [q1] at h
    cases h
  | some o =>
    obtain ⟨oc, od, dt, sl⟩ := o
    rw [q1] at h e
    cases dt with
    | func fd =>
      obtain ⟨n1, n2, n3, n4, n5, n6, n7, n8, n9, n10, n11, n12, n13, n14, n15⟩ := fd
      have e2 : (some (n1, n2, n3, n4, n5, n6, n7.map (·.1), n8, n15) : FnT) = some (nm, q, ps, .stmts b, sc, mainGlobals, [], .none, builtinsNs) := e
      simp only [Option.some.injEq, Prod.mk.injEq] at e2
      obtain ⟨h1, h2, h3, h4, h5, h6, h7, h8, h9⟩ := e2
      have h7' : n7 = [] := List.map_eq_nil_iff.mp h7
      subst h1 h2 h3 h4 h5 h6 h7' h8 h9
      cases n13 with
      | ref c => exact ⟨oc, od, n9, n10, n11, n12, n14, sl, rfl, h⟩
      | _ => cases h
    | _ => cases h
/-- a def with the cell of its class -/
theorem fn_okC {K : PySem.W.Frag} {f : Addr} {nm q : Str} {ps : Arguments} {b : List Stmt} {sc : Scope} (e : fnT K f = some (nm, q, ps, FuncBody.stmts b, sc, mainGlobals, ([("__class__" : Str)] : List Str), Value.none, builtinsNs)) (h : fnB K f q = true) (hk : decide ((match K.lookup f with | some ⟨_, _, .func fd, _⟩ => fd.kwdefaults | _ => Value.none) = Value.none) = true) :
    ∃ (oc : Value) (od : Option Addr) (doc pm : Value) (an : Option Addr) (ct : Value) (sl : Array (Option Value)), K.lookup f = some ⟨oc, od, .func (PySem.W.ksFn nm q ps b sc .none .none doc pm an (.ref (codeA K f)) ct (cellA K f)), sl⟩ ∧ PySem.W.codeIn K (.ref (codeA K f)) q = true := by
  unfold fnT at e
  unfold fnB at h
  unfold codeA cellA
  cases q1 : K.lookup f with
  | none =>
    rw [q1] at h
    cases h
  | some o =>
    obtain ⟨oc, od, dt, sl⟩ := o
    rw [q1] at h e hk
    cases dt with
    | func fd =>
      obtain ⟨n1, n2, n3, n4, n5, n6, n7, n8, n9, n10, n11, n12, n13, n14, n15⟩ := fd
      have e2 : (some (n1, n2, n3, n4, n5, n6, n7.map (·.1), n8, n15) : FnT) = some (nm, q, ps, .stmts b, sc, mainGlobals, ([("__class__" : Str)] : List Str), .none, builtinsNs) := e
      simp only [Option.some.injEq, Prod.mk.injEq] at e2
      obtain ⟨h1, h2, h3, h4, h5, h6, h7, h8, h9⟩ := e2
      have hk' : n9 = Value.none := of_decide_eq_true hk
      subst h1 h2 h3 h4 h5 h6 h8 h9 hk'
      cases n7 with
      | nil => cases h7
      | cons z r =>
        obtain ⟨z1, z2⟩ := z
        rw [List.map_cons] at h7
        injection h7 with h7a h7b
        have hr := List.map_eq_nil_iff.mp h7b
        have hz : z1 = "__class__" := h7a
        subst hr hz
        cases n13 with
        | ref c => exact ⟨oc, od, n10, n11, n12, n14, sl, rfl, h⟩
        | _ => cases h
    | _ => cases h
def kwN (K : PySem.W.Frag) (f : Addr) : Bool := decide ((match K.lookup f with | some ⟨_, _, .func fd, _⟩ => fd.kwdefaults | _ => Value.none) = Value.none)
/-! ### the Hook -/
abbrev AlH : Type := Bool × List FnT
def obsH (bs : List (PySem.W.Frag → Bool)) (fs : List (PySem.W.Frag → Addr)) (K : PySem.W.Frag) : AlH := (bs.all fun b => b K, fs.map fun f => fnT K (f K))
def hookH (bs : List (PySem.W.Frag → Bool)) (fs : List (PySem.W.Frag → Addr)) (vs : List FnT) : PySem.W.Hook where
  α := AlH
  obs := fun s => obsH bs fs (fragH s.heap.get?)
  val := fun _ => (true, vs)
  says := fun _ h => ∃ K : PySem.W.Frag, K.In h ∧ obsH bs fs K = (true, vs)
  of := fun _ _ e => ⟨_, frG_in, e⟩
  keeps := fun _ _ _ ⟨K, hK, c⟩ k => ⟨K, PySem.W.Frag.In.keeps hK k, c⟩
def obT (bs : List (PySem.W.Frag → Bool)) (fs : List (PySem.W.Frag → Addr)) (s : PySem.W.SharedT) : AlH := obsH bs fs (fragH (HandSHeadRun.getT s))
theorem obT_eq {bs : List (PySem.W.Frag → Bool)} {fs : List (PySem.W.Frag → Addr)} {vs : List FnT} (s : PySem.W.SharedT) : obT bs fs s = (hookH bs fs vs).obs s.abs := by
  have e : HandSHeadRun.getT s = s.abs.heap.get? := funext (HandSHeadRun.getT_eq s)
  unfold obT
  rw [e]
  rfl
section
variable {bs : List (PySem.W.Frag → Bool)} {fs : List (PySem.W.Frag → Addr)} {vs : List FnT} {K : PySem.W.Frag}
theorem fact (c : obsH bs fs K = (true, vs)) (i : Nat) {f : PySem.W.Frag → Bool} (h : bs[i]? = some f := by rfl) : f K = true := by
  have c1 : (bs.all fun b => b K) = true := congrArg (fun z : AlH => z.1) c
  exact List.all_eq_true.mp c1 f (List.mem_of_getElem? h)
theorem func (c : obsH bs fs K = (true, vs)) (i : Nat) {f : PySem.W.Frag → Addr} {v : FnT} (h : fs[i]? = some f := by rfl) (hv : vs[i]? = some v := by rfl) : fnT K (f K) = v := by
  have e : (fs.map fun f => fnT K (f K)) = vs := congrArg (fun z : AlH => z.2) c
  have e2 : (fs.map fun f => fnT K (f K))[i]? = vs[i]? := by rw [e]
  rw [List.getElem?_map, h, hv] at e2
  exact Option.some.inj e2
end
end TfHd

/-! the head's facts and its run -/
namespace Tf
open PySem PySem.Spec PyProof.Rows L2
def hTop (i : Nat) : Stmt := PySem.Challenge.pw_treefits_k08_whole_histories_of_stores.main.body.getD i (.Pass ⟨0, 0, 0, 0⟩)
def hFs0 : List (PySem.W.Frag → Addr) := [
  fun K => (He.ga K "is_name"),
  fun K => (He.ga K "require_language"),
  fun K => (He.ga K "require_mark"),
  fun K => (He.ga K "require_kind"),
  fun K => (He.ga K "different_names"),
  fun K => (He.ga K "require_thing"),
  fun K => (He.ga K "require_pair"),
  fun K => (He.ga K "different_items"),
  fun K => (He.ga K "checked_things"),
  fun K => (He.ga K "store_in"),
  fun K => (He.ga K "joined_pair"),
  fun K => (He.ga K "joined_things"),
  fun K => (He.ga K "new_names"),
  fun K => (He.ga K "reached_in"),
  fun K => (He.ga K "_law_dice"),
  fun K => (He.ga K "_law_roll"),
  fun K => (He.ga K "_law_pick"),
  fun K => (He.ga K "_law_mixed"),
  fun K => (He.ga K "_law_words"),
  fun K => (He.ga K "_law_language")]
def hFs1 : List (PySem.W.Frag → Addr) := [
  fun K => (He.ga K "_law_links"),
  fun K => (He.ga K "_law_store"),
  fun K => (He.ga K "require_store"),
  fun K => (He.ga K "way_to"),
  fun K => (He.ga K "first_ways"),
  fun K => (He.ga K "first_way"),
  fun K => (He.ga K "_law_flat"),
  fun K => (He.ga K "_law_changed"),
  fun K => (He.ga K "_law_history_right"),
  fun K => (He.ga K "_law_joined_right"),
  fun K => (He.ga K "law"),
  fun K => (He.ma K (He.ga K "Language") "__init__"),
  fun K => (TfHd.recA K (TfHd.cmA K (He.ga K "Language") "of") "classmethod"),
  fun K => (TfHd.recA K (He.ma K (He.ga K "Language") "marks") "property"),
  fun K => (TfHd.recA K (He.ma K (He.ga K "Language") "kinds") "property"),
  fun K => (He.ma K (He.ga K "Language") "__eq__"),
  fun K => (He.ma K (He.ga K "Store") "__init__"),
  fun K => (TfHd.recA K (TfHd.cmA K (He.ga K "Store") "of") "classmethod"),
  fun K => (TfHd.recA K (He.ma K (He.ga K "MadeStore") "things") "property"),
  fun K => (He.ma K (He.ga K "MadeStore") "__eq__")]
def hFs2 : List (PySem.W.Frag → Addr) := [
  fun K => (He.ma K (He.ga K "MadeStore") "__contains__"),
  fun K => (He.ma K (He.ga K "MadeStore") "with_pair"),
  fun K => (He.ma K (He.ga K "MadeStore") "with_thing"),
  fun K => (He.ma K (He.ga K "MadeStore") "with_marks"),
  fun K => (He.ma K (He.ga K "MadeStore") "require_link"),
  fun K => (He.ma K (He.ga K "MadeStore") "with_link"),
  fun K => (He.ma K (He.ga K "MadeStore") "without_link"),
  fun K => (He.ma K (He.ga K "MadeStore") "without_thing"),
  fun K => (TfHd.recA K (He.ma K (He.ga K "MadeStore") "names") "property"),
  fun K => (He.ma K (He.ga K "MadeStore") "__len__"),
  fun K => (He.ma K (He.ga K "MadeStore") "renamed_by"),
  fun K => (He.ma K (He.ga K "MadeStore") "reached"),
  fun K => (He.ma K (He.ga K "MadeStore") "__or__"),
  fun K => (He.ma K (He.ga K "MadeStore") "__init__")]
def hFs : List (PySem.W.Frag → Addr) := hFs0 ++ (hFs1 ++ (hFs2))
def hVs0 : List (TfHd.FnT) := [
  some ("is_name", "is_name", defArgs (hTop 13), FuncBody.stmts (defBody (hTop 13)), defScope (hTop 13), mainGlobals, [], Value.none, builtinsNs),
  some ("require_language", "require_language", defArgs (hTop 14), FuncBody.stmts (defBody (hTop 14)), defScope (hTop 14), mainGlobals, [], Value.none, builtinsNs),
  some ("require_mark", "require_mark", defArgs (hTop 15), FuncBody.stmts (defBody (hTop 15)), defScope (hTop 15), mainGlobals, [], Value.none, builtinsNs),
  some ("require_kind", "require_kind", defArgs (hTop 16), FuncBody.stmts (defBody (hTop 16)), defScope (hTop 16), mainGlobals, [], Value.none, builtinsNs),
  some ("different_names", "different_names", defArgs (hTop 17), FuncBody.stmts (defBody (hTop 17)), defScope (hTop 17), mainGlobals, [], Value.none, builtinsNs),
  some ("require_thing", "require_thing", defArgs (hTop 23), FuncBody.stmts (defBody (hTop 23)), defScope (hTop 23), mainGlobals, [], Value.none, builtinsNs),
  some ("require_pair", "require_pair", defArgs (hTop 24), FuncBody.stmts (defBody (hTop 24)), defScope (hTop 24), mainGlobals, [], Value.none, builtinsNs),
  some ("different_items", "different_items", defArgs (hTop 25), FuncBody.stmts (defBody (hTop 25)), defScope (hTop 25), mainGlobals, [], Value.none, builtinsNs),
  some ("checked_things", "checked_things", defArgs (hTop 26), FuncBody.stmts (defBody (hTop 26)), defScope (hTop 26), mainGlobals, [], Value.none, builtinsNs),
  some ("store_in", "store_in", defArgs (hTop 27), FuncBody.stmts (defBody (hTop 27)), defScope (hTop 27), mainGlobals, [], Value.none, builtinsNs),
  some ("joined_pair", "joined_pair", defArgs (hTop 28), FuncBody.stmts (defBody (hTop 28)), defScope (hTop 28), mainGlobals, [], Value.none, builtinsNs),
  some ("joined_things", "joined_things", defArgs (hTop 29), FuncBody.stmts (defBody (hTop 29)), defScope (hTop 29), mainGlobals, [], Value.none, builtinsNs),
  some ("new_names", "new_names", defArgs (hTop 30), FuncBody.stmts (defBody (hTop 30)), defScope (hTop 30), mainGlobals, [], Value.none, builtinsNs),
  some ("reached_in", "reached_in", defArgs (hTop 31), FuncBody.stmts (defBody (hTop 31)), defScope (hTop 31), mainGlobals, [], Value.none, builtinsNs),
  some ("_law_dice", "_law_dice", defArgs (hTop 39), FuncBody.stmts (defBody (hTop 39)), defScope (hTop 39), mainGlobals, [], Value.none, builtinsNs),
  some ("_law_roll", "_law_roll", defArgs (hTop 40), FuncBody.stmts (defBody (hTop 40)), defScope (hTop 40), mainGlobals, [], Value.none, builtinsNs),
  some ("_law_pick", "_law_pick", defArgs (hTop 41), FuncBody.stmts (defBody (hTop 41)), defScope (hTop 41), mainGlobals, [], Value.none, builtinsNs),
  some ("_law_mixed", "_law_mixed", defArgs (hTop 42), FuncBody.stmts (defBody (hTop 42)), defScope (hTop 42), mainGlobals, [], Value.none, builtinsNs),
  some ("_law_words", "_law_words", defArgs (hTop 43), FuncBody.stmts (defBody (hTop 43)), defScope (hTop 43), mainGlobals, [], Value.none, builtinsNs),
  some ("_law_language", "_law_language", defArgs (hTop 44), FuncBody.stmts (defBody (hTop 44)), defScope (hTop 44), mainGlobals, [], Value.none, builtinsNs)]
def hVs1 : List (TfHd.FnT) := [
  some ("_law_links", "_law_links", defArgs (hTop 45), FuncBody.stmts (defBody (hTop 45)), defScope (hTop 45), mainGlobals, [], Value.none, builtinsNs),
  some ("_law_store", "_law_store", defArgs (hTop 46), FuncBody.stmts (defBody (hTop 46)), defScope (hTop 46), mainGlobals, [], Value.none, builtinsNs),
  some ("require_store", "require_store", defArgs (hTop 22), FuncBody.stmts (defBody (hTop 22)), defScope (hTop 22), mainGlobals, [], Value.none, builtinsNs),
  some ("way_to", "way_to", defArgs (hTop 35), FuncBody.stmts (defBody (hTop 35)), defScope (hTop 35), mainGlobals, [], Value.none, builtinsNs),
  some ("first_ways", "first_ways", defArgs (hTop 36), FuncBody.stmts (defBody (hTop 36)), defScope (hTop 36), mainGlobals, [], Value.none, builtinsNs),
  some ("first_way", "first_way", defArgs (hTop 37), FuncBody.stmts (defBody (hTop 37)), defScope (hTop 37), mainGlobals, [], Value.none, builtinsNs),
  some ("_law_flat", "_law_flat", defArgs (hTop 47), FuncBody.stmts (defBody (hTop 47)), defScope (hTop 47), mainGlobals, [], Value.none, builtinsNs),
  some ("_law_changed", "_law_changed", defArgs (hTop 48), FuncBody.stmts (defBody (hTop 48)), defScope (hTop 48), mainGlobals, [], Value.none, builtinsNs),
  some ("_law_history_right", "_law_history_right", defArgs (hTop 49), FuncBody.stmts (defBody (hTop 49)), defScope (hTop 49), mainGlobals, [], Value.none, builtinsNs),
  some ("_law_joined_right", "_law_joined_right", defArgs (hTop 50), FuncBody.stmts (defBody (hTop 50)), defScope (hTop 50), mainGlobals, [], Value.none, builtinsNs),
  some ("law", "law", defArgs (hTop 51), FuncBody.stmts (defBody (hTop 51)), defScope (hTop 51), mainGlobals, [], Value.none, builtinsNs),
  some ("__init__", "Language.__init__", defArgs (inClass (hTop 19) 0), FuncBody.stmts (defBody (inClass (hTop 19) 0)), defScope (inClass (hTop 19) 0), mainGlobals, [], Value.none, builtinsNs),
  some ("of", "Language.of", defArgs (inClass (hTop 19) 1), FuncBody.stmts (defBody (inClass (hTop 19) 1)), defScope (inClass (hTop 19) 1), mainGlobals, [], Value.none, builtinsNs),
  some ("marks", "Language.marks", defArgs (inClass (hTop 19) 2), FuncBody.stmts (defBody (inClass (hTop 19) 2)), defScope (inClass (hTop 19) 2), mainGlobals, [], Value.none, builtinsNs),
  some ("kinds", "Language.kinds", defArgs (inClass (hTop 19) 3), FuncBody.stmts (defBody (inClass (hTop 19) 3)), defScope (inClass (hTop 19) 3), mainGlobals, [], Value.none, builtinsNs),
  some ("__eq__", "Language.__eq__", defArgs (inClass (hTop 19) 10), FuncBody.stmts (defBody (inClass (hTop 19) 10)), defScope (inClass (hTop 19) 10), mainGlobals, [], Value.none, builtinsNs),
  some ("__init__", "Store.__init__", defArgs (inClass (hTop 32) 0), FuncBody.stmts (defBody (inClass (hTop 32) 0)), defScope (inClass (hTop 32) 0), mainGlobals, [], Value.none, builtinsNs),
  some ("of", "Store.of", defArgs (inClass (hTop 32) 1), FuncBody.stmts (defBody (inClass (hTop 32) 1)), defScope (inClass (hTop 32) 1), mainGlobals, [], Value.none, builtinsNs),
  some ("things", "Store.things", defArgs (inClass (hTop 32) 4), FuncBody.stmts (defBody (inClass (hTop 32) 4)), defScope (inClass (hTop 32) 4), mainGlobals, [], Value.none, builtinsNs),
  some ("__eq__", "Store.__eq__", defArgs (inClass (hTop 32) 19), FuncBody.stmts (defBody (inClass (hTop 32) 19)), defScope (inClass (hTop 32) 19), mainGlobals, [], Value.none, builtinsNs)]
def hVs2 : List (TfHd.FnT) := [
  some ("__contains__", "Store.__contains__", defArgs (inClass (hTop 32) 20), FuncBody.stmts (defBody (inClass (hTop 32) 20)), defScope (inClass (hTop 32) 20), mainGlobals, [], Value.none, builtinsNs),
  some ("with_pair", "Store.with_pair", defArgs (inClass (hTop 32) 8), FuncBody.stmts (defBody (inClass (hTop 32) 8)), defScope (inClass (hTop 32) 8), mainGlobals, [], Value.none, builtinsNs),
  some ("with_thing", "Store.with_thing", defArgs (inClass (hTop 32) 9), FuncBody.stmts (defBody (inClass (hTop 32) 9)), defScope (inClass (hTop 32) 9), mainGlobals, [], Value.none, builtinsNs),
  some ("with_marks", "Store.with_marks", defArgs (inClass (hTop 32) 10), FuncBody.stmts (defBody (inClass (hTop 32) 10)), defScope (inClass (hTop 32) 10), mainGlobals, [], Value.none, builtinsNs),
  some ("require_link", "Store.require_link", defArgs (inClass (hTop 32) 11), FuncBody.stmts (defBody (inClass (hTop 32) 11)), defScope (inClass (hTop 32) 11), mainGlobals, [], Value.none, builtinsNs),
  some ("with_link", "Store.with_link", defArgs (inClass (hTop 32) 12), FuncBody.stmts (defBody (inClass (hTop 32) 12)), defScope (inClass (hTop 32) 12), mainGlobals, [], Value.none, builtinsNs),
  some ("without_link", "Store.without_link", defArgs (inClass (hTop 32) 13), FuncBody.stmts (defBody (inClass (hTop 32) 13)), defScope (inClass (hTop 32) 13), mainGlobals, [], Value.none, builtinsNs),
  some ("without_thing", "Store.without_thing", defArgs (inClass (hTop 32) 14), FuncBody.stmts (defBody (inClass (hTop 32) 14)), defScope (inClass (hTop 32) 14), mainGlobals, [], Value.none, builtinsNs),
  some ("names", "Store.names", defArgs (inClass (hTop 32) 3), FuncBody.stmts (defBody (inClass (hTop 32) 3)), defScope (inClass (hTop 32) 3), mainGlobals, [], Value.none, builtinsNs),
  some ("__len__", "Store.__len__", defArgs (inClass (hTop 32) 21), FuncBody.stmts (defBody (inClass (hTop 32) 21)), defScope (inClass (hTop 32) 21), mainGlobals, [], Value.none, builtinsNs),
  some ("renamed_by", "Store.renamed_by", defArgs (inClass (hTop 32) 16), FuncBody.stmts (defBody (inClass (hTop 32) 16)), defScope (inClass (hTop 32) 16), mainGlobals, [], Value.none, builtinsNs),
  some ("reached", "Store.reached", defArgs (inClass (hTop 32) 17), FuncBody.stmts (defBody (inClass (hTop 32) 17)), defScope (inClass (hTop 32) 17), mainGlobals, [], Value.none, builtinsNs),
  some ("__or__", "Store.__or__", defArgs (inClass (hTop 32) 18), FuncBody.stmts (defBody (inClass (hTop 32) 18)), defScope (inClass (hTop 32) 18), mainGlobals, [], Value.none, builtinsNs),
  some ("__init__", "MadeStore.__init__", defArgs (inClass (hTop 33) 0), FuncBody.stmts (defBody (inClass (hTop 33) 0)), defScope (inClass (hTop 33) 0), mainGlobals, [], Value.none, builtinsNs)]
def hVs : List (TfHd.FnT) := hVs0 ++ (hVs1 ++ (hVs2))
def hBs0 : List (PySem.W.Frag → Bool) := [
  fun K => decide (PySem.W.nsIn K mainGlobals "Language" = some (some (.ref (He.ga K "Language")))),
  fun K => decide (PySem.W.plainGet K (He.ga K "Language") Str.empty = true),
  fun K => decide (PySem.W.hasDictIn K (He.ga K "Language") = true),
  fun K => decide (PySem.W.plainOver K (He.ga K "Language") = true),
  fun K => decide (PySem.W.findIn K (.ref (He.ga K "Language")) "__setattr__" = some (some (.builtin "object.__setattr__"))),
  fun K => decide (PySem.W.findIn K (.ref (He.ga K "Language")) "own_marks" = some none),
  fun K => decide (PySem.W.findIn K (.ref (He.ga K "Language")) "own_kinds" = some none),
  fun K => decide (PySem.W.makesIn K (He.ga K "Language") = true),
  fun K => decide (PySem.W.keepIn K (.ref (He.ga K "Language")) = true),
  fun K => decide (PySem.W.findIn K (.ref (He.ga K "Language")) "__class__" = some (some (.builtin "object.__class__"))),
  fun K => decide (PySem.W.mroIn K (He.ga K "Language") (.type "object") = some true),
  fun K => decide (PySem.W.findIn K (.ref (He.ga K "Language")) "__ne__" = some (some (.builtin "object.__ne__"))),
  fun K => decide (PySem.W.isClsIn K (He.ga K "Language") = true),
  fun K => decide (PySem.W.typeIn K (.ref (He.ga K "Language")) = some (.type "type")),
  fun K => decide (PySem.W.findIn K (.ref (He.ga K "Language")) "__init__" = some (some (.ref (He.ma K (He.ga K "Language") "__init__")))),
  fun K => decide (PySem.W.nsIn K mainGlobals "Store" = some (some (.ref (He.ga K "Store")))),
  fun K => decide (PySem.W.plainGet K (He.ga K "Store") Str.empty = true),
  fun K => decide (PySem.W.hasDictIn K (He.ga K "Store") = true),
  fun K => decide (PySem.W.plainOver K (He.ga K "Store") = true),
  fun K => decide (PySem.W.findIn K (.ref (He.ga K "Store")) "__setattr__" = some (some (.builtin "object.__setattr__"))),
  fun K => decide (PySem.W.findIn K (.ref (He.ga K "Store")) "own_language" = some none),
  fun K => decide (PySem.W.findIn K (.ref (He.ga K "Store")) "own_things" = some none),
  fun K => decide (PySem.W.makesIn K (He.ga K "Store") = true),
  fun K => decide (PySem.W.keepIn K (.ref (He.ga K "Store")) = true),
  fun K => decide (PySem.W.findIn K (.ref (He.ga K "Store")) "__class__" = some (some (.builtin "object.__class__"))),
  fun K => decide (PySem.W.mroIn K (He.ga K "Store") (.type "object") = some true),
  fun K => decide (PySem.W.findIn K (.ref (He.ga K "Store")) "__ne__" = some (some (.builtin "object.__ne__"))),
  fun K => decide (PySem.W.isClsIn K (He.ga K "Store") = true),
  fun K => decide (PySem.W.typeIn K (.ref (He.ga K "Store")) = some (.type "type")),
  fun K => decide (PySem.W.findIn K (.ref (He.ga K "Store")) "__init__" = some (some (.ref (He.ma K (He.ga K "Store") "__init__")))),
  fun K => decide (PySem.W.nsIn K mainGlobals "MadeStore" = some (some (.ref (He.ga K "MadeStore")))),
  fun K => decide (PySem.W.plainGet K (He.ga K "MadeStore") Str.empty = true),
  fun K => decide (PySem.W.hasDictIn K (He.ga K "MadeStore") = true),
  fun K => decide (PySem.W.plainOver K (He.ga K "MadeStore") = true),
  fun K => decide (PySem.W.findIn K (.ref (He.ga K "MadeStore")) "__setattr__" = some (some (.builtin "object.__setattr__"))),
  fun K => decide (PySem.W.findIn K (.ref (He.ga K "MadeStore")) "own_language" = some none),
  fun K => decide (PySem.W.findIn K (.ref (He.ga K "MadeStore")) "own_things" = some none),
  fun K => decide (PySem.W.makesIn K (He.ga K "MadeStore") = true),
  fun K => decide (PySem.W.keepIn K (.ref (He.ga K "MadeStore")) = true),
  fun K => decide (PySem.W.findIn K (.ref (He.ga K "MadeStore")) "__class__" = some (some (.builtin "object.__class__")))]
def hBs1 : List (PySem.W.Frag → Bool) := [
  fun K => decide (PySem.W.mroIn K (He.ga K "MadeStore") (.type "object") = some true),
  fun K => decide (PySem.W.findIn K (.ref (He.ga K "MadeStore")) "__ne__" = some (some (.builtin "object.__ne__"))),
  fun K => decide (PySem.W.isClsIn K (He.ga K "MadeStore") = true),
  fun K => decide (PySem.W.typeIn K (.ref (He.ga K "MadeStore")) = some (.type "type")),
  fun K => decide (PySem.W.findIn K (.ref (He.ga K "MadeStore")) "__init__" = some (some (.ref (He.ma K (He.ga K "MadeStore") "__init__")))),
  fun K => decide (PySem.W.specialIn K (.builtin "object.__class__") "__get__" = some (some (.builtin "getset_descriptor.__get__"))),
  fun K => decide (PySem.W.takesIn K (.builtin "object.__class__") = some true),
  fun K => decide (PySem.W.subIn K (.ref (He.ga K "MadeStore")) (.ref (He.ga K "Store")) = some true),
  fun K => decide (PySem.W.notFirst K (He.ga K "MadeStore") (.ref (He.ga K "MadeStore")) = true),
  fun K => decide (PySem.W.notFirst K (He.ga K "MadeStore") (.ref (He.ga K "Store")) = true),
  fun K => decide (PySem.W.notFirst K (He.ga K "Language") (.ref (He.ga K "Language")) = true),
  fun K => decide (PySem.W.selfFirst K (He.ga K "MadeStore") = true),
  fun K => decide (PySem.W.readsIn K (He.ga K "Language") (.type "type") = true),
  fun K => decide (PySem.W.specialIn K (.ref (He.ga K "Language")) "__getattribute__" = some (some (.builtin "type.__getattribute__"))),
  fun K => TfHd.cmB K (He.ga K "Language") "of",
  fun K => TfHd.recB K (TfHd.cmA K (He.ga K "Language") "of") "classmethod",
  fun K => decide (PySem.W.fnIn K (TfHd.recA K (TfHd.cmA K (He.ga K "Language") "of") "classmethod") = true),
  fun K => decide (PySem.W.readsIn K (He.ga K "Store") (.type "type") = true),
  fun K => decide (PySem.W.specialIn K (.ref (He.ga K "Store")) "__getattribute__" = some (some (.builtin "type.__getattribute__"))),
  fun K => TfHd.cmB K (He.ga K "Store") "of",
  fun K => TfHd.recB K (TfHd.cmA K (He.ga K "Store") "of") "classmethod",
  fun K => decide (PySem.W.fnIn K (TfHd.recA K (TfHd.cmA K (He.ga K "Store") "of") "classmethod") = true),
  fun K => decide (PySem.W.findIn K (.ref (He.ga K "Language")) "marks" = some (some (.ref (He.ma K (He.ga K "Language") "marks")))),
  fun K => decide (PySem.W.specialIn K (.ref (He.ma K (He.ga K "Language") "marks")) "__get__" = some (some (.builtin "property.__get__"))),
  fun K => decide (PySem.W.takesIn K (.ref (He.ma K (He.ga K "Language") "marks")) = some true),
  fun K => TfHd.recB K (He.ma K (He.ga K "Language") "marks") "property",
  fun K => decide (PySem.W.findIn K (.ref (He.ga K "Language")) "kinds" = some (some (.ref (He.ma K (He.ga K "Language") "kinds")))),
  fun K => decide (PySem.W.specialIn K (.ref (He.ma K (He.ga K "Language") "kinds")) "__get__" = some (some (.builtin "property.__get__"))),
  fun K => decide (PySem.W.takesIn K (.ref (He.ma K (He.ga K "Language") "kinds")) = some true),
  fun K => TfHd.recB K (He.ma K (He.ga K "Language") "kinds") "property",
  fun K => decide (PySem.W.findIn K (.ref (He.ga K "MadeStore")) "things" = some (some (.ref (He.ma K (He.ga K "MadeStore") "things")))),
  fun K => decide (PySem.W.findIn K (.ref (He.ga K "Store")) "things" = some (some (.ref (He.ma K (He.ga K "MadeStore") "things")))),
  fun K => decide (PySem.W.specialIn K (.ref (He.ma K (He.ga K "MadeStore") "things")) "__get__" = some (some (.builtin "property.__get__"))),
  fun K => decide (PySem.W.takesIn K (.ref (He.ma K (He.ga K "MadeStore") "things")) = some true),
  fun K => TfHd.recB K (He.ma K (He.ga K "MadeStore") "things") "property",
  fun K => decide (PySem.W.findIn K (.ref (He.ga K "MadeStore")) "names" = some (some (.ref (He.ma K (He.ga K "MadeStore") "names")))),
  fun K => decide (PySem.W.findIn K (.ref (He.ga K "Store")) "names" = some (some (.ref (He.ma K (He.ga K "MadeStore") "names")))),
  fun K => decide (PySem.W.specialIn K (.ref (He.ma K (He.ga K "MadeStore") "names")) "__get__" = some (some (.builtin "property.__get__"))),
  fun K => decide (PySem.W.takesIn K (.ref (He.ma K (He.ga K "MadeStore") "names")) = some true),
  fun K => TfHd.recB K (He.ma K (He.ga K "MadeStore") "names") "property"]
def hBs2 : List (PySem.W.Frag → Bool) := [
  fun K => decide (PySem.W.findIn K (.ref (He.ga K "Language")) "__eq__" = some (some (.ref (He.ma K (He.ga K "Language") "__eq__")))),
  fun K => decide (PySem.W.isFn K (.ref (He.ma K (He.ga K "Language") "__eq__")) = true),
  fun K => decide (PySem.W.findIn K (.ref (He.ga K "MadeStore")) "__eq__" = some (some (.ref (He.ma K (He.ga K "MadeStore") "__eq__")))),
  fun K => decide (PySem.W.isFn K (.ref (He.ma K (He.ga K "MadeStore") "__eq__")) = true),
  fun K => decide (PySem.W.findIn K (.ref (He.ga K "MadeStore")) "__contains__" = some (some (.ref (He.ma K (He.ga K "MadeStore") "__contains__")))),
  fun K => decide (PySem.W.findIn K (.ref (He.ga K "Store")) "__contains__" = some (some (.ref (He.ma K (He.ga K "MadeStore") "__contains__")))),
  fun K => decide (PySem.W.isFn K (.ref (He.ma K (He.ga K "MadeStore") "__contains__")) = true),
  fun K => decide (PySem.W.findIn K (.ref (He.ga K "MadeStore")) "__len__" = some (some (.ref (He.ma K (He.ga K "MadeStore") "__len__")))),
  fun K => decide (PySem.W.findIn K (.ref (He.ga K "Store")) "__len__" = some (some (.ref (He.ma K (He.ga K "MadeStore") "__len__")))),
  fun K => decide (PySem.W.isFn K (.ref (He.ma K (He.ga K "MadeStore") "__len__")) = true),
  fun K => decide (PySem.W.findIn K (.ref (He.ga K "MadeStore")) "with_pair" = some (some (.ref (He.ma K (He.ga K "MadeStore") "with_pair")))),
  fun K => decide (PySem.W.findIn K (.ref (He.ga K "Store")) "with_pair" = some (some (.ref (He.ma K (He.ga K "MadeStore") "with_pair")))),
  fun K => decide (PySem.W.isFn K (.ref (He.ma K (He.ga K "MadeStore") "with_pair")) = true),
  fun K => decide (PySem.W.findIn K (.ref (He.ga K "MadeStore")) "with_thing" = some (some (.ref (He.ma K (He.ga K "MadeStore") "with_thing")))),
  fun K => decide (PySem.W.findIn K (.ref (He.ga K "Store")) "with_thing" = some (some (.ref (He.ma K (He.ga K "MadeStore") "with_thing")))),
  fun K => decide (PySem.W.isFn K (.ref (He.ma K (He.ga K "MadeStore") "with_thing")) = true),
  fun K => decide (PySem.W.findIn K (.ref (He.ga K "MadeStore")) "with_marks" = some (some (.ref (He.ma K (He.ga K "MadeStore") "with_marks")))),
  fun K => decide (PySem.W.findIn K (.ref (He.ga K "Store")) "with_marks" = some (some (.ref (He.ma K (He.ga K "MadeStore") "with_marks")))),
  fun K => decide (PySem.W.isFn K (.ref (He.ma K (He.ga K "MadeStore") "with_marks")) = true),
  fun K => decide (PySem.W.findIn K (.ref (He.ga K "MadeStore")) "require_link" = some (some (.ref (He.ma K (He.ga K "MadeStore") "require_link")))),
  fun K => decide (PySem.W.findIn K (.ref (He.ga K "Store")) "require_link" = some (some (.ref (He.ma K (He.ga K "MadeStore") "require_link")))),
  fun K => decide (PySem.W.isFn K (.ref (He.ma K (He.ga K "MadeStore") "require_link")) = true),
  fun K => decide (PySem.W.findIn K (.ref (He.ga K "MadeStore")) "with_link" = some (some (.ref (He.ma K (He.ga K "MadeStore") "with_link")))),
  fun K => decide (PySem.W.findIn K (.ref (He.ga K "Store")) "with_link" = some (some (.ref (He.ma K (He.ga K "MadeStore") "with_link")))),
  fun K => decide (PySem.W.isFn K (.ref (He.ma K (He.ga K "MadeStore") "with_link")) = true),
  fun K => decide (PySem.W.findIn K (.ref (He.ga K "MadeStore")) "without_link" = some (some (.ref (He.ma K (He.ga K "MadeStore") "without_link")))),
  fun K => decide (PySem.W.findIn K (.ref (He.ga K "Store")) "without_link" = some (some (.ref (He.ma K (He.ga K "MadeStore") "without_link")))),
  fun K => decide (PySem.W.isFn K (.ref (He.ma K (He.ga K "MadeStore") "without_link")) = true),
  fun K => decide (PySem.W.findIn K (.ref (He.ga K "MadeStore")) "without_thing" = some (some (.ref (He.ma K (He.ga K "MadeStore") "without_thing")))),
  fun K => decide (PySem.W.findIn K (.ref (He.ga K "Store")) "without_thing" = some (some (.ref (He.ma K (He.ga K "MadeStore") "without_thing")))),
  fun K => decide (PySem.W.isFn K (.ref (He.ma K (He.ga K "MadeStore") "without_thing")) = true),
  fun K => decide (PySem.W.findIn K (.ref (He.ga K "MadeStore")) "renamed_by" = some (some (.ref (He.ma K (He.ga K "MadeStore") "renamed_by")))),
  fun K => decide (PySem.W.isFn K (.ref (He.ma K (He.ga K "MadeStore") "renamed_by")) = true),
  fun K => decide (PySem.W.findIn K (.ref (He.ga K "MadeStore")) "reached" = some (some (.ref (He.ma K (He.ga K "MadeStore") "reached")))),
  fun K => decide (PySem.W.isFn K (.ref (He.ma K (He.ga K "MadeStore") "reached")) = true),
  fun K => decide (PySem.W.findIn K (.ref (He.ga K "MadeStore")) "__or__" = some (some (.ref (He.ma K (He.ga K "MadeStore") "__or__")))),
  fun K => decide (PySem.W.isFn K (.ref (He.ma K (He.ga K "MadeStore") "__or__")) = true),
  fun K => decide (PySem.W.isFn K (.ref (He.ma K (He.ga K "Language") "__init__")) = true),
  fun K => decide (PySem.W.isFn K (.ref (He.ma K (He.ga K "Store") "__init__")) = true),
  fun K => decide (PySem.W.isFn K (.ref (He.ma K (He.ga K "MadeStore") "__init__")) = true)]
def hBs3 : List (PySem.W.Frag → Bool) := [
  fun K => decide (PySem.W.nsIn K mainGlobals "is_name" = some (some (.ref (He.ga K "is_name")))),
  fun K => TfHd.fnB K (He.ga K "is_name") "is_name",
  fun K => decide (PySem.W.codeIn K (.ref (TfHd.codeA K (He.ga K "is_name"))) "is_name" = true),
  fun K => decide (PySem.W.keepIn K (.ref (He.ga K "is_name")) = true),
  fun K => decide (PySem.W.nsIn K mainGlobals "require_language" = some (some (.ref (He.ga K "require_language")))),
  fun K => TfHd.fnB K (He.ga K "require_language") "require_language",
  fun K => decide (PySem.W.codeIn K (.ref (TfHd.codeA K (He.ga K "require_language"))) "require_language" = true),
  fun K => decide (PySem.W.keepIn K (.ref (He.ga K "require_language")) = true),
  fun K => decide (PySem.W.nsIn K mainGlobals "require_mark" = some (some (.ref (He.ga K "require_mark")))),
  fun K => TfHd.fnB K (He.ga K "require_mark") "require_mark",
  fun K => decide (PySem.W.codeIn K (.ref (TfHd.codeA K (He.ga K "require_mark"))) "require_mark" = true),
  fun K => decide (PySem.W.keepIn K (.ref (He.ga K "require_mark")) = true),
  fun K => decide (PySem.W.nsIn K mainGlobals "require_kind" = some (some (.ref (He.ga K "require_kind")))),
  fun K => TfHd.fnB K (He.ga K "require_kind") "require_kind",
  fun K => decide (PySem.W.codeIn K (.ref (TfHd.codeA K (He.ga K "require_kind"))) "require_kind" = true),
  fun K => decide (PySem.W.keepIn K (.ref (He.ga K "require_kind")) = true),
  fun K => decide (PySem.W.nsIn K mainGlobals "different_names" = some (some (.ref (He.ga K "different_names")))),
  fun K => TfHd.fnB K (He.ga K "different_names") "different_names",
  fun K => decide (PySem.W.codeIn K (.ref (TfHd.codeA K (He.ga K "different_names"))) "different_names" = true),
  fun K => decide (PySem.W.keepIn K (.ref (He.ga K "different_names")) = true),
  fun K => decide (PySem.W.nsIn K mainGlobals "require_thing" = some (some (.ref (He.ga K "require_thing")))),
  fun K => TfHd.fnB K (He.ga K "require_thing") "require_thing",
  fun K => decide (PySem.W.codeIn K (.ref (TfHd.codeA K (He.ga K "require_thing"))) "require_thing" = true),
  fun K => decide (PySem.W.keepIn K (.ref (He.ga K "require_thing")) = true),
  fun K => decide (PySem.W.nsIn K mainGlobals "require_pair" = some (some (.ref (He.ga K "require_pair")))),
  fun K => TfHd.fnB K (He.ga K "require_pair") "require_pair",
  fun K => decide (PySem.W.codeIn K (.ref (TfHd.codeA K (He.ga K "require_pair"))) "require_pair" = true),
  fun K => decide (PySem.W.keepIn K (.ref (He.ga K "require_pair")) = true),
  fun K => decide (PySem.W.nsIn K mainGlobals "different_items" = some (some (.ref (He.ga K "different_items")))),
  fun K => TfHd.fnB K (He.ga K "different_items") "different_items",
  fun K => decide (PySem.W.codeIn K (.ref (TfHd.codeA K (He.ga K "different_items"))) "different_items" = true),
  fun K => decide (PySem.W.keepIn K (.ref (He.ga K "different_items")) = true),
  fun K => decide (PySem.W.nsIn K mainGlobals "checked_things" = some (some (.ref (He.ga K "checked_things")))),
  fun K => TfHd.fnB K (He.ga K "checked_things") "checked_things",
  fun K => decide (PySem.W.codeIn K (.ref (TfHd.codeA K (He.ga K "checked_things"))) "checked_things" = true),
  fun K => decide (PySem.W.keepIn K (.ref (He.ga K "checked_things")) = true),
  fun K => decide (PySem.W.nsIn K mainGlobals "store_in" = some (some (.ref (He.ga K "store_in")))),
  fun K => TfHd.fnB K (He.ga K "store_in") "store_in",
  fun K => decide (PySem.W.codeIn K (.ref (TfHd.codeA K (He.ga K "store_in"))) "store_in" = true),
  fun K => decide (PySem.W.keepIn K (.ref (He.ga K "store_in")) = true)]
def hBs4 : List (PySem.W.Frag → Bool) := [
  fun K => decide (PySem.W.nsIn K mainGlobals "joined_pair" = some (some (.ref (He.ga K "joined_pair")))),
  fun K => TfHd.fnB K (He.ga K "joined_pair") "joined_pair",
  fun K => decide (PySem.W.codeIn K (.ref (TfHd.codeA K (He.ga K "joined_pair"))) "joined_pair" = true),
  fun K => decide (PySem.W.keepIn K (.ref (He.ga K "joined_pair")) = true),
  fun K => decide (PySem.W.nsIn K mainGlobals "joined_things" = some (some (.ref (He.ga K "joined_things")))),
  fun K => TfHd.fnB K (He.ga K "joined_things") "joined_things",
  fun K => decide (PySem.W.codeIn K (.ref (TfHd.codeA K (He.ga K "joined_things"))) "joined_things" = true),
  fun K => decide (PySem.W.keepIn K (.ref (He.ga K "joined_things")) = true),
  fun K => decide (PySem.W.nsIn K mainGlobals "new_names" = some (some (.ref (He.ga K "new_names")))),
  fun K => TfHd.fnB K (He.ga K "new_names") "new_names",
  fun K => decide (PySem.W.codeIn K (.ref (TfHd.codeA K (He.ga K "new_names"))) "new_names" = true),
  fun K => decide (PySem.W.keepIn K (.ref (He.ga K "new_names")) = true),
  fun K => decide (PySem.W.nsIn K mainGlobals "reached_in" = some (some (.ref (He.ga K "reached_in")))),
  fun K => TfHd.fnB K (He.ga K "reached_in") "reached_in",
  fun K => decide (PySem.W.codeIn K (.ref (TfHd.codeA K (He.ga K "reached_in"))) "reached_in" = true),
  fun K => decide (PySem.W.keepIn K (.ref (He.ga K "reached_in")) = true),
  fun K => decide (PySem.W.nsIn K mainGlobals "_law_dice" = some (some (.ref (He.ga K "_law_dice")))),
  fun K => TfHd.fnB K (He.ga K "_law_dice") "_law_dice",
  fun K => decide (PySem.W.codeIn K (.ref (TfHd.codeA K (He.ga K "_law_dice"))) "_law_dice" = true),
  fun K => decide (PySem.W.keepIn K (.ref (He.ga K "_law_dice")) = true),
  fun K => decide (PySem.W.nsIn K mainGlobals "_law_roll" = some (some (.ref (He.ga K "_law_roll")))),
  fun K => TfHd.fnB K (He.ga K "_law_roll") "_law_roll",
  fun K => decide (PySem.W.codeIn K (.ref (TfHd.codeA K (He.ga K "_law_roll"))) "_law_roll" = true),
  fun K => decide (PySem.W.keepIn K (.ref (He.ga K "_law_roll")) = true),
  fun K => decide (PySem.W.nsIn K mainGlobals "_law_pick" = some (some (.ref (He.ga K "_law_pick")))),
  fun K => TfHd.fnB K (He.ga K "_law_pick") "_law_pick",
  fun K => decide (PySem.W.codeIn K (.ref (TfHd.codeA K (He.ga K "_law_pick"))) "_law_pick" = true),
  fun K => decide (PySem.W.keepIn K (.ref (He.ga K "_law_pick")) = true),
  fun K => decide (PySem.W.nsIn K mainGlobals "_law_mixed" = some (some (.ref (He.ga K "_law_mixed")))),
  fun K => TfHd.fnB K (He.ga K "_law_mixed") "_law_mixed",
  fun K => decide (PySem.W.codeIn K (.ref (TfHd.codeA K (He.ga K "_law_mixed"))) "_law_mixed" = true),
  fun K => decide (PySem.W.keepIn K (.ref (He.ga K "_law_mixed")) = true),
  fun K => decide (PySem.W.nsIn K mainGlobals "_law_words" = some (some (.ref (He.ga K "_law_words")))),
  fun K => TfHd.fnB K (He.ga K "_law_words") "_law_words",
  fun K => decide (PySem.W.codeIn K (.ref (TfHd.codeA K (He.ga K "_law_words"))) "_law_words" = true),
  fun K => decide (PySem.W.keepIn K (.ref (He.ga K "_law_words")) = true),
  fun K => decide (PySem.W.nsIn K mainGlobals "_law_language" = some (some (.ref (He.ga K "_law_language")))),
  fun K => TfHd.fnB K (He.ga K "_law_language") "_law_language",
  fun K => decide (PySem.W.codeIn K (.ref (TfHd.codeA K (He.ga K "_law_language"))) "_law_language" = true),
  fun K => decide (PySem.W.keepIn K (.ref (He.ga K "_law_language")) = true)]
def hBs5 : List (PySem.W.Frag → Bool) := [
  fun K => decide (PySem.W.nsIn K mainGlobals "_law_links" = some (some (.ref (He.ga K "_law_links")))),
  fun K => TfHd.fnB K (He.ga K "_law_links") "_law_links",
  fun K => decide (PySem.W.codeIn K (.ref (TfHd.codeA K (He.ga K "_law_links"))) "_law_links" = true),
  fun K => decide (PySem.W.keepIn K (.ref (He.ga K "_law_links")) = true),
  fun K => decide (PySem.W.nsIn K mainGlobals "_law_store" = some (some (.ref (He.ga K "_law_store")))),
  fun K => TfHd.fnB K (He.ga K "_law_store") "_law_store",
  fun K => decide (PySem.W.codeIn K (.ref (TfHd.codeA K (He.ga K "_law_store"))) "_law_store" = true),
  fun K => decide (PySem.W.keepIn K (.ref (He.ga K "_law_store")) = true),
  fun K => decide (PySem.W.nsIn K mainGlobals "require_store" = some (some (.ref (He.ga K "require_store")))),
  fun K => TfHd.fnB K (He.ga K "require_store") "require_store",
  fun K => decide (PySem.W.codeIn K (.ref (TfHd.codeA K (He.ga K "require_store"))) "require_store" = true),
  fun K => decide (PySem.W.keepIn K (.ref (He.ga K "require_store")) = true),
  fun K => decide (PySem.W.nsIn K mainGlobals "way_to" = some (some (.ref (He.ga K "way_to")))),
  fun K => TfHd.fnB K (He.ga K "way_to") "way_to",
  fun K => decide (PySem.W.codeIn K (.ref (TfHd.codeA K (He.ga K "way_to"))) "way_to" = true),
  fun K => decide (PySem.W.keepIn K (.ref (He.ga K "way_to")) = true),
  fun K => decide (PySem.W.nsIn K mainGlobals "first_ways" = some (some (.ref (He.ga K "first_ways")))),
  fun K => TfHd.fnB K (He.ga K "first_ways") "first_ways",
  fun K => decide (PySem.W.codeIn K (.ref (TfHd.codeA K (He.ga K "first_ways"))) "first_ways" = true),
  fun K => decide (PySem.W.keepIn K (.ref (He.ga K "first_ways")) = true),
  fun K => decide (PySem.W.nsIn K mainGlobals "first_way" = some (some (.ref (He.ga K "first_way")))),
  fun K => TfHd.fnB K (He.ga K "first_way") "first_way",
  fun K => decide (PySem.W.codeIn K (.ref (TfHd.codeA K (He.ga K "first_way"))) "first_way" = true),
  fun K => decide (PySem.W.keepIn K (.ref (He.ga K "first_way")) = true),
  fun K => decide (PySem.W.nsIn K mainGlobals "_law_flat" = some (some (.ref (He.ga K "_law_flat")))),
  fun K => TfHd.fnB K (He.ga K "_law_flat") "_law_flat",
  fun K => decide (PySem.W.codeIn K (.ref (TfHd.codeA K (He.ga K "_law_flat"))) "_law_flat" = true),
  fun K => decide (PySem.W.keepIn K (.ref (He.ga K "_law_flat")) = true),
  fun K => decide (PySem.W.nsIn K mainGlobals "_law_changed" = some (some (.ref (He.ga K "_law_changed")))),
  fun K => TfHd.fnB K (He.ga K "_law_changed") "_law_changed",
  fun K => decide (PySem.W.codeIn K (.ref (TfHd.codeA K (He.ga K "_law_changed"))) "_law_changed" = true),
  fun K => decide (PySem.W.keepIn K (.ref (He.ga K "_law_changed")) = true),
  fun K => decide (PySem.W.nsIn K mainGlobals "_law_history_right" = some (some (.ref (He.ga K "_law_history_right")))),
  fun K => TfHd.fnB K (He.ga K "_law_history_right") "_law_history_right",
  fun K => decide (PySem.W.codeIn K (.ref (TfHd.codeA K (He.ga K "_law_history_right"))) "_law_history_right" = true),
  fun K => decide (PySem.W.keepIn K (.ref (He.ga K "_law_history_right")) = true),
  fun K => decide (PySem.W.nsIn K mainGlobals "_law_joined_right" = some (some (.ref (He.ga K "_law_joined_right")))),
  fun K => TfHd.fnB K (He.ga K "_law_joined_right") "_law_joined_right",
  fun K => decide (PySem.W.codeIn K (.ref (TfHd.codeA K (He.ga K "_law_joined_right"))) "_law_joined_right" = true),
  fun K => decide (PySem.W.keepIn K (.ref (He.ga K "_law_joined_right")) = true)]
def hBs6 : List (PySem.W.Frag → Bool) := [
  fun K => decide (PySem.W.nsIn K mainGlobals "law" = some (some (.ref (He.ga K "law")))),
  fun K => TfHd.fnB K (He.ga K "law") "law",
  fun K => decide (PySem.W.codeIn K (.ref (TfHd.codeA K (He.ga K "law"))) "law" = true),
  fun K => decide (PySem.W.keepIn K (.ref (He.ga K "law")) = true),
  fun K => TfHd.fnB K (He.ma K (He.ga K "Language") "__init__") "Language.__init__",
  fun K => decide (PySem.W.codeIn K (.ref (TfHd.codeA K (He.ma K (He.ga K "Language") "__init__"))) "Language.__init__" = true),
  fun K => decide (PySem.W.keepIn K (.ref (He.ma K (He.ga K "Language") "__init__")) = true),
  fun K => TfHd.fnB K (TfHd.recA K (TfHd.cmA K (He.ga K "Language") "of") "classmethod") "Language.of",
  fun K => decide (PySem.W.codeIn K (.ref (TfHd.codeA K (TfHd.recA K (TfHd.cmA K (He.ga K "Language") "of") "classmethod"))) "Language.of" = true),
  fun K => decide (PySem.W.keepIn K (.ref (TfHd.recA K (TfHd.cmA K (He.ga K "Language") "of") "classmethod")) = true),
  fun K => TfHd.fnB K (TfHd.recA K (He.ma K (He.ga K "Language") "marks") "property") "Language.marks",
  fun K => decide (PySem.W.codeIn K (.ref (TfHd.codeA K (TfHd.recA K (He.ma K (He.ga K "Language") "marks") "property"))) "Language.marks" = true),
  fun K => decide (PySem.W.keepIn K (.ref (TfHd.recA K (He.ma K (He.ga K "Language") "marks") "property")) = true),
  fun K => TfHd.fnB K (TfHd.recA K (He.ma K (He.ga K "Language") "kinds") "property") "Language.kinds",
  fun K => decide (PySem.W.codeIn K (.ref (TfHd.codeA K (TfHd.recA K (He.ma K (He.ga K "Language") "kinds") "property"))) "Language.kinds" = true),
  fun K => decide (PySem.W.keepIn K (.ref (TfHd.recA K (He.ma K (He.ga K "Language") "kinds") "property")) = true),
  fun K => TfHd.fnB K (He.ma K (He.ga K "Language") "__eq__") "Language.__eq__",
  fun K => decide (PySem.W.codeIn K (.ref (TfHd.codeA K (He.ma K (He.ga K "Language") "__eq__"))) "Language.__eq__" = true),
  fun K => decide (PySem.W.keepIn K (.ref (He.ma K (He.ga K "Language") "__eq__")) = true),
  fun K => TfHd.fnB K (He.ma K (He.ga K "Store") "__init__") "Store.__init__",
  fun K => decide (PySem.W.codeIn K (.ref (TfHd.codeA K (He.ma K (He.ga K "Store") "__init__"))) "Store.__init__" = true),
  fun K => decide (PySem.W.keepIn K (.ref (He.ma K (He.ga K "Store") "__init__")) = true),
  fun K => TfHd.fnB K (TfHd.recA K (TfHd.cmA K (He.ga K "Store") "of") "classmethod") "Store.of",
  fun K => decide (PySem.W.codeIn K (.ref (TfHd.codeA K (TfHd.recA K (TfHd.cmA K (He.ga K "Store") "of") "classmethod"))) "Store.of" = true),
  fun K => decide (PySem.W.keepIn K (.ref (TfHd.recA K (TfHd.cmA K (He.ga K "Store") "of") "classmethod")) = true),
  fun K => TfHd.fnB K (TfHd.recA K (He.ma K (He.ga K "MadeStore") "things") "property") "Store.things",
  fun K => decide (PySem.W.codeIn K (.ref (TfHd.codeA K (TfHd.recA K (He.ma K (He.ga K "MadeStore") "things") "property"))) "Store.things" = true),
  fun K => decide (PySem.W.keepIn K (.ref (TfHd.recA K (He.ma K (He.ga K "MadeStore") "things") "property")) = true),
  fun K => TfHd.fnB K (He.ma K (He.ga K "MadeStore") "__eq__") "Store.__eq__",
  fun K => decide (PySem.W.codeIn K (.ref (TfHd.codeA K (He.ma K (He.ga K "MadeStore") "__eq__"))) "Store.__eq__" = true),
  fun K => decide (PySem.W.keepIn K (.ref (He.ma K (He.ga K "MadeStore") "__eq__")) = true),
  fun K => TfHd.fnB K (He.ma K (He.ga K "MadeStore") "__contains__") "Store.__contains__",
  fun K => decide (PySem.W.codeIn K (.ref (TfHd.codeA K (He.ma K (He.ga K "MadeStore") "__contains__"))) "Store.__contains__" = true),
  fun K => decide (PySem.W.keepIn K (.ref (He.ma K (He.ga K "MadeStore") "__contains__")) = true),
  fun K => TfHd.fnB K (He.ma K (He.ga K "MadeStore") "with_pair") "Store.with_pair",
  fun K => decide (PySem.W.codeIn K (.ref (TfHd.codeA K (He.ma K (He.ga K "MadeStore") "with_pair"))) "Store.with_pair" = true),
  fun K => decide (PySem.W.keepIn K (.ref (He.ma K (He.ga K "MadeStore") "with_pair")) = true),
  fun K => TfHd.fnB K (He.ma K (He.ga K "MadeStore") "with_thing") "Store.with_thing",
  fun K => decide (PySem.W.codeIn K (.ref (TfHd.codeA K (He.ma K (He.ga K "MadeStore") "with_thing"))) "Store.with_thing" = true),
  fun K => decide (PySem.W.keepIn K (.ref (He.ma K (He.ga K "MadeStore") "with_thing")) = true)]
def hBs7 : List (PySem.W.Frag → Bool) := [
  fun K => TfHd.fnB K (He.ma K (He.ga K "MadeStore") "with_marks") "Store.with_marks",
  fun K => decide (PySem.W.codeIn K (.ref (TfHd.codeA K (He.ma K (He.ga K "MadeStore") "with_marks"))) "Store.with_marks" = true),
  fun K => decide (PySem.W.keepIn K (.ref (He.ma K (He.ga K "MadeStore") "with_marks")) = true),
  fun K => TfHd.fnB K (He.ma K (He.ga K "MadeStore") "require_link") "Store.require_link",
  fun K => decide (PySem.W.codeIn K (.ref (TfHd.codeA K (He.ma K (He.ga K "MadeStore") "require_link"))) "Store.require_link" = true),
  fun K => decide (PySem.W.keepIn K (.ref (He.ma K (He.ga K "MadeStore") "require_link")) = true),
  fun K => TfHd.fnB K (He.ma K (He.ga K "MadeStore") "with_link") "Store.with_link",
  fun K => decide (PySem.W.codeIn K (.ref (TfHd.codeA K (He.ma K (He.ga K "MadeStore") "with_link"))) "Store.with_link" = true),
  fun K => decide (PySem.W.keepIn K (.ref (He.ma K (He.ga K "MadeStore") "with_link")) = true),
  fun K => TfHd.fnB K (He.ma K (He.ga K "MadeStore") "without_link") "Store.without_link",
  fun K => decide (PySem.W.codeIn K (.ref (TfHd.codeA K (He.ma K (He.ga K "MadeStore") "without_link"))) "Store.without_link" = true),
  fun K => decide (PySem.W.keepIn K (.ref (He.ma K (He.ga K "MadeStore") "without_link")) = true),
  fun K => TfHd.fnB K (He.ma K (He.ga K "MadeStore") "without_thing") "Store.without_thing",
  fun K => decide (PySem.W.codeIn K (.ref (TfHd.codeA K (He.ma K (He.ga K "MadeStore") "without_thing"))) "Store.without_thing" = true),
  fun K => decide (PySem.W.keepIn K (.ref (He.ma K (He.ga K "MadeStore") "without_thing")) = true),
  fun K => TfHd.fnB K (TfHd.recA K (He.ma K (He.ga K "MadeStore") "names") "property") "Store.names",
  fun K => decide (PySem.W.codeIn K (.ref (TfHd.codeA K (TfHd.recA K (He.ma K (He.ga K "MadeStore") "names") "property"))) "Store.names" = true),
  fun K => decide (PySem.W.keepIn K (.ref (TfHd.recA K (He.ma K (He.ga K "MadeStore") "names") "property")) = true),
  fun K => TfHd.fnB K (He.ma K (He.ga K "MadeStore") "__len__") "Store.__len__",
  fun K => decide (PySem.W.codeIn K (.ref (TfHd.codeA K (He.ma K (He.ga K "MadeStore") "__len__"))) "Store.__len__" = true),
  fun K => decide (PySem.W.keepIn K (.ref (He.ma K (He.ga K "MadeStore") "__len__")) = true),
  fun K => TfHd.fnB K (He.ma K (He.ga K "MadeStore") "renamed_by") "Store.renamed_by",
  fun K => decide (PySem.W.codeIn K (.ref (TfHd.codeA K (He.ma K (He.ga K "MadeStore") "renamed_by"))) "Store.renamed_by" = true),
  fun K => decide (PySem.W.keepIn K (.ref (He.ma K (He.ga K "MadeStore") "renamed_by")) = true),
  fun K => TfHd.fnB K (He.ma K (He.ga K "MadeStore") "reached") "Store.reached",
  fun K => decide (PySem.W.codeIn K (.ref (TfHd.codeA K (He.ma K (He.ga K "MadeStore") "reached"))) "Store.reached" = true),
  fun K => decide (PySem.W.keepIn K (.ref (He.ma K (He.ga K "MadeStore") "reached")) = true),
  fun K => TfHd.fnB K (He.ma K (He.ga K "MadeStore") "__or__") "Store.__or__",
  fun K => decide (PySem.W.codeIn K (.ref (TfHd.codeA K (He.ma K (He.ga K "MadeStore") "__or__"))) "Store.__or__" = true),
  fun K => decide (PySem.W.keepIn K (.ref (He.ma K (He.ga K "MadeStore") "__or__")) = true),
  fun K => TfHd.fnB K (He.ma K (He.ga K "MadeStore") "__init__") "MadeStore.__init__",
  fun K => decide (PySem.W.codeIn K (.ref (TfHd.codeA K (He.ma K (He.ga K "MadeStore") "__init__"))) "MadeStore.__init__" = true),
  fun K => decide (PySem.W.keepIn K (.ref (He.ma K (He.ga K "MadeStore") "__init__")) = true),
  fun K => decide (PySem.W.nsIn K mainGlobals "isinstance" = some none),
  fun K => decide (PySem.W.nsIn K mainGlobals "tuple" = some none),
  fun K => decide (PySem.W.nsIn K mainGlobals "all" = some none),
  fun K => decide (PySem.W.nsIn K mainGlobals "any" = some none),
  fun K => decide (PySem.W.nsIn K mainGlobals "sorted" = some none),
  fun K => decide (PySem.W.nsIn K mainGlobals "list" = some none),
  fun K => decide (PySem.W.nsIn K mainGlobals "len" = some none)]
def hBs8 : List (PySem.W.Frag → Bool) := [
  fun K => decide (PySem.W.nsIn K mainGlobals "str" = some none),
  fun K => decide (PySem.W.nsIn K mainGlobals "int" = some none),
  fun K => decide (PySem.W.nsIn K mainGlobals "abs" = some none),
  fun K => decide (PySem.W.nsIn K mainGlobals "max" = some none),
  fun K => decide (PySem.W.nsIn K mainGlobals "min" = some none),
  fun K => decide (PySem.W.nsIn K mainGlobals "range" = some none),
  fun K => decide (PySem.W.nsIn K mainGlobals "set" = some none),
  fun K => decide (PySem.W.nsIn K mainGlobals "dict" = some none),
  fun K => decide (PySem.W.nsIn K mainGlobals "enumerate" = some none),
  fun K => decide (PySem.W.nsIn K mainGlobals "MAX_MARKS" = some (some (.int 8 (TfHd.tokA K "MAX_MARKS")))),
  fun K => decide (PySem.W.nsIn K mainGlobals "MAX_KINDS" = some (some (.int 4 (TfHd.tokA K "MAX_KINDS")))),
  fun K => decide (PySem.W.nsIn K mainGlobals "MAX_SIGNS" = some (some (.int 8 (TfHd.tokA K "MAX_SIGNS")))),
  fun K => decide (PySem.W.nsIn K mainGlobals "MAX_THINGS" = some (some (.int 400 (TfHd.tokA K "MAX_THINGS")))),
  fun K => decide (PySem.W.nsIn K mainGlobals "SIGNS" = some (some (.str "abcdefghijklmnopqrstuvwxyz" (TfHd.tokA K "SIGNS"))))]
def hBs : List (PySem.W.Frag → Bool) := hBs0 ++ (hBs1 ++ (hBs2 ++ (hBs3 ++ (hBs4 ++ (hBs5 ++ (hBs6 ++ (hBs7 ++ (hBs8))))))))
open PySem.W PySem.Calls
def hNm0 : List PySem.Str := ["_wall", "TreeError", "InvalidLanguage", "InvalidStore", "InvalidOperation", "UnknownName", "TooMany", "MAX_MARKS", "MAX_KINDS", "MAX_SIGNS", "SIGNS", "is_name", "require_language", "require_mark", "require_kind", "different_names", "language_in", "Language", "MAX_THINGS", "require_store", "require_thing", "require_pair", "different_items", "checked_things", "store_in", "joined_pair", "joined_things", "new_names", "reached_in", "Store"]
def hNm1 : List PySem.Str := ["MadeStore", "way_to", "first_ways", "first_way", "_law_dice", "_law_roll", "_law_pick", "_law_mixed", "_law_words", "_law_language", "_law_links", "_law_store", "_law_flat", "_law_changed", "_law_history_right", "_law_joined_right"]
def hNm : List PySem.Str := hNm0 ++ (hNm1)
abbrev hR : OpenRow := OpenLaw.row PySem.Challenge.rw_treefits_k08_whole_histories_of_stores
abbrev hQ : Program := view hR.prog [51]
abbrev hH : Hook := TfHd.hookH hBs hFs hVs
def hOb (s : SharedT) : TfHd.AlH := TfHd.obT hBs hFs s
set_option maxHeartbeats 0 in
theorem hRun (w : World) : HandSHeadRun.RunEq hR hQ hH hOb 15000 hNm w := by
  intro os
  kernel_rfl
end Tf

/-! own special methods: len(o), x in o, o == x, o != x, str(o) -/
namespace PySem
namespace TfO
open PySem.W PySem.Calls PyProof.Rows
section
variable {prog : Program} {w : World} {M : Model} {A : Around} {E : Value → Shared → Prop} {s : Shared} {K : Frag} {x C f : Addr} {ox : Obj} {od : Option Obj} {b tb : Value}
theorem ifBound_B {name : Str} {id : String} {args : List Value} {Q : Option Value → Shared → Prop} (X : K.In s.heap) (I : InstAt s.heap x ox C od) (hs : findIn K (.ref C) name = some (some (.builtin id)))
    (hb : ∀ self, bindSpecial (.builtin id) self = pure (.builtin id, [self])) (h : wpAny M A (call (.builtin id) (.ref x :: args)) (fun v => Q (some v)) E s) : wpAny M A (callSpecialIfBound? (.ref x) name args) Q E s := by
  simp only [callSpecialIfBound?, bindSpecialIfBound?]
  refine wpAny_holding (wpAny_bind (wpAny_bind (wpAny_bind (I.type.here ((looks_findIn X hs).here ?_)))))
  refine wpAny_bind (wpAny_askSetting (wpAny_ite ?_))
  have fin : wpAny M A (call (.builtin id) ([.ref x] ++ args) >>= fun v => pure (some v)) Q E s := wpAny_bind (wpAny_mono h (fun v s' h' => wpAny_pure h') fun _ _ h' => h')
  split
  · exact wpAny_bind ((Looks.of_pure (hb _)).here (wpAny_pure (by exact fin)))
  · exact wpAny_tryCatch (wpAny_bind ((Looks.of_pure (hb _)).here (wpAny_pure (by exact fin))))
theorem slot_one : Slot "object" "__ne__" "object.__ne__" := .of (owner := "object") (n := "__ne__") (by rw [typeLookup_type, builtinLookup_eq_fast]; kernel_rfl) (by decide +kernel) (by decide +kernel) (by decide +kernel) (by first | exact .inl (by decide +kernel) | exact .inr (by decide +kernel)) (by rw [isSubtype_type]; kernel_rfl)
/-- o != b: no own __ne__, an own __eq__ that answers with a bool -/
theorem ne_K {Q : Value → Shared → Prop} (hu : A.units + 1 < cLine) (X : K.In s.heap) (I : InstAt s.heap x ox C od) (hb : Looks (model prog w) s.heap (typeOf b) tb) (hn : notFirst K C tb = true)
    (hs : findIn K (.ref C) "__eq__" = some (some (.ref f))) (hf : isFn K (.ref f) = true) (hne : findIn K (.ref C) "__ne__" = some (some (.builtin "object.__ne__"))) (hm : mroIn K C (.type "object") = some true)
    (h : wpAny (model prog w) A.in1 (call (.ref f) [.ref x, b]) (fun v s' => ∃ r, v = .bool r ∧ Q (.bool (!r)) s') E s) : wpAny (model prog w) A (richCompare .NotEq (.ref x) b) Q E s := by
  have one : wpAny (model prog w) A (tryCompare (.ref x) (cmpInfo .NotEq).2.1 b) (fun r s' => ∃ v, r = some v ∧ Q v s') E s := by
    unfold tryCompare
    refine wpAny_bind (ifBound_B (name := "__ne__") X I hne slot_one.bind ?_)
    refine wpAny_call (codeAny_call_builtin slot_one.plain F.cmpEntry_ne (check_slot (i := "object.__ne__") (owner := "object") (n := "__ne__") F.cmpKind_ne F.cmpSplit_ne (I.type.andThen (looks_mroIn X hm)) (F.cmpArgs_ne _ _) ?_))
    unfold Builtin.«object.__ne__»
    refine wpAny_bind (m := slotArgs "__ne__" 1 _) (wpAny_pure ?_)
    refine wpAny_bind (m := cRoomFor _ _) (wpAny_cRoomFor hu ?_)
    refine wpAny_bind (m := callSpecialIfBound? (.ref x) (Str.ofString "__eq__") _) (ifBound_K X I hs hf (wpAny_mono h (fun r s' hq => ?_) fun _ _ y => y))
    obtain ⟨r, rfl, hq⟩ := hq
    refine wpAny_bind (m := truthy (.bool r)) (wpAny_truthy_bool ?_)
    exact wpAny_pure (wpAny_pure ⟨_, rfl, hq⟩)
  unfold richCompare
  simp only [oneThing_ref]
  refine wpAny_holding (wpAny_bind (wpAny_cRoomFor (Nat.lt_of_succ_lt hu) ?_))
  refine wpAny_bind (I.type.here (wpAny_bind (hb.here ?_)))
  split
  · rename_i q
    have e : subIn K tb (.ref C) = some false := by
      rcases Bool.or_eq_true_iff.mp hn with e | e
      · rw [beq_iff_eq.mp e] at q; simp at q
      · exact beq_iff_eq.mp e
    refine wpAny_bind ((looks_subIn X e).here ?_)
    simp only [Bool.false_eq_true, if_false]
    refine wpAny_bind (wpAny_mono one (fun r s' z => ?_) fun _ _ e => e)
    obtain ⟨v, rfl, hq⟩ := z
    exact wpAny_pure hq
  · refine wpAny_bind (wpAny_pure ?_)
    simp only [Bool.false_eq_true, if_false]
    refine wpAny_bind (wpAny_mono one (fun r s' z => ?_) fun _ _ e => e)
    obtain ⟨v, rfl, hq⟩ := z
    exact wpAny_pure hq
end
end TfO
end PySem
namespace L2
open PySem PySem.Spec PyProof.Rows
section
variable {X : Cx} {CX : CXT} {k : Nat} {f C : Addr} {sp : Sp} {E : XK}
theorem run_sub {pins : List (Addr × Obj)} {σ : St} {H : Hp} {s : Shared} {Q : VK} {A : Around} {us : List Value} {vs : List V} (F : FnR X.prog X.w X.K X.mg X.base CX k f sp) (sb : Sub X k A) (hx : Passes CX X E) (I : Inv X pins σ H s) (r : Vals vs us) (h : sp vs H Q E) :
    wpAny (model X.prog X.w) A (call (.ref f) us) (EP X pins σ Q) X.xe s := by
  have e0 : Env0 X.prog X.w X.K X.mg X.base A X.stack s H := by
    have e := I.env0
    exact ⟨by rw [sb.fr]; exact e.frames, e.mod, e.bs, e.bsz, e.funs, e.frf, e.hok, e.bare⟩
  refine wpAny_call (codeAny_mono (F A X.stack s H us vs Q E sb.room e0 r h) fun r s' hq => ?_)
  cases r with
  | error e => exact hx pins σ H s e s' I hq
  | ok fl =>
    cases fl with
    | ret w => exact I.after hq
    | next => exact False.elim hq
    | brk => exact False.elim hq
    | cont => exact False.elim hq
theorem sub0 (hr : Room k X.A) : Sub X k X.A := ⟨hr, rfl⟩
theorem sub1 (hr : Room (k + 1) X.A) : Sub X k X.A.in1 := ⟨hr.in1, rfl⟩
theorem sub2 (hr : Room (k + 2) X.A) : Sub X k X.A.in1.in1 := ⟨hr.in1.in1, rfl⟩
/-- an instance as the library sees it -/
theorem ins_at {pins : List (Addr × Obj)} {σ : St} {H : Hp} {s : Shared} {a dx : Addr} {fs : List (Str × V)} (I : Inv X pins σ H s) (h : H a = some (.ins C dx fs)) : ∃ ox od, PySem.W.InstAt s.heap a ox C od := by
  obtain ⟨mA, O, _⟩ := ins_get I.hok h
  obtain ⟨od, J, _⟩ := O.look
  exact ⟨_, _, J⟩
/-- C's special method named m is the def at f -/
structure OwnM (K : PySem.W.Frag) (C : Addr) (m : Str) (f : Addr) : Prop where
  at_ : PySem.W.findIn K (.ref C) m = some (some (.ref f))
  fn : PySem.W.isFn K (.ref f) = true
def bk (Q : VK) : VK := fun v H' => ∃ b, v = .bl b ∧ Q (.bl b) H'
/-- len(o) -/
def rLenO (C : Addr) (sp : Sp) (E : XK) : List V → Hp → VK → Prop := fun xs H Q => ∃ a dx fs, xs = [.ref a] ∧ H a = some (.ins C dx fs) ∧ sp [.ref a] H (fun v H' => ∃ n : Int, v = .int n ∧ 0 ≤ n ∧ n < 2 ^ 63 ∧ Q (.int n) H') E
theorem call_lenO (o : OwnM X.K C "__len__" f) (F : FnR X.prog X.w X.K X.mg X.base CX k f sp) (hr : Room (k + 1) X.A) (hx : Passes CX X E) : CallR X (.builtin "len") (rLenO C sp E) := by
  intro pins s σ H xs us Q I r h
  obtain ⟨a, dx, fs, rfl, ha, h⟩ := h
  cases r with
  | cons ra rn =>
    cases rn
    cases ra
    obtain ⟨ox, od, J⟩ := ins_at I ha
    obtain ⟨m, hF⟩ := I.fr
    refine PySem.W.len_K hF I.ok.mod.kin J o.at_ o.fn (wpAny_mono (run_sub F (sub1 hr) hx I (vs := [.ref a]) (.cons rfl .nil) h) (fun v s' q => ?_) fun _ _ z => z)
    obtain ⟨v', H', I', rv, n, rfl, h0, h1, q⟩ := q
    obtain ⟨t, rfl⟩ := rv
    exact ⟨⟨h0, h1⟩, .int n, H', I'.tok _, ⟨_, rfl⟩, q⟩
/-- x in o, x not in o -/
def rInO (C : Addr) (sp : Sp) (E : XK) (neg : Bool) : R2 := fun x y H Q => ∃ a dx fs, y = .ref a ∧ H a = some (.ins C dx fs) ∧ sp [.ref a, x] H (fun v H' => ∃ b, v = .bl b ∧ Q (.bl (if neg then !b else b)) H') E
theorem op_inO (o : OwnM X.K C "__contains__" f) (F : FnR X.prog X.w X.K X.mg X.base CX k f sp) (hr : Room k X.A) (hx : Passes CX X E) : OpR X (compareOp .In) (rInO C sp E false) := by
  intro pins s σ H x y u v Q I rx ry h
  obtain ⟨a, dx, fs, rfl, ha, h⟩ := h
  cases ry
  obtain ⟨ox, od, J⟩ := ins_at I ha
  obtain ⟨m, hF⟩ := I.fr
  refine PySem.W.in_K hF I.ok.mod.kin J o.at_ o.fn (wpAny_mono (run_sub F (sub0 hr) hx I (vs := [.ref a, x]) (.cons rfl (.cons rx .nil)) h) (fun v s' q => ?_) fun _ _ z => z)
  obtain ⟨v', H', I', rv, b, rfl, q⟩ := q
  cases rv
  exact wpAny_truthy_bool ⟨.bl b, H', I', rfl, q⟩
theorem op_notInO (o : OwnM X.K C "__contains__" f) (F : FnR X.prog X.w X.K X.mg X.base CX k f sp) (hr : Room k X.A) (hx : Passes CX X E) : OpR X (compareOp .NotIn) (rInO C sp E true) := by
  intro pins s σ H x y u v Q I rx ry h
  obtain ⟨a, dx, fs, rfl, ha, h⟩ := h
  cases ry
  obtain ⟨ox, od, J⟩ := ins_at I ha
  obtain ⟨m, hF⟩ := I.fr
  refine PySem.W.notIn_K hF I.ok.mod.kin J o.at_ o.fn (wpAny_mono (run_sub F (sub0 hr) hx I (vs := [.ref a, x]) (.cons rfl (.cons rx .nil)) h) (fun v s' q => ?_) fun _ _ z => z)
  obtain ⟨v', H', I', rv, b, rfl, q⟩ := q
  cases rv
  exact wpAny_truthy_bool ⟨.bl (!b), H', I', rfl, q⟩
/-- the type of y, seen in the heap -/
def TyL (X : Cx) (H : Hp) (y : V) (tb : Value) : Prop := ∀ (pins : List (Addr × Obj)) (σ : St) (s : Shared) (u : Value), Inv X pins σ H s → RelV y u → PySem.W.Looks (model X.prog X.w) s.heap (typeOf u) tb
theorem TyL.ins {H : Hp} {b dx : Addr} {fs : List (Str × V)} (h : H b = some (.ins C dx fs)) : TyL X H (.ref b) (.ref C) := fun pins σ s u I r => by
  cases r
  obtain ⟨ox, od, J⟩ := ins_at I h
  exact J.type
/-- o == y, o != y -/
def rEqO (X : Cx) (C : Addr) (sp : Sp) (E : XK) (neg : Bool) : R2 := fun x y H Q => ∃ a dx fs tb, x = .ref a ∧ H a = some (.ins C dx fs) ∧ TyL X H y tb ∧ PySem.W.notFirst X.K C tb = true ∧ sp [.ref a, y] H (fun v H' => ∃ b, v = .bl b ∧ Q (.bl (if neg then !b else b)) H') E
theorem op_eqO (o : OwnM X.K C "__eq__" f) (F : FnR X.prog X.w X.K X.mg X.base CX k f sp) (hr : Room k X.A) (hx : Passes CX X E) : OpR X (compareOp .Eq) (rEqO X C sp E false) := by
  intro pins s σ H x y u v Q I rx ry h
  obtain ⟨a, dx, fs, tb, rfl, ha, ht, hn, h⟩ := h
  cases rx
  obtain ⟨ox, od, J⟩ := ins_at I ha
  obtain ⟨m, hF⟩ := I.fr
  show wpAny (model X.prog X.w) X.A (richCompare .Eq (.ref a) v) (EP X pins σ Q) X.xe s
  refine PySem.W.cmp_K (op := .Eq) (tb := tb) (by have := hr.un; omega) hF I.ok.mod.kin J (ht _ _ _ _ I ry) hn o.at_ o.fn (wpAny_mono (run_sub F (sub0 hr) hx I (vs := [.ref a, y]) (.cons rfl (.cons ry .nil)) h) (fun v s' q => ?_) fun _ _ z => z)
  obtain ⟨v', H', I', rv, b, rfl, q⟩ := q
  cases rv
  exact ⟨.bl b, H', I', rfl, q⟩
theorem op_neO (o : OwnM X.K C "__eq__" f) (hne : PySem.W.findIn X.K (.ref C) "__ne__" = some (some (.builtin "object.__ne__"))) (hm : PySem.W.mroIn X.K C (.type "object") = some true) (F : FnR X.prog X.w X.K X.mg X.base CX k f sp) (hr : Room (k + 1) X.A) (hx : Passes CX X E) : OpR X (compareOp .NotEq) (rEqO X C sp E true) := by
  intro pins s σ H x y u v Q I rx ry h
  obtain ⟨a, dx, fs, tb, rfl, ha, ht, hn, h⟩ := h
  cases rx
  obtain ⟨ox, od, J⟩ := ins_at I ha
  show wpAny (model X.prog X.w) X.A (richCompare .NotEq (.ref a) v) (EP X pins σ Q) X.xe s
  refine PySem.TfO.ne_K (tb := tb) (by have := hr.un; omega) I.kIn J (ht _ _ _ _ I ry) hn o.at_ o.fn hne hm (wpAny_mono (run_sub F (sub1 hr) hx I (vs := [.ref a, y]) (.cons rfl (.cons ry .nil)) h) (fun v s' q => ?_) fun _ _ z => z)
  obtain ⟨v', H', I', rv, b, rfl, q⟩ := q
  cases rv
  exact ⟨b, rfl, .bl (!b), H', I', rfl, q⟩
/-- str(o) -/
def rStrO (C : Addr) (sp : Sp) (E : XK) : List V → Hp → VK → Prop := fun xs H Q => ∃ a dx fs, xs = [.ref a] ∧ H a = some (.ins C dx fs) ∧ sp [.ref a] H (fun v H' => ∃ z, v = .str z ∧ Q (.str z) H') E
theorem call_strO (o : OwnM X.K C "__str__" f) (F : FnR X.prog X.w X.K X.mg X.base CX k f sp) (hr : Room (k + 2) X.A) (hx : Passes CX X E) : CallR X (.type "str") (rStrO C sp E) := by
  intro pins s σ H xs us Q I r h
  obtain ⟨a, dx, fs, rfl, ha, h⟩ := h
  cases r with
  | cons ra rn =>
    cases rn
    cases ra
    obtain ⟨ox, od, J⟩ := ins_at I ha
    refine PySem.W.kso_call (by have := hr.un; show X.A.units + 1 + 1 < _; omega) I.kIn J o.at_ o.fn (wpAny_mono (run_sub F (sub2 hr) hx I (vs := [.ref a]) (.cons rfl .nil) h) (fun v s' q => ?_) fun _ _ z => z)
    obtain ⟨v', H', I', rv, z, rfl, q⟩ := q
    obtain ⟨t, rfl⟩ := rv
    exact ⟨.str z, H', I', ⟨_, rfl⟩, q⟩
end
end L2

/-! C(*xs, k = v): one starred argument and keywords; a def with *v and keyword-only parameters -/
namespace PySem
namespace TfM
open PySem.W PySem.Calls PyProof.Rows
section
variable {M : Model} {A : Around} {E : Value → Shared → Prop} {s : Shared}
theorem lone_kw {f : Value} {x : Sem Value} {pos : Pos} {kws : List (Option Str × Sem Value)} {Q : Args → Shared → Prop} (hall : kws.all (·.1.isSome) = true)
    (h : wpAny M A x (fun v s₁ => wpAny M A (evalAll (kws.map (·.2))) (fun ks s₂ => StarOf M A E v (fun vs s₃ => Q ⟨vs, (kws.filterMap (·.1)).zip ks⟩ s₃) s₂) E s₁) E s) :
    wpAny M A (evalArgs f true [(true, (do let v ← x; standAt pos; pure v))] kws) Q E s := by
  unfold evalArgs
  first
    | refine wpAny_bind (wpAny_bind (wpAny_mono h (fun v s₁ h₁ => wpAny_bind (wpAny_standAt (wpAny_pure ?_))) fun _ _ x => x))
    | refine wpAny_bind (wpAny_bind (wpAny_bind (wpAny_mono h (fun v s₁ h₁ => wpAny_bind (wpAny_standAt (wpAny_pure (wpAny_pure ?_)))) fun _ _ x => x)))
  refine wpAny_holding ?_
  simp only [hall, if_true]
  refine wpAny_bind (wpAny_mono h₁ (fun ks s₂ h₂ => ?_) fun _ _ x => x)
  unfold StarOf at h₂
  refine wpAny_bind (wpAny_bind (wpAny_mono h₂ (fun b s₃ h₃ => ?_) fun _ _ x => x))
  obtain ⟨rfl, h₃⟩ := h₃
  have z := wpAny_holding (vs := ((kws.filterMap (·.1)).zip ks).map (·.2)) (wpAny_mono h₃ (fun vs s₃ h₃ => (wpAny_pure h₃ : wpAny M A (pure (⟨vs, (kws.filterMap (·.1)).zip ks⟩ : Args)) Q E s₃)) fun _ _ x => x)
  try simp only [Bool.false_eq_true, if_false]
  first
    | exact z
    | exact wpAny_bind z
    | exact wpAny_bind (wpAny_pure z)
theorem call_kw {f : Value} {first : List Value} {pos : Pos} {Q : Value → Shared → Prop} {P : Heap → Prop} {args : List (Bool × Sem Value)} {kws : List (Option Str × Sem Value)} (hst : args.any (·.1) = true)
    (hk : ∀ h, P h → ∃ k, (k = Keeper.frame ∨ k = Keeper.machine ∨ k = Keeper.boundFrame) ∧ Looks M h (keeperOf f) k)
    (h : wpAny M A (evalArgs f true args kws) (fun a s₁ => P s₁.heap ∧ wpAny M A (call f (first ++ a.pos) a.kw) Q E s₁) E s) : wpAny M A (callWith pos f first args kws) Q E s := by
  unfold callWith
  refine wpAny_bind (wpAny_holding (wpAny_mono h (fun a s₁ h₁ => wpAny_bind (wpAny_standAt ?_)) fun _ _ x => x))
  obtain ⟨k, hk', L⟩ := hk _ h₁.1
  simp only [hst, Bool.true_or]
  refine wpAny_bind (L.here ?_)
  have tail : ∀ {t : Sem Value}, wpAny M A t Q E s₁ → wpAny M A (t >>= fun r => holding [r] point >>= fun _ => pure r) Q E s₁ :=
    fun ht => wpAny_bind (wpAny_mono ht (fun r s₂ hr => wpAny_bind (wpAny_holding (wpAny_point (wpAny_pure hr)))) fun _ _ x => x)
  have marked (mk : Value) : wpAny M A (callMarked mk f (first ++ a.pos) a.kw) Q E s₁ := by unfold callMarked; exact Calls.wpAny_keep h₁.2
  rcases hk' with rfl | rfl | rfl <;> dsimp only <;> first | exact tail (marked _) | exact tail (wpAny_operateT h₁.2) | exact tail (wpAny_operating h₁.2)
end
end TfM
end PySem
namespace L2
open PySem PySem.Spec PyProof.Rows
/-- the promise of a def called with values vs and keywords ks = zs -/
abbrev SpK := List V → List V → Hp → VK → XK → Prop
def FnA (P : Program) (w : World) (K : PySem.W.Frag) (mg : Str → Option Value) (base : Heap) (CX : CXT) (k : Nat) (f : Addr) (ks : List Str) (sp : SpK) : Prop :=
  ∀ (A : Around) (outer : List Env) (s : Shared) (H : Hp) (us ws : List Value) (vs zs : List V) (Q : VK) (E : XK), Room k A → Env0 P w K mg base A outer s H → Vals vs us → Vals zs ws → sp vs zs H Q E →
    codeAny (model P w) A (.call (.ref f) ⟨us, ks.zip ws⟩) (CR CX outer P w H s Q E) s
section
variable {CX : CXT} {P : Program} {w : World} {K : PySem.W.Frag} {mg : Str → Option Value} {base : Heap} {k : Nat} {f : Addr} {name qual : Str} {params : Arguments} {body : List Stmt} {scope : Scope} {dV kV doc pm cdv ct oc : Value} {an od : Option Addr}
  {osl : Array (Option Value)} {N : List Str} {sp : Sp}
/-- def f(a, *v, k): the values of a, k, then a new tuple of the rest -/
theorem fn_starK {pa pk pv : Str} (lk : K.lookup f = some ⟨oc, od, .func (PySem.W.fnOf name qual params body scope dV kV doc pm an cdv ct), osl⟩) (hcd : PySem.W.codeIn K cdv qual = true) (S : FnScope N [pa, pk, pv] scope) (hCX : StX.CXUp CX)
    (hb : ∀ (a : Value) (rest : List Value) (b : Value), bindArgs (PySem.W.fnOf name qual params body scope dV kV doc pm an cdv ct) ⟨a :: rest, [(pk, b)]⟩ = (newTuple rest >>= fun t => pure [(pa, a), (pk, b), (pv, t)]))
    (hbody : ∀ (A : Around) (outer : List Env) (s : Shared) (H : Hp) (vs : List V) (Q : VK) (E : XK), Room k (A.deeper (envOfC qual scope s.heap.objs.size f cdv)) → sp vs H Q E →
      ∃ t, PSs (cxOf CX P w K mg base N qual scope f cdv A outer s H E) body t ∧ t { nx := fun _ H' => Q .non H', rt := Q } (start N vs) H) :
    FnA P w K mg base CX (k + 1) f [pk] (fun vs zs H Q E => ∃ a rest b, vs = a :: rest ∧ zs = [b] ∧ rest.length ≤ sizeLine ∧ ∀ p, H p = Option.none → sp [a, b, V.ref p] (upd H p (.tup rest)) Q E) := by
  intro A outer s H us ws vs zs Q E hr e0 r rz hsp
  obtain ⟨a, rest, b, rfl, rfl, hz, hq⟩ := hsp
  cases r with
  | cons ra r2 =>
  cases rz with
  | cons rb rn =>
  cases rn
  rename_i ua u2 ub
  have hn : H s.heap.objs.size = Option.none := e0.hok.fresh (Nat.le_refl _)
  have hl2 : u2.length ≤ sizeLine := by rw [← r2.length]; exact hz
  refine StX.run_bnd lk hcd S hr e0 (G := fun xs H2 => ∃ p, H p = Option.none ∧ xs = [a, b, V.ref p] ∧ H2 = upd H p (.tup rest)) (fun A' Ex Q' h => ?_) fun s2 H2 xs ⟨p, hp, ex, eH⟩ hr' => ?_
  · show wpAny _ _ (bindArgs _ ⟨ua :: u2, [(pk, ub)]⟩) _ _ _
    rw [hb ua u2 ub]
    refine wpAny_bind (wpAny_newTuple (wpAny_pure ?_) hl2)
    have new : ObjOk P w (upd H s.heap.objs.size (.tup rest)) (s.heap.push ({ cls := .type "tuple", data := .seq u2.toArray } : Obj)) s.heap.objs.size (.tup rest) := ⟨hz, u2, r2, ⟨_, Heap.get?_push_size _ rfl, rfl, _, rfl⟩⟩
    have un := StX.un_laid (fs := frs outer) (s := s) (o := ({ cls := .type "tuple", data := .seq u2.toArray } : Obj)) (u := .tup rest) hn
    exact h _ _ [a, b, V.ref s.heap.objs.size] [ua, ub, Value.ref s.heap.objs.size] (StX.env0_laid e0 new) un rfl (fun e s' => hCX outer s H _ _ E e s' un (fun b o q => Heap.get?_push_of_some _ q) rfl) (.cons ra (.cons rb (.cons rfl .nil))) rfl ⟨_, hn, rfl, rfl⟩
  · subst ex eH
    exact hbody A outer s2 _ _ Q E hr' (hq p hp)
end
/-- C(*e, k = v): a new instance and its dict, then __init__ -/
def tMakeSK (K : PySem.W.Frag) (C : Addr) (sp : SpK) (E : XK) (tf te : TE) (tk : TA) : TE := fun σ H Q => tf σ H fun c H0 => c = .ref C ∧ te σ H0 fun y H1 => tk σ H1 fun zs H2 => ∃ a xs, y = V.ref a ∧ (SqT K H2 a xs ∨ SqL K H2 a xs) ∧ zs.length = 1 ∧ ∀ x dx, H2 x = none → H2 dx = none → dx ≠ x →
  sp (.ref x :: xs) zs (upd (upd H2 dx (.own x)) x (.ins C dx [])) (fun v H3 => v = .non ∧ Q (.ref x) H3) E
/-- C(e, .., k = v) -/
def tMakeAK (C : Addr) (sp : SpK) (E : XK) (t : TA) (tk : TA) : TE := fun σ H Q => t σ H fun xs H1 => tk σ H1 fun zs H2 => zs.length = 1 ∧ ∀ x dx, H2 x = none → H2 dx = none → dx ≠ x →
  sp (.ref x :: xs) zs (upd (upd H2 dx (.own x)) x (.ins C dx [])) (fun v H3 => v = .non ∧ Q (.ref x) H3) E
section
variable {X : Cx} {CX : CXT} {k : Nat} {f C : Addr} {ks : List Str} {sp : SpK} {E : XK} {x : Str} {p sp_ pos : Pos} {e fe : Expr} {es : List Expr} {kws : List Keyword} {t tk : TA} {te tf : TE}
theorem run_makeA {pins : List (Addr × Obj)} {σ : St} {H : Hp} {s : Shared} {Q : VK} {us ws : List Value} {vs zs : List V} (M : Mk X.K C f) (F : FnA X.prog X.w X.K X.mg X.base CX k f ks sp) (hr : Room (k + 1) X.A) (hx : Passes CX X E)
    (I : Inv X pins σ H s) (r : Vals vs us) (rz : Vals zs ws)
    (h : ∀ x dx, H x = none → H dx = none → dx ≠ x → sp (.ref x :: vs) zs (upd (upd H dx (.own x)) x (.ins C dx [])) (fun v H2 => v = .non ∧ Q (.ref x) H2) E) :
    wpAny (model X.prog X.w) X.A (call (.ref C) us (ks.zip ws)) (EP X pins σ Q) X.xe s := by
  have hq := h (s.heap.objs.size + 1) s.heap.objs.size (I.hok.fresh (Nat.le_succ _)) (I.hok.fresh (Nat.le_refl _)) (Nat.ne_of_lt (Nat.lt_succ_self _))
  have I2 := Inv.made (C := C) I
  have r1 : Vals (V.ref (s.heap.objs.size + 1) :: vs) (Value.ref (s.heap.objs.size + 1) :: us) := .cons rfl r
  refine wpAny_call (make_map (f := f) I.kIn M.makes M.init (beq_iff_eq.mp M.fn) (codeAny_mono (F _ X.stack _ _ (Value.ref (s.heap.objs.size + 1) :: us) ws _ _ _ E (hr.make C us (ks.zip ws))
    (I2.env0.make C us (ks.zip ws)) r1 rz hq) fun r s' hq' => ?_))
  cases r with
  | error e => exact hx pins σ _ _ e s' I2 hq'
  | ok fl =>
    cases fl with
    | ret u =>
      obtain ⟨v, H', I3, rv, ev, q3⟩ := I2.after hq'
      subst ev
      exact ⟨rv, ⟨V.ref (s.heap.objs.size + 1), H', I3, rfl, q3⟩⟩
    | next => exact False.elim hq'
    | brk => exact False.elim hq'
    | cont => exact False.elim hq'
theorem pe_makeSK (M : Mk X.K C f) (F : FnA X.prog X.w X.K X.mg X.base CX k f ks sp) (hr : Room (k + 1) X.A) (hx : Passes CX X E) (hf : PE X fe tf) (he : PE X e te) (hkw : PK X kws tk)
    (ht : eval (.Call fe [.Starred e sp_] kws pos) X.env = (do callWith pos (← eval fe X.env) [] (backTo pos (starEach [.Starred e sp_] X.env)) (backToKw pos (keywordEach kws X.env))) := by rfl)
    (hall : (backToKw pos (keywordEach kws X.env)).all (·.1.isSome) = true := by rfl) (hks : (backToKw pos (keywordEach kws X.env)).filterMap (·.1) = ks := by rfl)
    (hst : starEach [.Starred e sp_] X.env = [(true, eval e X.env)] := by rfl) :
    PE X (.Call fe [.Starred e sp_] kws pos) (tMakeSK X.K C sp E tf te tk) := by
  refine ⟨fun pins s σ H Q I h => ?_⟩
  rw [ht]
  refine wpAny_bind (thn (hf.run pins s σ H _ I h) fun u s0 ⟨y0, H0, I0, ry, ey0, q0⟩ => ?_)
  subst ey0
  obtain rfl : u = Value.ref C := ry
  rw [hst]
  refine PySem.TfM.call_kw (P := fun h => X.K.In h) rfl (PySem.W.keeps_K M.kp) (PySem.TfM.lone_kw hall ?_)
  refine thn (he.run pins s0 σ H0 _ I0 q0) fun v s1 ⟨y, H1, I1, rv, q1⟩ => ?_
  refine thn (hkw.run pos pins s1 σ H1 _ I1 q1) fun ws s2 ⟨zs, H2, I2, rz, a, xs, ey, hxs, hl, q2⟩ => ?_
  subst ey
  obtain rfl : v = Value.ref a := rv
  refine StX.star_any I2 hxs fun us s3 I3 r => ⟨I3.kIn, ?_⟩
  show wpAny _ _ (call (.ref C) us _) _ _ _
  rw [hks]
  exact run_makeA M F hr hx I3 r rz q2
theorem pe_makeAK (M : Mk X.K C f) (F : FnA X.prog X.w X.K X.mg X.base CX k f ks sp) (hr : Room (k + 1) X.A) (hg : Gl X x) (hm : X.mg x = some (.ref C)) (hx : Passes CX X E) (ha : PA X (e :: es) t) (hkw : PK X kws tk)
    (hall : (backToKw pos (keywordEach kws X.env)).all (·.1.isSome) = true := by rfl) (hks : (backToKw pos (keywordEach kws X.env)).filterMap (·.1) = ks := by rfl) (hdb : (x == ("__debug__" : Str)) = false := by decide)
    (he : starEach (e :: es) X.env = (false, eval e X.env) :: starEach es X.env := by rfl) (hpl : ((backTo pos (starEach (e :: es) X.env)).any (·.1) || (backToKw pos (keywordEach kws X.env)).any (·.1.isNone)) = false := by rfl) :
    PE X (.Call (.Name x p) (e :: es) kws pos) (tMakeAK C sp E t tk) := by
  refine ⟨fun pins s σ H Q I h => ?_⟩
  refine wpAny_Call_Name_kw (ld_glob I hg hm ?_ hdb)
  refine PySem.W.callWith_KW (h₀ := X.base) I.ok.mod.kin M.kp hall (thn (ha.run pos pins s σ H _ I h) fun us s1 ⟨vs, H1, I1, r, q⟩ => ?_) hpl he
  refine thn (hkw.run pos pins s1 σ H1 _ I1 q) fun ws s2 ⟨zs, H2, I2, rz, l1, q2⟩ => ⟨I2.kIn, ?_⟩
  rw [hks]
  exact run_makeA M F hr hx I2 r rz q2
end
end L2

/-! small rules and words -/
namespace L2
open PySem PySem.Spec PyProof.Rows
section
variable {X : Cx}
theorem call_repr_bl : CallR X (.builtin "repr") (fun xs H Q => ∃ b, xs = [.bl b] ∧ Q (.str (if b then "True" else "False")) H) := by
  intro pins s σ H xs us Q I r h
  obtain ⟨b, rfl, q⟩ := h
  cases r with
  | cons rb rn =>
    cases rn
    cases rb
    exact PySem.P.repr_of_bool ⟨.str _, H, I.tok _, ⟨_, rfl⟩, q⟩
theorem op_powW : OpR X (binaryOp .Pow) (rI (fun i j => 0 ≤ j ∧ (Builtin.Int.intBits i : Int) * j ≤ 2 ^ 27) fun i j => .int (i ^ j.toNat)) := opI fun _ _ _ _ _ _ _ hc q => pow_int hc.1 hc.2 q
end
/-- all but what stands at d stays -/
def Nr (d : Addr) (H H' : Hp) : Prop := ∀ b o, b ≠ d → H b = some o → H' b = some o
theorem Nr.refl (d : Addr) (H : Hp) : Nr d H H := fun _ _ _ h => h
theorem Nr.trans {d : Addr} {H H1 H2 : Hp} (a : Nr d H H1) (b : Nr d H1 H2) : Nr d H H2 := fun c o n h => b c o n (a c o n h)
theorem Same.nr {d : Addr} {H H' : Hp} (a : Same H H') : Nr d H H' := fun c o _ h => a c o h
theorem Nr.upd {d : Addr} {H : Hp} {o : HO} : Nr d H (upd H d o) := fun b u n h => by rw [upd_ne n]; exact h
theorem same_new {H : Hp} {p : Addr} {o : HO} (h : H p = none) : Same H (upd H p o) := fun b u e => by
  rw [upd_ne (ne_of_none e h)]
  exact e
theorem Same.new {H H1 : Hp} {p : Addr} {o : HO} (s : Same H H1) (h : H1 p = none) : Same H (upd H1 p o) := s.trans (same_new h)
/-- a new object may change -/
theorem Same.mut {H H1 : Hp} {p : Addr} {o : HO} (s : Same H H1) (h : H p = none) : Same H (L2.upd H1 p o) := fun b u e => by
  rw [upd_ne (ne_of_none e h)]
  exact s b u e
theorem Same.tup {K : PySem.W.Frag} {H H' : Hp} {a : Addr} {xs : List V} (e : Same H H') (h : SqT K H a xs) : SqT K H' a xs := by
  rcases h with (h | ⟨o, h⟩) | h
  · exact .inl (.inl (e _ _ h))
  · exact .inl (.inr ⟨o, e _ _ h⟩)
  · exact .inr h
/-- the dice: three numbers, the first one not below nought -/
def Dice (H : Hp) (d : Addr) : Prop := ∃ a b c : Int, 0 ≤ a ∧ H d = some (.lst [.int a, .int b, .int c])
theorem Dice.same {H H' : Hp} {d : Addr} (x : Dice H d) (s : Same H H') : Dice H' d := by
  obtain ⟨a, b, c, h, e⟩ := x
  exact ⟨a, b, c, h, s _ _ e⟩
theorem lst_of {K : PySem.W.Frag} {H : Hp} {a : Addr} {xs : List V} (h : H a = some (.lst xs)) : SqL K H a xs := .inl (.inl h)
theorem tup_of {K : PySem.W.Frag} {H : Hp} {a : Addr} {xs : List V} (h : H a = some (.tup xs)) : SqT K H a xs := .inl (.inl h)
end L2

/-! texts that are names; lists of texts as data -/
namespace L2
open PySem PySem.Spec PyProof.Rows
def signs : Str := "abcdefghijklmnopqrstuvwxyz"
/-- a name: one to eight letters a to z -/
def nameB (z : Str) : Bool := (decide (1 ≤ z.length) && decide (z.length ≤ 8)) && z.cps.toList.all fun c => decide (c ∈ signs.cps.toList)
theorem nameB_len {z : Str} (h : nameB z = true) : 1 ≤ z.length ∧ z.length ≤ 8 := by
  unfold nameB at h
  rw [Bool.and_eq_true, Bool.and_eq_true] at h
  exact ⟨of_decide_eq_true h.1.1, of_decide_eq_true h.1.2⟩
theorem signs_ok : (signs.cps.toList.all fun c => decide (c < 128)) = true := by decide +kernel
theorem nameB_code {z : Str} (h : nameB z = true) {c : Nat} (hc : c ∈ z.cps.toList) : c < 128 := by
  unfold nameB at h
  rw [Bool.and_eq_true] at h
  have h2 := List.all_eq_true.mp h.2 c hc
  exact of_decide_eq_true (List.all_eq_true.mp signs_ok c (of_decide_eq_true h2))
theorem nameB_ok {z : Str} (h : nameB z = true) : PyData.strOk z = true := by
  unfold PyData.strOk
  rw [Array.all_eq_true']
  intro c hc
  have h1 := nameB_code h (Array.mem_def.mp hc)
  exact decide_eq_true (Nat.lt_trans h1 (by decide))
abbrev dS (zs : List Str) : List PyData := zs.map PyData.str
theorem dpAll_strs {K : PySem.W.Frag} {H : Hp} : ∀ zs : List Str, DpAll K H (zs.map V.str) (dS zs)
  | [] => .nil
  | z :: zs => .cons (.str z) (dpAll_strs zs)
theorem dp_list {K : PySem.W.Frag} {H : Hp} {a : Addr} {zs : List Str} (h : SqL K H a (zs.map V.str)) : Dp K H (.ref a) (.list (dS zs)) := .lst h (dpAll_strs zs)
theorem dp_tuple {K : PySem.W.Frag} {H : Hp} {a : Addr} {zs : List Str} (h : SqT K H a (zs.map V.str)) : Dp K H (.ref a) (.tuple (dS zs)) := .tup h (dpAll_strs zs)
theorem lay_strs : ∀ {zs : List Str}, (∀ z ∈ zs, nameB z = true) → PyData.canLayAll0 (dS zs) = true
  | [], _ => by simp [PyData.canLayAll0, dS]
  | z :: zs, h => by
    have h1 := lay_strs (zs := zs) fun y hy => h y (List.mem_cons_of_mem _ hy)
    have h2 := nameB_ok (h z List.mem_cons_self)
    show PyData.canLayAll0 (PyData.str z :: dS zs) = true
    simp only [PyData.canLayAll0, PyData.canLay0, h1, h2, Bool.and_self]
theorem depth_strs : ∀ zs : List Str, PyData.depthAll (dS zs) = 0
  | [] => by simp [PyData.depthAll, dS]
  | z :: zs => by
    show PyData.depthAll (PyData.str z :: dS zs) = 0
    simp only [PyData.depthAll, PyData.depth, depth_strs zs]
    rfl
theorem shaped_list {zs : List Str} (h : ∀ z ∈ zs, nameB z = true) : SeqAt.shaped (.list (dS zs)) = true := by
  show (PyData.canLay0 (.list (dS zs)) && decide (PyData.depth (.list (dS zs)) ≤ 64)) = true
  rw [Bool.and_eq_true]
  refine ⟨by simp only [PyData.canLay0]; exact lay_strs h, decide_eq_true ?_⟩
  simp only [PyData.depth, depth_strs]
  decide
theorem shaped_tuple {zs : List Str} (h : ∀ z ∈ zs, nameB z = true) : SeqAt.shaped (.tuple (dS zs)) = true := by
  show (PyData.canLay0 (.tuple (dS zs)) && decide (PyData.depth (.tuple (dS zs)) ≤ 64)) = true
  rw [Bool.and_eq_true]
  refine ⟨by simp only [PyData.canLay0]; exact lay_strs h, decide_eq_true ?_⟩
  simp only [PyData.depth, depth_strs]
  decide
theorem eqvAll_strs : ∀ xs ys : List Str, PyData.eqvAll (dS xs) (dS ys) = decide (xs = ys)
  | [], [] => by simp [PyData.eqvAll, dS]
  | [], y :: ys => by simp [PyData.eqvAll, dS]
  | x :: xs, [] => by simp [PyData.eqvAll, dS]
  | x :: xs, y :: ys => by
    have ih := eqvAll_strs xs ys
    show PyData.eqvAll (PyData.str x :: dS xs) (PyData.str y :: dS ys) = _
    simp only [PyData.eqvAll, PyData.eqv, ih]
    by_cases h : x = y
    · subst h
      simp
    · have h1 : (x == y) = false := by simpa using h
      have h2 : ¬ (x :: xs = y :: ys) := fun z => h (List.cons.inj z).1
      rw [h1, decide_eq_false h2]
      rfl
theorem eqv_lists (xs ys : List Str) : PyData.eqv (.list (dS xs)) (.list (dS ys)) = decide (xs = ys) := by
  simp only [PyData.eqv]
  exact eqvAll_strs xs ys
theorem eqv_tuples (xs ys : List Str) : PyData.eqv (.tuple (dS xs)) (.tuple (dS ys)) = decide (xs = ys) := by
  simp only [PyData.eqv]
  exact eqvAll_strs xs ys
end L2

/-! comprehensions whose element and test only make objects -/
namespace L2
open PySem PySem.Spec PyProof.Rows
/-- the test answers b, the expression gives v; what was tracked stays -/
def TTo (tt : TT) (σ : St) (H : Hp) (b : Bool) : Prop := ∀ Q : Bool → Hp → Prop, (∀ H', Same H H' → Q b H') → tt σ H Q
def TEo (te : TE) (σ : St) (H : Hp) (v : V) : Prop := ∀ Q : VK, (∀ H', Same H H' → Q v H') → te σ H Q
theorem tto_yes {σ : St} {H : Hp} : TTo tYes σ H true := fun _ q => q H (Same.refl H)
theorem lc_on {α : Type} {J : It} {n : Nat} {G : Hp → Prop} {xs : List α} {h : α → V} (w : Walk J n G (YAt (xs.map h))) (hn : n = xs.length) {tt : TT} {te : TE} {i : Nat} {σ : St} {H1 : Hp} {D : Addr} {Qd : Hp → Prop} (keep : α → Bool) (F : α → V) (nD : H1 D = none)
    (hG : ∀ H, Same H1 H → G H) (hlen : xs.length < 100000)
    (ht : ∀ a ∈ xs, ∀ H, Same H1 H → TTo tt ((wipe σ [i]).set i (some (h a))) H (keep a))
    (he : ∀ a ∈ xs, keep a = true → ∀ H, Same H1 H → TEo te ((wipe σ [i]).set i (some (h a))) H (F a))
    (hd : ∀ H, Same H1 H → H D = some (.lst ((xs.filter keep).map F)) → Qd H) :
    ∃ W : Nat → Nat → Hp → Prop, (∃ m, W 0 m (upd H1 D (.lst []))) ∧ ∀ j m H, W j m H →
      (J.stop j H ∧ Qd H) ∨ (J.go j H ∧ ∃ Nx : Hp → Prop, (∀ H', Nx H' → ∃ m', m' < m ∧ W (j + 1) m' H') ∧ ∀ x H', J.yld j H x H' → gName i x (wipe σ [i]) H' fun σ2 H2 => wipe σ2 [i] = wipe σ [i] ∧ tt σ2 H2 fun b H3 =>
        if b = true then te σ2 H3 fun y H4 => ∃ acc, H4 D = some (.lst acc) ∧ acc.length < sizeLine ∧ Nx (upd H4 D (.lst (acc ++ [y]))) else Nx H3) := by
  subst hn
  refine lc_it w (fun j H => Same H1 H ∧ H D = some (.lst (((xs.take j).filter keep).map F))) ⟨same_new nD, by rw [upd_same]; rfl⟩ (fun j H _ p => hG H p.1) (fun j x H H' hj p y => ?_) fun H p => hd H p.1 (by rw [p.2, List.take_length])
  obtain ⟨s, eD⟩ := p
  obtain ⟨rfl, ex⟩ := y
  rw [List.getElem?_map, List.getElem?_eq_getElem hj] at ex
  have ex' : h xs[j] = x := Option.some.inj ex
  subst ex'
  have mem : xs[j] ∈ xs := List.getElem_mem hj
  have tk : xs.take (j + 1) = xs.take j ++ [xs[j]] := by rw [List.take_add_one, List.getElem?_eq_getElem hj]; rfl
  refine ⟨?_, ht _ mem H' s _ fun H3 s3 => ?_⟩
  · simp [wipe]
  · cases hk : keep xs[j] with
    | false =>
      refine iteF ⟨s.trans s3, ?_⟩
      rw [s3 _ _ eD, tk, List.filter_append, List.filter_cons_of_neg (by rw [hk]; exact Bool.false_ne_true), List.filter_nil, List.append_nil]
    | true =>
      refine iteT (he _ mem hk H3 (s.trans s3) _ fun H4 s4 => ⟨_, s4 _ _ (s3 _ _ eD), ?_, ?_, ?_⟩)
      · have l1 := List.length_filter_le keep (xs.take j)
        rw [List.length_map]
        rw [List.length_take] at l1
        exact Nat.lt_of_le_of_lt (show _ ≤ 100000 by omega) (by decide)
      · exact (s.trans (s3.trans s4)).mut nD
      · rw [upd_same, tk, List.filter_append, List.filter_cons_of_pos hk, List.filter_nil, List.map_append]
        rfl
theorem walk_txt {z : Str} : Walk (Its z) z.cps.toList.length (fun _ => True) (YAt (z.cps.toList.map fun c => V.str ⟨#[c]⟩)) := by
  refine ⟨fun i H hi _ => ?_, fun H _ => ?_, fun i H x H' hi _ y => ?_⟩
  · rw [Array.length_toList] at hi
    exact hi
  · show z.cps.size ≤ z.cps.toList.length
    rw [Array.length_toList]
    exact Nat.le_refl _
  · obtain ⟨e, c, hc, ex⟩ := y
    refine ⟨e, ?_⟩
    rw [List.getElem?_map, Array.getElem?_toList, hc, ex]
    rfl
theorem fil_true {α : Type} (xs : List α) : xs.filter (fun _ => true) = xs := List.filter_eq_self.mpr fun _ _ => rfl
/-- without a test -/
theorem lc_map {α : Type} {J : It} {n : Nat} {G : Hp → Prop} {xs : List α} {h : α → V} (w : Walk J n G (YAt (xs.map h))) (hn : n = xs.length) {te : TE} {i : Nat} {σ : St} {H1 : Hp} {D : Addr} {Qd : Hp → Prop} (F : α → V) (nD : H1 D = none)
    (hG : ∀ H, Same H1 H → G H) (hlen : xs.length < 100000)
    (he : ∀ a ∈ xs, ∀ H, Same H1 H → TEo te ((wipe σ [i]).set i (some (h a))) H (F a))
    (hd : ∀ H, Same H1 H → H D = some (.lst (xs.map F)) → Qd H) :
    ∃ W : Nat → Nat → Hp → Prop, (∃ m, W 0 m (upd H1 D (.lst []))) ∧ ∀ j m H, W j m H →
      (J.stop j H ∧ Qd H) ∨ (J.go j H ∧ ∃ Nx : Hp → Prop, (∀ H', Nx H' → ∃ m', m' < m ∧ W (j + 1) m' H') ∧ ∀ x H', J.yld j H x H' → gName i x (wipe σ [i]) H' fun σ2 H2 => wipe σ2 [i] = wipe σ [i] ∧ tYes σ2 H2 fun b H3 =>
        if b = true then te σ2 H3 fun y H4 => ∃ acc, H4 D = some (.lst acc) ∧ acc.length < sizeLine ∧ Nx (upd H4 D (.lst (acc ++ [y]))) else Nx H3) :=
  lc_on w hn (fun _ => true) F nD hG hlen (fun _ _ _ _ => tto_yes) (fun a ha _ H s => he a ha H s) fun H s e => hd H s (by rw [e, fil_true])
end L2

/-! the ways of a statement meet again; slices of texts -/
namespace L2
open PySem PySem.Spec PyProof.Rows
theorem ps_mid {X : Cx} {st : Stmt} {t : TS} (h : PS X st t) : PS X st (fun D σ H => ∃ J : L2.St → Hp → Prop, t { D with nx := J } σ H ∧ ∀ σ' H', J σ' H' → D.nx σ' H') := by
  refine ⟨fun pins s σ H D I ⟨J, h1, h2⟩ => thn (h.run pins s σ H { D with nx := J } I h1) fun f s1 q => ?_⟩
  cases f with
  | next =>
    obtain ⟨σ', H', I', q⟩ := q
    exact ⟨σ', H', I', h2 _ _ q⟩
  | _ => exact q
theorem cut_txt (zs : List Str) (lo hi : Option Int) : ∃ ys : List Str, cutV (zs.map V.str) lo hi = ys.map V.str ∧ (∀ y ∈ ys, y ∈ zs) ∧ ys.length ≤ zs.length := by
  unfold cutV
  refine ⟨(zs.drop (HT.sIx (zs.map V.str).length 0 lo)).take (HT.sIx (zs.map V.str).length (zs.map V.str).length hi - HT.sIx (zs.map V.str).length 0 lo), by rw [List.map_take, List.map_drop], fun y hy => List.mem_of_mem_drop (List.mem_of_mem_take hy), ?_⟩
  rw [List.length_take, List.length_drop]
  omega
theorem cut_tail (xs : List V) : cutV xs (some 1) none = xs.drop 1 := by
  unfold cutV
  have e : HT.sIx xs.length 0 (some 1) = min 1 xs.length := HT.sIx_nat xs.length 0 1
  rw [e, HT.sIx_none]
  cases xs with
  | nil => rfl
  | cons x xs =>
    have e1 : min 1 (x :: xs).length = 1 := by rw [List.length_cons]; omega
    rw [e1]
    refine List.take_of_length_le ?_
    rw [List.length_drop]
    exact Nat.le_refl _
theorem Same.sql {K : PySem.W.Frag} {H H' : Hp} {a : Addr} {xs : List V} (e : Same H H') (h : SqL K H a xs) : SqL K H' a xs := by
  rcases h with (h | ⟨o, h⟩) | h
  · exact .inl (.inl (e _ _ h))
  · exact .inl (.inr ⟨o, e _ _ h⟩)
  · exact .inr h
/-- a list of names != [] -/
theorem ne_nil {K : PySem.W.Frag} {H : Hp} {p : Addr} {zs : List Str} {R : VK} (hp : SqL K H p (zs.map V.str)) (nz : ∀ z ∈ zs, nameB z = true) (h : ∀ H', Same H H' → R (.bl (!decide (zs = []))) H') :
    0 ≤ sizeLine ∧ ∀ t, H t = none → rNeD K (.ref p) (.ref t) (upd H t (.lst [])) R := by
  refine ⟨Nat.zero_le _, fun t nt => ⟨.list (dS zs), .list (dS []), dp_list ((same_new nt).sql hp), dp_list (zs := []) (lst_of upd_same), shaped_list nz, shaped_list (zs := []) (by intro z hz; cases hz), ?_⟩⟩
  rw [eqv_lists]
  exact h _ (same_new nt)
theorem eq_nil {K : PySem.W.Frag} {H : Hp} {p : Addr} {zs : List Str} {R : VK} (hp : SqL K H p (zs.map V.str)) (nz : ∀ z ∈ zs, nameB z = true) (h : ∀ H', Same H H' → R (.bl (decide (zs = []))) H') :
    0 ≤ sizeLine ∧ ∀ t, H t = none → rEqD K (.ref p) (.ref t) (upd H t (.lst [])) R := by
  refine ⟨Nat.zero_le _, fun t nt => ⟨.list (dS zs), .list (dS []), dp_list ((same_new nt).sql hp), dp_list (zs := []) (lst_of upd_same), shaped_list nz, shaped_list (zs := []) (by intro z hz; cases hz), ?_⟩⟩
  rw [eqv_lists]
  exact h _ (same_new nt)
end L2

/-! own binary operators, o.m() by a raw promise, a statement that is not reached -/
namespace L2
open PySem PySem.Spec PyProof.Rows
section
variable {X : Cx} {CX : CXT} {k : Nat} {f C : Addr} {sp : Sp} {E : XK}
/-- a | b, a & b of two instances of one class -/
def rBinO (C : Addr) (sp : Sp) (E : XK) : R2 := fun x y H Q => ∃ a dx fs b dy fy, x = .ref a ∧ y = .ref b ∧ H a = some (.ins C dx fs) ∧ H b = some (.ins C dy fy) ∧ sp [.ref a, .ref b] H (fun v H' => ∃ z, v = .ref z ∧ Q (.ref z) H') E
theorem op_binO {op : Operator} (hs : PySem.W.findIn X.K (.ref C) (PySem.dunder op.info.2) = some (some (.ref f))) (hf : PySem.W.isFn X.K (.ref f) = true) (hc : PySem.W.selfFirst X.K C = true) (F : FnR X.prog X.w X.K X.mg X.base CX k f sp) (hr : Room k X.A) (hx : Passes CX X E) : OpR X (binaryOp op) (rBinO C sp E) := by
  intro pins s σ H x y u v Q I rx ry h
  obtain ⟨a, dx, fs, b, dy, fy, rfl, rfl, ha, hb, h⟩ := h
  cases rx
  cases ry
  obtain ⟨ox, od, J⟩ := ins_at I ha
  obtain ⟨oy, od', J'⟩ := ins_at I hb
  obtain ⟨m, hF⟩ := I.fr
  refine PySem.W.binop_K hF I.ok.mod.kin J J'.type hc hs hf (wpAny_mono (run_sub F (sub0 hr) hx I (vs := [.ref a, .ref b]) (.cons rfl (.cons rfl .nil)) h) (fun v s' q => ?_) fun _ _ z => z)
  obtain ⟨v', H', I', rv, z, rfl, q⟩ := q
  cases rv
  exact ⟨.ref z, H', I', rfl, q⟩
theorem pe_methR0 {m : Str} {o : Expr} {ta : TE} {apos pos : Pos} {pl : Sem Bool} (he : PE X o ta) (c : Cls X.K C) (hm : Meth X.K C m f)
    (F : FnR X.prog X.w X.K X.mg X.base CX k f sp) (hr : Room k X.A) (hx : Passes CX X E)
    (ht : eval (.Call (.Attribute o m apos) [] [] pos) X.env = (do
      let ov ← eval o X.env
      standAt apos.atName
      let (f, first) ← holding [ov] (getMethod ov m pl)
      callWith pos f first (backTo pos (starEach [] X.env)) (backToKw pos (keywordEach [] X.env))) := by rfl) :
    PE X (.Call (.Attribute o m apos) [] [] pos) (tMethR C m sp E ta tNil) := by
  refine ⟨fun pins s σ H Q I h => ?_⟩
  refine PySem.W.methodCall_KW (pl := pl) (thn (he.run pins s σ H _ I h) fun u s1 ⟨x, H1, I1, rx, a, dx, fs, ex, ea, l, q⟩ => ?_) ht
  subst ex
  obtain rfl : u = Value.ref a := rx
  refine getmeth_ok I1 ea c hm l ?_
  exact PySem.W.callWith_K0 (first := [.ref a]) I1.kIn hm.kp (wpAny_call (run_fnR (us := [.ref a]) (vs := [.ref a]) F hr hx I1 (.cons rfl .nil) q))
theorem ps_off {st : Stmt} : PS X st (fun _ _ _ => False) := ⟨fun _ _ _ _ _ _ h => h.elim⟩
end
end L2

/-! sets of texts: set(xs), sorted(set(xs)), len(set(xs)) -/
namespace L2
open PySem PySem.Spec PyProof.Rows
abbrev newSetO (w : World) : Obj := { cls := .type "set", dict := none, data := .set #[] 0 (.fresh 0 0 (!w.params.followText "set-order")) }
def txtOf (e : Int × Value) : Str := match e.2 with | .str x _ => x | _ => Str.empty
def TxtE (w : World) (e : Int × Value) : Prop := ∃ x tk, e.2 = Value.str x tk ∧ e.1 = hashStr w x
/-- the set of texts at a: its members are L, in some order -/
def SetS (w : World) (h : Heap) (a : Addr) (L : List Str) : Prop :=
  ∃ o es ep t, h.get? a = some o ∧ o.ExactSet ∧ o.data = .set es ep t ∧ (∀ e ∈ es.toList, TxtE w e) ∧ (es.toList.map txtOf).Perm L ∧ L.Nodup ∧
    es.size < scanBound ∧ t.fits es.size = true ∧ Ris t.place.toList ∧ (w.params.followText "set-order" = true ∨ t.led = true)
section
variable {P : Program} {w : World} {h h' : Heap} {a : Addr} {L : List Str}
theorem SetS.at (R : SetS w h a L) (k : ∀ o, h.get? a = some o → h'.get? a = some o) : SetS w h' a L := by
  obtain ⟨o, es, ep, t, ho, r⟩ := R
  exact ⟨o, es, ep, t, k o ho, r⟩
theorem txt_elems {l : List (Int × Value)} (g : ∀ e ∈ l, TxtE w e) : ElemsOf (PySem.strKind P w) l := fun e he => by
  obtain ⟨k, tk, h1, h2⟩ := g e he
  exact ⟨⟨k, by rw [h1]; exact strKind_is P w k tk, h2⟩, by rw [h1] <;> rfl⟩
theorem txt_is {e : Int × Value} (g : TxtE w e) (k : Str) : (PySem.strKind P w).is k e.2 = true ↔ txtOf e = k := by
  obtain ⟨k0, tk, h1, _⟩ := g
  unfold txtOf
  rw [h1]
  constructor
  · intro z
    obtain ⟨t, e⟩ := Value.isStrOf_shape (show Value.isStrOf k (.str k0 tk) = true from z)
    injection e
  · intro z
    show (PySem.strKind P w).is k (.str k0 tk) = true
    have z' : k0 = k := z
    rw [z']
    exact strKind_is P w k tk
theorem setS_fresh (w : World) {h : Heap} (ho : h.get? a = some (newSetO w)) : SetS w h a [] :=
  ⟨_, #[], 0, _, ho, ⟨rfl, rfl, rfl⟩, rfl, (fun e he => by simp at he), List.Perm.nil, List.nodup_nil, (by decide), (by rfl), List.Pairwise.nil, by
    show _ ∨ (!w.params.followText "set-order") = true
    cases w.params.followText "set-order"
    · exact .inr rfl
    · exact .inl rfl⟩
end
section
variable {P : Program} {w : World} {A : Around} {E : Value → Shared → Prop} {s : Shared} {a : Addr} {L : List Str}
theorem setS_tail {g : Bool → Sem Unit} (hg : ∀ (b : Bool) (s₁ : Shared) (Q' : Unit → Shared → Prop), Q' () s₁ → wpAny (model P w) A (g b) Q' E s₁)
    {o : Obj} {es : Array (Int × Value)} {ep : Nat} {t : SetTable} (ho : s.heap.get? a = some o) (hex : o.ExactSet) (hd : o.data = .set es ep t)
    {es1 : Array (Int × Value)} {t2 : SetTable} (g1 : ∀ e ∈ es1.toList, TxtE w e) (p1 : (es1.toList.map txtOf).Perm L) (nd : L.Nodup)
    (hb1 : es1.size < scanBound) (hf2 : t2.fits es1.size = true) (hr : Ris t2.place.toList) (hl : w.params.followText "set-order" = true ∨ t2.led = true) {wasDummy : Bool} {R : Option Bool → Shared → Prop}
    (hR : ∀ h', Heap.SameBut a s.heap h' → SetS w h' a L → R (some true) { s with heap := h' }) :
    wpAny (model P w) A (do
        storeSet a es1 t2
        if (!wasDummy && t2.tooFull) = true then do
            g (relayAll t2 es1 (SetTable.grown es1.size)).2.2
            storeSet a (relayAll t2 es1 (SetTable.grown es1.size)).1 (relayAll t2 es1 (SetTable.grown es1.size)).2.1
            pure (some true)
          else pure (some true)) R E s := by
  refine wpAny_bind (wpAny_storeSet_of ho hd ?_ (fits_of_scanBound hb1))
  have o1 := store_at (es' := es1) (t' := t2) ho hd
  have b1 := Heap.SameBut.update s.heap a (Obj.putSet es1 t2)
  split
  · have q1 := relayAll_perm t2 es1 (SetTable.grown es1.size)
    have q2 := relayAll_fits t2 es1 (SetTable.grown es1.size)
    have q3 := relayAll_ris t2 es1 (SetTable.grown es1.size)
    have q4 := relayAll_led t2 es1 (SetTable.grown es1.size)
    generalize relayAll t2 es1 (SetTable.grown es1.size) = Z at q1 q2 q3 q4 ⊢
    obtain ⟨es2, t3, gave⟩ := Z
    dsimp only at q1 q2 q3 q4 ⊢
    have sz : es2.size = es1.size := by rw [← Array.length_toList, q1.length_eq, Array.length_toList]
    have hb2 : es2.size < scanBound := by rw [sz]; exact hb1
    refine wpAny_bind (hg _ _ _ (wpAny_bind (wpAny_storeSet_of o1 rfl ?_ (fits_of_scanBound hb2))))
    have o2 := store_at (es' := es2) (t' := t3) o1 rfl
    refine wpAny_pure (hR _ (b1.trans (Heap.SameBut.update _ a _)) ⟨_, es2, _, t3, o2, hex, rfl, fun e he => g1 e (q1.mem_iff.mp he), (q1.map txtOf).trans p1, nd, hb2, q2, q3, ?_⟩)
    rcases hl with z | z
    · exact .inl z
    · exact .inr (by rw [q4]; exact z)
  · exact wpAny_pure (hR _ b1 ⟨_, es1, _, t2, o1, hex, rfl, g1, p1, nd, hb1, hf2, hr, hl⟩)
/-- one text more -/
theorem setS_add {x : Str} {tk : Tok} {Q : Bool → Shared → Prop} (R : SetS w s.heap a L) (room : L.length + 1 < scanBound)
    (hQ : ∀ h' b, Heap.SameBut a s.heap h' → SetS w h' a (if x ∈ L then L else L ++ [x]) → Q b { s with heap := h' }) :
    wpAny (model P w) A (setAddHashed a (.str x tk) ((PySem.strKind P w).hash x)) Q E s := by
  obtain ⟨o, es, ep, t, ho, hex, hd, g, pl, nd, hb, hf, hr, hl⟩ := R
  have key : (PySem.strKind P w).is x (.str x tk) = true := strKind_is P w x tk
  have sc : (Value.str x tk).scannable = true := rfl
  have el : ElemsOf (PySem.strKind P w) es.toList := txt_elems g
  have len : es.size = L.length := by
    have z := pl.length_eq
    rw [List.length_map, Array.length_toList] at z
    exact z
  unfold setAddHashed setAddHashedIn
  refine wpAny_holding (wpAny_bind (wpAny_setState_of ho hd hf ?_))
  dsimp only
  rw [byScan_of sc hb el]
  simp only [↓reduceIte]
  unfold setAddByScan
  refine wpAny_bind (wpAny_bind (wpAny_rule (wpAny_bind (wpAny_setScan_of key ho hd hf el ?_))))
  cases fi : List.findIdx? (fun e => (PySem.strKind P w).is x e.2) es.toList with
  | some j =>
    dsimp only
    obtain ⟨hj, pj, _⟩ := List.findIdx?_eq_some_iff_getElem.mp fi
    have mem : x ∈ L := pl.mem_iff.mp (List.mem_map.mpr ⟨es.toList[j], List.getElem_mem hj, (txt_is (P := P) (g _ (List.getElem_mem hj)) x).mp pj⟩)
    refine wpAny_pure (wpAny_pure (hQ s.heap _ (Heap.SameBut.refl a s.heap) ?_))
    rw [if_pos mem]
    exact ⟨o, es, ep, t, ho, hex, hd, g, pl, nd, hb, hf, hr, hl⟩
  | none =>
    dsimp only
    have nmem : x ∉ L := fun z => by
      obtain ⟨e, he, q⟩ := List.mem_map.mp (pl.mem_iff.mpr z)
      have c := List.findIdx?_eq_none_iff.mp fi e he
      rw [(txt_is (P := P) (g e he) x).mpr q] at c
      cases c
    have gw : ∀ (b : Bool) {s₁ : Shared} {Q' : Unit → Shared → Prop}, Q' () s₁ → wpAny (model P w) A (match b with | true => rule "set.scan.the-table-gave-way" | false => pure ()) Q' E s₁ :=
      fun b s₁ Q' q => by cases b <;> first | exact wpAny_pure q | exact wpAny_rule q
    have z1 := layNew_perm t es ((PySem.strKind P w).hash x) (.str x tk)
    have z2 := layNew_fits t es ((PySem.strKind P w).hash x) (.str x tk)
    have z3 := layNew_ris t es ((PySem.strKind P w).hash x) (.str x tk) hr
    have z4 := layNew_led t es ((PySem.strKind P w).hash x) (.str x tk)
    generalize layNew t es ((PySem.strKind P w).hash x) (.str x tk) = Z at z1 z2 z3 z4 ⊢
    obtain ⟨es1, t1, wasDummy, gave⟩ := Z
    dsimp only at z1 z2 z3 z4 ⊢
    rw [Array.toList_push] at z1
    have pk : (es1.toList.map txtOf).Perm (L ++ [x]) := by
      have q := z1.map txtOf
      rw [List.map_append] at q
      exact q.trans (pl.append_right _)
    have g1 : ∀ e ∈ es1.toList, TxtE w e := fun e he => by
      rcases List.mem_append.mp (z1.mem_iff.mp he) with z | z
      · exact g e z
      · rw [List.mem_singleton.mp z]; exact ⟨x, tk, rfl, rfl⟩
    have nd1 : (L ++ [x]).Nodup := List.nodup_append.mpr ⟨nd, List.nodup_cons.mpr ⟨by simp, List.nodup_nil⟩, fun y hy y' hy' e => nmem (by rw [← List.mem_singleton.mp hy', ← e]; exact hy)⟩
    have sz : es1.size = L.length + 1 := by
      have z := pk.length_eq
      rw [List.length_map, Array.length_toList, List.length_append] at z
      exact z
    have hb1 : es1.size < scanBound := by rw [sz]; exact room
    have led : w.params.followText "set-order" = true ∨ t1.led = true := by
      rcases hl with z | z
      · exact .inl z
      · exact .inr (by rw [z4]; exact z)
    have fin : ∀ h', Heap.SameBut a s.heap h' → SetS w h' a (L ++ [x]) → Q true { s with heap := h' } := fun h' sb r => hQ h' true sb (by rw [if_neg nmem]; exact r)
    refine wpAny_bind (gw _ ?_)
    split
    · refine wpAny_bind ?_
      rw [hashByValue_scannable 8 sc]
      refine wpAny_pure (setS_tail ?_ ho hex hd g1 pk nd1 hb1 ?_ ?_ ?_ ?_)
      · intro b s₁ Q' q; cases b <;> first | exact wpAny_pure q | exact wpAny_rule q
      · first | (split <;> first | exact z2 | exact SetTable.fits_plain_off z2) | exact z2
      · first | (split <;> exact z3) | exact z3
      · first | (split <;> exact led) | exact led
      · intro h' sb r; dsimp only; exact wpAny_pure (fin h' sb r)
    · refine wpAny_bind (wpAny_pure ?_)
      simp only [↓reduceIte]
      refine setS_tail ?_ ho hex hd g1 pk nd1 hb1 z2 z3 led ?_
      · intro b s₁ Q' q; cases b <;> first | exact wpAny_pure q | exact wpAny_rule q
      · intro h' sb r; dsimp only; exact wpAny_pure (fin h' sb r)
end
/-- the texts in the order in which they are first met -/
def firsts (xs : List Str) : List Str := xs.foldl (fun L x => if x ∈ L then L else L ++ [x]) []
theorem firsts_snoc (xs : List Str) (x : Str) : firsts (xs ++ [x]) = if x ∈ firsts xs then firsts xs else firsts xs ++ [x] := by
  unfold firsts
  rw [List.foldl_append]
  rfl
theorem firsts_len (xs : List Str) : (firsts xs).length ≤ xs.length := by
  have gen : ∀ (ys : List Str) (L : List Str), (ys.foldl (fun L x => if x ∈ L then L else L ++ [x]) L).length ≤ L.length + ys.length := by
    intro ys
    induction ys with
    | nil => intro L; exact Nat.le_refl _
    | cons y ys ih =>
      intro L
      refine Nat.le_trans (ih _) ?_
      rw [List.length_cons]
      show (if y ∈ L then L else L ++ [y]).length + _ ≤ _
      split
      · omega
      · rw [List.length_append, List.length_singleton]; omega
  exact Nat.le_trans (gen xs []) (by simp)
section
variable {P : Program} {w : World} {A : Around} {E : Value → Shared → Prop} {s : Shared}
/-- the loop of set.update over texts -/
theorem setS_loop {I : Addr} {fp wr : List Addr} {G : Array GenState → Array GenState → Prop} {n : Nat} {Pv : Nat → Value → Prop} {St : Nat → Shared → Prop} {R : Result → Shared → Prop}
    (W : WalksS P w A.in1 I fp wr G n Pv St) (S : Addr) (hSf : S ∉ fp) (xs : List Str) (hn : n = xs.length) (few : xs.length + 1 < scanBound) (hval : ∀ i v, Pv i v → ∃ x t, xs[i]? = some x ∧ v = .str x t) :
    ∀ (k i : Nat) (s : Shared), n - i = k → i ≤ n → St i s → SetS w s.heap S (firsts (xs.take i)) →
      (∀ s', Moved (S :: wr) G s s' → SetS w s'.heap S (firsts xs) → R (.ok (.ret .none)) s') →
      codeAny (model P w) A (.builtin "set.update.loop" ⟨[.ref S, .ref I], []⟩) R s := by
  have hSw : S ∉ wr := fun h => hSf (W.sub _ h)
  have wid : ∀ b ∈ wr, b ∈ S :: wr := fun b hb => List.mem_cons_of_mem _ hb
  intro k
  induction k with
  | zero =>
    intro i s hk hi hst hS hR
    have e : i = n := by omega
    subst e
    rw [hn, List.take_length] at hS
    refine codeAny_builtin F.entry_set_update_loop ?_
    rw [Around.under_plainId F.plain_set_update_loop _]
    show wpAny _ A.in1 (pyNext (.ref I) >>= _) _ _ s
    refine wpAny_bind (W.done s _ _ hst fun s' hm => ?_)
    exact wpAny_pure (hR s' (hm.mono wid) (hS.at fun o e => hm.heap S o hSw e))
  | succ k ih =>
    intro i s hk hi hst hS hR
    have lt : i < n := by omega
    refine codeAny_builtin F.entry_set_update_loop ?_
    rw [Around.under_plainId F.plain_set_update_loop _]
    show wpAny _ A.in1 (pyNext (.ref I) >>= _) _ _ s
    refine wpAny_bind (W.item i s _ _ lt hst fun v s' hP hst' hm => ?_)
    obtain ⟨x, t, hx, rfl⟩ := hval i v hP
    have hS' : SetS w s'.heap S (firsts (xs.take i)) := hS.at fun o e => hm.heap S o hSw e
    have tk : xs.take (i + 1) = xs.take i ++ [x] := by rw [List.take_add_one, hx]; rfl
    show wpAny _ A.in1 (holding [Value.str x t] (setAdd S (.str x t)) >>= _) _ _ s'
    refine wpAny_bind (wpAny_holding ?_)
    unfold setAdd
    refine wpAny_holding (wpAny_bind ((PySem.strKind P w).pyHash (strKind_is P w x t) ?_))
    have fl := firsts_len (xs.take i)
    rw [List.length_take] at fl
    refine setS_add (s := { s' with toks := s'.toks + 1 }) hS' (by omega) fun h' b sb r => ?_
    rw [← firsts_snoc, ← tk] at r
    refine wpAny_pure ⟨plainId_quiet F.plain_set_update_loop _, ih (i + 1) _ (by omega) lt (W.frame _ s' _ _ hst' (Nat.le_succ _) fun b hb o e => ?_) r fun s'' hm'' hS'' => ?_⟩
    · rw [sb.2 b (fun h : b = S => hSf (by rw [← h]; exact hb))]; exact e
    · refine hR s'' (Moved.trans W.gtrans ((hm.mono wid).then_heap (Nat.le_succ _) fun b o hb e => ?_) hm'') hS''
      rw [sb.2 b (fun h : b = S => hb (by rw [h]; exact List.mem_cons_self))]; exact e
end
section
variable {P : Program} {w : World} {A : Around} {E : Value → Shared → Prop} {s : Shared}
set_option maxHeartbeats 8000000 in
/-- set(xs), xs a list of texts -/
theorem setS_list {l : Addr} {items : Array Value} {xs : List Str} {Q : Value → Shared → Prop} (hh : A.handled = none) (hl : s.heap.IsList l items) (hv : ∀ (i : Nat) (v : Value), items[i]? = some v → ∃ x t, xs[i]? = some x ∧ v = .str x t) (hz : items.size = xs.length) (few : xs.length + 1 < scanBound)
    (h : ∀ (h' : Heap) (tk : Nat), SetS w h' s.heap.objs.size (firsts xs) → (∀ b o, s.heap.get? b = some o → h'.get? b = some o) → Q (.ref s.heap.objs.size) { s with heap := h', toks := tk }) :
    wpAny (model P w) A (call (.type "set") [.ref l]) Q E s := by
  obtain ⟨c, tl, hmro⟩ := F.called_set.mro
  have hmade := F.called_set.made
  have hsub := F.called_set.sub
  refine wpAny_call (codeAny_of_tree ?_)
  show wpAny _ _ (callAny (.type "set") _) _ _ _
  refine wpAny_pure ⟨Code.quiet_builtin _ (by decide +kernel), codeAny_builtin F.entry_type_call ?_⟩
  rw [Around.under_plain (weight_type_call_type "set" [.ref l] []) rfl]
  have h1 := F.called_set.notType
  have h2 := F.called_set.canCreate
  have hct := F.typeCall_set_1 (.ref l)
  repeat (any_goals (first | assumption | wp_step))
  refine codeAny_mono (code_set_led1 (.ref l) (E := E) (Q₁ := fun obj s₁ => obj = .ref s.heap.objs.size ∧ s₁ = { s with heap := s.heap.push (newSetO w) }) ⟨rfl, rfl⟩) fun r s₁ hr => ?_
  cases r with
  | error e => exact hr
  | ok fl =>
    cases fl with
    | ret obj =>
      obtain ⟨rfl, rfl⟩ := hr
      have hS : (s.heap.push (newSetO w)).get? s.heap.objs.size = some (newSetO w) := Heap.get?_push_size _ rfl
      have hT : Shared.TypeIs { s with heap := s.heap.push (newSetO w) } (.ref s.heap.objs.size) "set" := ⟨_, hS, rfl⟩
      have hli := F.called_set.init.lookup
      have hbi := F.called_set.init.bind (.ref s.heap.objs.size)
      repeat (any_goals (first | assumption | wp_step))
      refine codeAny_mono (codeAny_call_builtin (R := wants (fun r s₂ => r = .none ∧ ∃ h' tk, s₂ = { s with heap := h', toks := tk } ∧ SetS w h' s.heap.objs.size (firsts xs) ∧ (∀ b o, s.heap.get? b = some o → h'.get? b = some o)) E) F.called_set.init.plain F.entry_set_init (check_set_init_1 hT ?_)) fun r₂ s₂ hr₂ => ?_
      · obtain ⟨ol, hol, hcl, nl, hdl⟩ := hl
        obtain ⟨ocls, odict, odata, oslots⟩ := ol
        simp only at hcl hdl
        subst hcl; subst hdl
        have hol' : (s.heap.push (newSetO w)).get? l = some { cls := .type "list", dict := odict, data := .seq items nl, slots := oslots } := Heap.get?_push_of_some _ hol
        have hsls := F.sub_list_set
        have hslf := F.sub_list_frozenset
        have hne : (Value.type "list" == Value.type "dict") = false := by decide
        have hl1 : (s.heap.push (newSetO w)).IsList l items := ⟨_, hol', rfl, nl, rfl⟩
        unfold Builtin.«set.__init__» noKeywords Builtin.Frozenset.updateFrom
        generalize hPI : pyIter = PI
        wp_walk
        subst hPI
        refine wpAny_pyIter_list hl1 ?_
        refine wpAny_bind (wpAny_runValue ?_)
        have lt : l < s.heap.objs.size := Heap.lt_size hol
        have hh3 : A.in1.in1.in1.handled = none := by simp [hh]
        have sz : (s.heap.push (newSetO w)).objs.size = s.heap.objs.size + 1 := Heap.size_push ..
        have neI : l ≠ (s.heap.push (newSetO w)).objs.size := by
          rw [sz]
          exact Nat.ne_of_lt (Nat.lt_succ_of_lt lt)
        have nf : s.heap.objs.size ∉ [(s.heap.push (newSetO w)).objs.size, l] := by
          rw [sz]
          simp only [List.mem_cons, List.not_mem_nil, or_false, not_or]
          exact ⟨Nat.ne_of_lt (Nat.lt_succ_self _), Nat.ne_of_gt lt⟩
        refine setS_loop ((Walks.list hh3 _ l neI items).toS) s.heap.objs.size nf xs hz few hv (items.size - 0) 0 _ (by omega) (Nat.zero_le _) ⟨⟨_, Heap.get?_push_size _ rfl, rfl, rfl⟩, (hl1.push _)⟩ (setS_fresh w (Heap.get?_push_of_some _ hS)) ?hR
        case hR =>
          intro s' hm hS'
          obtain ⟨h', g2, d', tk', os'⟩ := s'
          have eg : g2 = s.gens := hm.gens
          have ed : d' = s.drawn := hm.drawn
          have eo : os' = s.os := hm.os
          subst eg; subst ed; subst eo
          show wpAny _ _ _ _ _ _
          refine wpAny_pure ?_
          show wpAny _ _ (ret Value.none) _ _ _
          refine wpAny_pure ⟨rfl, h', tk', rfl, hS', fun b o e => ?_⟩
          have lb := Heap.lt_size e
          refine hm.heap b o (fun z => ?_) (Heap.get?_push_of_some _ (Heap.get?_push_of_some _ e))
          rw [sz] at z
          simp only [List.mem_cons, List.not_mem_nil, or_false] at z
          rcases z with z | z
          · exact absurd z (Nat.ne_of_lt lb)
          · exact absurd z (Nat.ne_of_lt (Nat.lt_succ_of_lt lb))
      · cases r₂ with
        | error e => exact hr₂
        | ok fl₂ =>
          cases fl₂ with
          | ret r =>
            obtain ⟨rfl, h', tk, rfl, hS', hk'⟩ := hr₂
            repeat (any_goals (first | assumption | wp_step))
            exact h _ _ hS' hk'
          | _ => exact hr₂.elim
    | _ => exact hr.elim
set_option maxHeartbeats 8000000 in
/-- set(xs), xs a tuple of texts -/
theorem setS_tuple {l : Addr} {items : Array Value} {xs : List Str} {Q : Value → Shared → Prop} (hh : A.handled = none) (hl : s.heap.IsTuple l items) (hv : ∀ (i : Nat) (v : Value), items[i]? = some v → ∃ x t, xs[i]? = some x ∧ v = .str x t) (hz : items.size = xs.length) (few : xs.length + 1 < scanBound)
    (h : ∀ (h' : Heap) (tk : Nat), SetS w h' s.heap.objs.size (firsts xs) → (∀ b o, s.heap.get? b = some o → h'.get? b = some o) → Q (.ref s.heap.objs.size) { s with heap := h', toks := tk }) :
    wpAny (model P w) A (call (.type "set") [.ref l]) Q E s := by
  obtain ⟨c, tl, hmro⟩ := F.called_set.mro
  have hmade := F.called_set.made
  have hsub := F.called_set.sub
  refine wpAny_call (codeAny_of_tree ?_)
  show wpAny _ _ (callAny (.type "set") _) _ _ _
  refine wpAny_pure ⟨Code.quiet_builtin _ (by decide +kernel), codeAny_builtin F.entry_type_call ?_⟩
  rw [Around.under_plain (weight_type_call_type "set" [.ref l] []) rfl]
  have h1 := F.called_set.notType
  have h2 := F.called_set.canCreate
  have hct := F.typeCall_set_1 (.ref l)
  repeat (any_goals (first | assumption | wp_step))
  refine codeAny_mono (code_set_led1 (.ref l) (E := E) (Q₁ := fun obj s₁ => obj = .ref s.heap.objs.size ∧ s₁ = { s with heap := s.heap.push (newSetO w) }) ⟨rfl, rfl⟩) fun r s₁ hr => ?_
  cases r with
  | error e => exact hr
  | ok fl =>
    cases fl with
    | ret obj =>
      obtain ⟨rfl, rfl⟩ := hr
      have hS : (s.heap.push (newSetO w)).get? s.heap.objs.size = some (newSetO w) := Heap.get?_push_size _ rfl
      have hT : Shared.TypeIs { s with heap := s.heap.push (newSetO w) } (.ref s.heap.objs.size) "set" := ⟨_, hS, rfl⟩
      have hli := F.called_set.init.lookup
      have hbi := F.called_set.init.bind (.ref s.heap.objs.size)
      repeat (any_goals (first | assumption | wp_step))
      refine codeAny_mono (codeAny_call_builtin (R := wants (fun r s₂ => r = .none ∧ ∃ h' tk, s₂ = { s with heap := h', toks := tk } ∧ SetS w h' s.heap.objs.size (firsts xs) ∧ (∀ b o, s.heap.get? b = some o → h'.get? b = some o)) E) F.called_set.init.plain F.entry_set_init (check_set_init_1 hT ?_)) fun r₂ s₂ hr₂ => ?_
      · obtain ⟨ol, hol, hcl, nl, hdl⟩ := hl
        obtain ⟨ocls, odict, odata, oslots⟩ := ol
        simp only at hcl hdl
        subst hcl; subst hdl
        have hol' : (s.heap.push (newSetO w)).get? l = some { cls := .type "tuple", dict := odict, data := .seq items nl, slots := oslots } := Heap.get?_push_of_some _ hol
        have hsls := F.sub_tuple_set
        have hslf := F.sub_tuple_frozenset
        have hne : (Value.type "tuple" == Value.type "dict") = false := by decide
        have hl1 : (s.heap.push (newSetO w)).IsTuple l items := ⟨_, hol', rfl, nl, rfl⟩
        unfold Builtin.«set.__init__» noKeywords Builtin.Frozenset.updateFrom
        generalize hPI : pyIter = PI
        wp_walk
        subst hPI
        refine wpAny_pyIter_tuple hl1 ?_
        refine wpAny_bind (wpAny_runValue ?_)
        have lt : l < s.heap.objs.size := Heap.lt_size hol
        have hh3 : A.in1.in1.in1.handled = none := by simp [hh]
        have sz : (s.heap.push (newSetO w)).objs.size = s.heap.objs.size + 1 := Heap.size_push ..
        have neI : l ≠ (s.heap.push (newSetO w)).objs.size := by
          rw [sz]
          exact Nat.ne_of_lt (Nat.lt_succ_of_lt lt)
        have nf : s.heap.objs.size ∉ [(s.heap.push (newSetO w)).objs.size, l] := by
          rw [sz]
          simp only [List.mem_cons, List.not_mem_nil, or_false, not_or]
          exact ⟨Nat.ne_of_lt (Nat.lt_succ_self _), Nat.ne_of_gt lt⟩
        refine setS_loop ((Walks.tuple hh3 _ l neI items).toS) s.heap.objs.size nf xs hz few hv (items.size - 0) 0 _ (by omega) (Nat.zero_le _) ⟨⟨_, Heap.get?_push_size _ rfl, rfl, rfl⟩, (hl1.push _)⟩ (setS_fresh w (Heap.get?_push_of_some _ hS)) ?hR
        case hR =>
          intro s' hm hS'
          obtain ⟨h', g2, d', tk', os'⟩ := s'
          have eg : g2 = s.gens := hm.gens
          have ed : d' = s.drawn := hm.drawn
          have eo : os' = s.os := hm.os
          subst eg; subst ed; subst eo
          show wpAny _ _ _ _ _ _
          refine wpAny_pure ?_
          show wpAny _ _ (ret Value.none) _ _ _
          refine wpAny_pure ⟨rfl, h', tk', rfl, hS', fun b o e => ?_⟩
          have lb := Heap.lt_size e
          refine hm.heap b o (fun z => ?_) (Heap.get?_push_of_some _ (Heap.get?_push_of_some _ e))
          rw [sz] at z
          simp only [List.mem_cons, List.not_mem_nil, or_false] at z
          rcases z with z | z
          · exact absurd z (Nat.ne_of_lt lb)
          · exact absurd z (Nat.ne_of_lt (Nat.lt_succ_of_lt lb))
      · cases r₂ with
        | error e => exact hr₂
        | ok fl₂ =>
          cases fl₂ with
          | ret r =>
            obtain ⟨rfl, h', tk, rfl, hS', hk'⟩ := hr₂
            repeat (any_goals (first | assumption | wp_step))
            exact h _ _ hS' hk'
          | _ => exact hr₂.elim
    | _ => exact hr.elim
/-- sorted(the set) -/
theorem sortedS_set {a : Addr} {L : List Str} {Q : Value → Shared → Prop} (R : SetS w s.heap a L) (hh : A.handled = none) (h64 : L.length < 64)
    (hQ : ∀ s' p (out : Array Value) (c : Nat) (ys : List Str), (∀ b o, s.heap.get? b = some o → s'.heap.get? b = some o) → s'.gens = s.gens → s'.os = s.os → s.heap.objs.size ≤ p →
      s'.heap.get? p = some (seqObj "list" out c) → StrsAre out.toList ys → ys.Perm L → sortedS ys = true → Q (.ref p) s') :
    wpAny (model P w) A (call (.builtin "sorted") [.ref a]) Q E s := by
  obtain ⟨o, es, ep, t, ho, hex, hd, g, pl, nd, hb, hf, hr, hl⟩ := R
  refine Calls.call_function_entry kind_sorted plain_sorted entry_sorted (args_sorted1 _) ?_
  unfold Builtin.«sorted»
  refine wpAny_bind (m := checkCount "sorted" 1 1 _) (wpAny_pure ?_)
  refine wpAny_bind (collect_set (A := A.in1) hh ⟨o, ho, hex.1, hd⟩ hf hb hr hl fun s1 vs k1 hz g1 o1 pm => ?_)
  have txs : ∀ us : List Value, (∀ u ∈ us, ∃ x tk, u = Value.str x tk) → StrsAre us (us.map fun u => txtOf (0, u)) := by
    intro us
    induction us with
    | nil => intro _; exact .nil
    | cons u us ih =>
      intro hu
      obtain ⟨x, tk, rfl⟩ := hu u List.mem_cons_self
      exact .cons x tk (ih fun v hv => hu v (List.mem_cons_of_mem _ hv))
  have hS : StrsAre vs (vs.map fun u => txtOf (0, u)) := txs vs fun v hv => by
    obtain ⟨e, he, q⟩ := List.mem_map.mp (pm.mem_iff.mp hv)
    obtain ⟨x, tk, e1, _⟩ := g e he
    exact ⟨x, tk, by rw [← q]; exact e1⟩
  have pk : (vs.map fun u => txtOf (0, u)).Perm L := by
    have q := pm.map fun u => txtOf (0, u)
    rw [List.map_map] at q
    exact q.trans pl
  have vl : vs.length = L.length := by
    have z := pk.length_eq
    rw [List.length_map] at z
    exact z
  refine wpAny_bind (wpAny_newList ?_ (by rw [sizeLine_eq]; omega))
  have oL : (s1.heap.push (seqObj "list" vs.toArray 0)).get? s1.heap.objs.size = some (seqObj "list" vs.toArray 0) := Heap.get?_push_size _ rfl
  refine wpAny_bind (wpAny_holding (wpAny_call_entry slot_list_sort ⟨_, oL, rfl⟩ entry_list_sort
    (list_sort_treeK strKind_oneLt oL hS.keysOf (fun v₁ v₂ rest e => keyKind_strs (by rw [← e]; exact hS)) (by rw [vl]; exact h64) fun st' hp hs => ?_) (args_list_sort _)))
  obtain ⟨ys, f1, f2, f3⟩ := sorted_out_str hS hp hs
  obtain ⟨c, hc⟩ := sortedHeap_at (vs := vs) (out := (arrOf st').map (·.2)) oL
  refine ⟨_, rfl, wpAny_pure ⟨_, rfl, hQ _ s1.heap.objs.size _ c ys (fun b u e => ?_) g1 o1 hz hc f1 (f2.trans pk) f3⟩⟩
  have q := k1 b u e
  have lt := Heap.lt_size q
  show (sortedHeap (s1.heap.push (seqObj "list" vs.toArray 0)) s1.heap.objs.size vs _).get? b = some u
  rw [sortedHeap_old (Nat.ne_of_lt lt) (by rw [size_push']; exact Nat.lt_succ_of_lt lt)]
  exact Heap.get?_push_of_some _ q
end
/-- a set of texts, tracked -/
def SetX (w : World) (a : Addr) (L : List Str) : HO := .ext fun h => SetS w h a L
theorem setX_new {P : Program} {w : World} {H : Hp} {h : Heap} {a : Addr} {L : List Str} (R : SetS w h a L) : ObjOk P w H h a (SetX w a L) := by
  have ⟨o, es, ep, t, ho, r⟩ := R
  exact ⟨R, ⟨o, ho⟩, fun h1 h2 p k => SetS.at p k⟩
theorem vals_txs : ∀ {xs : List Str} {us : List Value}, Vals (xs.map V.str) us → ∀ (i : Nat) (v : Value), us[i]? = some v → ∃ x t, xs[i]? = some x ∧ v = .str x t
  | [], _, .nil, i, v, h => by simp at h
  | x :: xs, _, .cons r t, 0, v, h => by
    obtain ⟨tk, rfl⟩ := r
    have e := Option.some.inj h
    exact ⟨x, tk, rfl, e.symm⟩
  | x :: xs, _, .cons r t, i + 1, v, h => vals_txs t i v h
section
variable {X : Cx}
def rSetX (K : PySem.W.Frag) (w : World) : List V → Hp → VK → Prop := fun vs H Q => ∃ (l : Addr) (xs : List Str), vs = [.ref l] ∧ (SqL K H l (xs.map V.str) ∨ SqT K H l (xs.map V.str)) ∧ xs.length ≤ 60 ∧ ∀ p, H p = none → Q (.ref p) (upd H p (SetX w p (firsts xs)))
theorem cr_setX (hc : X.calm = true) : CallR X (.type "set") (rSetX X.K X.w) := by
  intro pins s σ H vs us Q I r h
  obtain ⟨l, xs, rfl, hl, hf, q⟩ := h
  rw [Vals.ref1 r]
  have fin : ∀ (h' : Heap) (tk : Nat), SetS X.w h' s.heap.objs.size (firsts xs) → (∀ b o, s.heap.get? b = some o → h'.get? b = some o) → EP X pins σ Q (.ref s.heap.objs.size) { s with heap := h', toks := tk } := fun h' tk R k =>
    ⟨.ref s.heap.objs.size, _, I.laid (t' := tk) k (Nat.le_refl _) (setX_new R), rfl, q _ (I.hok.fresh (Nat.le_refl _))⟩
  have sb : xs.length + 1 < scanBound := by unfold scanBound; omega
  rcases hl with hl | hl
  · obtain ⟨its, rv, pl, hz⟩ := I.list hl
    exact setS_list (I.ok.hd hc) pl.isList (fun i v e => vals_txs rv i v (by simpa using e)) (by rw [List.size_toArray, ← rv.length, List.length_map]) sb fin
  · obtain ⟨its, rv, pl, hz⟩ := I.tuple hl
    exact setS_tuple (I.ok.hd hc) pl (fun i v e => vals_txs rv i v (by simpa using e)) (by rw [List.size_toArray, ← rv.length, List.length_map]) sb fin
def rSortX (w : World) : List V → Hp → VK → Prop := fun vs H Q => ∃ (a : Addr) (L : List Str), vs = [.ref a] ∧ H a = some (SetX w a L) ∧ L.length < 64 ∧ ∀ (ys : List Str) (p : Addr), ys.Perm L → sortedS ys = true → H p = none → Q (.ref p) (upd H p (.lst (ys.map V.str)))
theorem cr_sortX (hc : X.calm = true) : CallR X (.builtin "sorted") (rSortX X.w) := by
  intro pins s σ H vs us Q I r h
  obtain ⟨a, L, rfl, ha, h64, q⟩ := h
  have R : SetS X.w s.heap a L := (I.hok a _ ha).1
  rw [Vals.ref1 r]
  refine sortedS_set R (I.ok.hd hc) h64 fun s' p out c ys k g o hp hg hst pm so => ?_
  have hlen : (ys.map V.str).length ≤ sizeLine := by rw [List.length_map, pm.length_eq, sizeLine_eq]; omega
  have hn : H p = none := I.hok.fresh hp
  have J : Inv X pins σ (upd H p (.lst (ys.map V.str))) { s with heap := s'.heap, gens := s'.gens, drawn := s'.drawn, toks := s'.toks } :=
    I.call (ch := []) (Un.laid k hp hn) (I.hok.laid k hp ⟨hlen, out.toList, c, vals_of_strs hst, hg⟩) (by rw [g]; exact I.bare) (fun _ z => nomatch z)
  have e : s' = { s with heap := s'.heap, gens := s'.gens, drawn := s'.drawn, toks := s'.toks } := by
    cases s'
    cases s
    cases o
    rfl
  rw [e]
  exact ⟨.ref p, _, J, rfl, q ys p pm so hn⟩
def rLenX (w : World) : List V → Hp → VK → Prop := fun vs H Q => ∃ (a : Addr) (L : List Str), vs = [.ref a] ∧ H a = some (SetX w a L) ∧ Q (.int L.length) H
theorem cr_lenX : CallR X (.builtin "len") (rLenX X.w) := by
  intro pins s σ H vs us Q I r h
  obtain ⟨a, L, rfl, ha, q⟩ := h
  obtain ⟨o, es, ep, t, ho, hex, hd, g, pl, nd, hb, hf, hr, hl⟩ : SetS X.w s.heap a L := (I.hok a _ ha).1
  rw [Vals.ref1 r]
  have len : es.size = L.length := by
    have z := pl.length_eq
    rw [List.length_map, Array.length_toList] at z
    exact z
  refine call_len_set ho hex hd hf (by unfold scanBound at hb; omega) ⟨.int L.length, H, I.tok _, ⟨_, by rw [len]⟩, q⟩
end
end L2

/-! the order of texts; the sorted list of different texts is one -/
namespace L2
open PySem PySem.Spec PyProof.Rows
def leS (a b : Str) : Bool := !ltCps b.cps.toList a.cps.toList
theorem leS_iff {a b : Str} : leS a b = true ↔ a.cps.toList ≤ b.cps.toList := by
  unfold leS
  rw [ltCps_eq]
  simp [List.not_lt]
theorem leS_trans {a b c : Str} (h : leS a b = true) (k : leS b c = true) : leS a c = true := leS_iff.mpr (List.le_trans (leS_iff.mp h) (leS_iff.mp k))
theorem leS_total (a b : Str) : (leS a b || leS b a) = true := by
  rw [Bool.or_eq_true, leS_iff, leS_iff]
  exact List.le_total _ _
theorem str_ext {a b : Str} (h : a.cps.toList = b.cps.toList) : a = b := by
  obtain ⟨x⟩ := a
  obtain ⟨y⟩ := b
  congr 1
  exact Array.toList_inj.mp h
theorem leS_anti {a b : Str} (h : leS a b = true) (k : leS b a = true) : a = b := str_ext (List.le_antisymm (leS_iff.mp h) (leS_iff.mp k))
theorem rising_pw : ∀ (l : List Str) (x : Str), risingS x l = true → (x :: l).Pairwise (fun a b => leS a b = true)
  | [], x, _ => List.pairwise_singleton _ _
  | y :: l, x, h => by
    have h2 : (leS x y && risingS y l) = true := h
    rw [Bool.and_eq_true] at h2
    have ih := rising_pw l y h2.2
    refine List.pairwise_cons.mpr ⟨fun z hz => ?_, ih⟩
    rcases List.mem_cons.mp hz with rfl | hz
    · exact h2.1
    · exact leS_trans h2.1 ((List.pairwise_cons.mp ih).1 z hz)
theorem pw_rising : ∀ (l : List Str) (x : Str), (x :: l).Pairwise (fun a b => leS a b = true) → risingS x l = true
  | [], x, _ => rfl
  | y :: l, x, h => by
    obtain ⟨h1, h2⟩ := List.pairwise_cons.mp h
    show (leS x y && risingS y l) = true
    rw [Bool.and_eq_true]
    exact ⟨h1 y List.mem_cons_self, pw_rising l y h2⟩
theorem sortedS_pw {l : List Str} (h : sortedS l = true) : l.Pairwise (fun a b => leS a b = true) := by
  cases l with
  | nil => exact List.Pairwise.nil
  | cons x l => exact rising_pw l x h
theorem pw_sortedS {l : List Str} (h : l.Pairwise (fun a b => leS a b = true)) : sortedS l = true := by
  cases l with
  | nil => rfl
  | cons x l => exact pw_rising l x h
theorem sorted_one : ∀ {l l' : List Str}, l.Perm l' → l.Pairwise (fun a b => leS a b = true) → l'.Pairwise (fun a b => leS a b = true) → l = l'
  | [], l', p, _, _ => (List.nil_perm.mp p).symm
  | x :: l, [], p, _, _ => by have := p.length_eq; simp at this
  | x :: l, y :: l', p, h, h' => by
    obtain ⟨h1, h2⟩ := List.pairwise_cons.mp h
    obtain ⟨k1, k2⟩ := List.pairwise_cons.mp h'
    have e : x = y := by
      rcases List.mem_cons.mp (p.mem_iff.mp (List.mem_cons_self (a := x) (l := l))) with e | m
      · exact e
      · rcases List.mem_cons.mp (p.mem_iff.mpr (List.mem_cons_self (a := y) (l := l'))) with e | m'
        · exact e.symm
        · exact leS_anti (h1 y m') (k1 x m)
    subst e
    rw [sorted_one (List.Perm.cons_inv p) h2 k2]
theorem mem_firsts {z : Str} {xs : List Str} : z ∈ firsts xs ↔ z ∈ xs := by
  have gen : ∀ (ys L : List Str), z ∈ ys.foldl (fun L x => if x ∈ L then L else L ++ [x]) L ↔ z ∈ L ∨ z ∈ ys := by
    intro ys
    induction ys with
    | nil => intro L; simp
    | cons y ys ih =>
      intro L
      rw [List.foldl_cons, ih]
      split
      · rename_i hy
        rw [List.mem_cons]
        constructor
        · rintro (h | h)
          · exact .inl h
          · exact .inr (.inr h)
        · rintro (h | rfl | h)
          · exact .inl h
          · exact .inl hy
          · exact .inr h
      · rw [List.mem_append, List.mem_singleton, List.mem_cons, or_assoc]
  rw [firsts, gen]
  simp
theorem nodup_firsts (xs : List Str) : (firsts xs).Nodup := by
  have gen : ∀ (ys L : List Str), L.Nodup → (ys.foldl (fun L x => if x ∈ L then L else L ++ [x]) L).Nodup := by
    intro ys
    induction ys with
    | nil => intro L h; exact h
    | cons y ys ih =>
      intro L h
      refine ih _ ?_
      show (if y ∈ L then L else L ++ [y]).Nodup
      split
      · exact h
      · rename_i hy
        exact List.nodup_append.mpr ⟨h, List.nodup_cons.mpr ⟨by simp, List.nodup_nil⟩, fun a ha b hb e => hy (by rw [← List.mem_singleton.mp hb, ← e]; exact ha)⟩
  exact gen xs [] List.nodup_nil
/-- the different ones, ascending -/
def canon (zs : List Str) : List Str := (firsts zs).mergeSort leS
theorem canon_perm (zs : List Str) : (canon zs).Perm (firsts zs) := List.mergeSort_perm _ _
theorem canon_pw (zs : List Str) : (canon zs).Pairwise (fun a b => leS a b = true) := List.pairwise_mergeSort (le := leS) (fun _ _ _ h k => leS_trans h k) leS_total _
theorem canon_is {zs ys : List Str} (p : ys.Perm (firsts zs)) (s : sortedS ys = true) : ys = canon zs := sorted_one (p.trans (canon_perm zs).symm) (sortedS_pw s) (canon_pw zs)
theorem mem_canon {z : Str} {zs : List Str} : z ∈ canon zs ↔ z ∈ zs := (canon_perm zs).mem_iff.trans mem_firsts
theorem nodup_canon (zs : List Str) : (canon zs).Nodup := (canon_perm zs).nodup_iff.mpr (nodup_firsts zs)
theorem canon_len (zs : List Str) : (canon zs).length ≤ zs.length := by rw [(canon_perm zs).length_eq]; exact firsts_len zs
theorem canon_congr {xs ys : List Str} (h : ∀ z, z ∈ xs ↔ z ∈ ys) : canon xs = canon ys := by
  refine sorted_one ((List.perm_ext_iff_of_nodup (nodup_canon xs) (nodup_canon ys)).mpr fun z => ?_) (canon_pw xs) (canon_pw ys)
  rw [mem_canon, mem_canon, h]
/-- what is sorted and has no repeats is its own -/
theorem canon_self {ys : List Str} (nd : ys.Nodup) (pw : ys.Pairwise (fun a b => leS a b = true)) : canon ys = ys := by
  refine sorted_one ((List.perm_ext_iff_of_nodup (nodup_canon ys) nd).mpr fun z => mem_canon) (canon_pw ys) pw
theorem canon_canon (zs : List Str) : canon (canon zs) = canon zs := canon_self (nodup_canon zs) (canon_pw zs)
/-- a dict with the keys L -/
abbrev keyT (z : Str) : Key × V := (Sum.inr z, .bl true)
theorem put_keyT (L : List Str) (x : Str) : putK (L.map keyT) (Sum.inr x) (.bl true) = (if x ∈ L then L else L ++ [x]).map keyT := by
  unfold putK
  by_cases h : x ∈ L
  · have e : ((L.map keyT).any fun kv => decide (kv.1 = Sum.inr x)) = true := List.any_eq_true.mpr ⟨keyT x, List.mem_map.mpr ⟨x, h, rfl⟩, decide_eq_true rfl⟩
    rw [if_pos e, if_pos h, List.map_map]
    refine List.map_congr_left fun z _ => ?_
    show (if (Sum.inr z : Key) = Sum.inr x then ((Sum.inr z : Key), V.bl true) else keyT z) = keyT z
    split <;> rfl
  · have e : ¬ (((L.map keyT).any fun kv => decide (kv.1 = Sum.inr x)) = true) := fun z => by
      obtain ⟨kv, hm, hk⟩ := List.any_eq_true.mp z
      obtain ⟨y, hy, rfl⟩ := List.mem_map.mp hm
      have ey : (Sum.inr y : Key) = Sum.inr x := of_decide_eq_true hk
      exact h (by rw [← Sum.inr.inj ey]; exact hy)
    rw [if_neg e, if_neg h, List.map_append]
    rfl
end L2

/-! the law's draws: dice, roll, pick -/
namespace Tf
open PySem PySem.Spec PyProof.Rows L2
def top (i : Nat) : Stmt := PySem.Challenge.pw_treefits_k08_whole_histories_of_stores.main.body.getD i (.Pass ⟨0, 0, 0, 0⟩)
abbrev sRoll : Stmt := top 40
abbrev sPick : Stmt := top 41
abbrev sDice : Stmt := top 39
theorem scRoll : FnScope ["_law_dice_here", "_law_upto", "_law_found", "_law_one", "_law_two"] ["_law_dice_here", "_law_upto"] (defScope sRoll) := ⟨rfl, rfl, rfl, by decide +kernel, rfl, by decide +kernel, by decide +kernel⟩
theorem scPick : FnScope ["_law_dice_here", "_law_items"] ["_law_dice_here", "_law_items"] (defScope sPick) := ⟨rfl, rfl, rfl, by decide +kernel, rfl, by decide +kernel, by decide +kernel⟩
theorem scDice : FnScope ["_law_script", "_law_spot", "_law_cell", "_law_great", "_law_blend"] ["_law_script", "_law_spot"] (defScope sDice) := ⟨rfl, rfl, rfl, by decide +kernel, rfl, by decide +kernel, by decide +kernel⟩
/-- roll(dice, n): a number from 0 to n - 1; the dice change -/
def spRoll : Sp := fun vs H Q _ => ∃ (d : Addr) (n : Int), vs = [.ref d, .int n] ∧ Dice H d ∧ 0 < n ∧ n < 1000000 ∧
  ∀ (r : Int) (H' : Hp), 0 ≤ r → r < n → Nr d H H' → Dice H' d → Q (.int r) H'
section
variable {P : Program} {w : World} {K : PySem.W.Frag} {mg : Str → Option Value} {base : Heap}
theorem ok_roll {f : Addr} {fd : FuncData} {k : Nat} (F : Fun K "_law_roll" "_law_roll" sRoll f fd) (mi : mg "int" = none) : FnOk P w K mg base CX0 (k + 1) f fd ["_law_dice_here", "_law_upto"] spRoll := by
  refine F.ok scRoll (fun vs H Q E h => ?_) (fun cdv A outer s H vs Q E hr h => ?_)
  · obtain ⟨d, n, rfl, _⟩ := h
    rfl
  · obtain ⟨d, n, rfl, ⟨a, b, c, ha, hd⟩, n0, n1, q⟩ := h
    refine ⟨_, pss_cons (ps_if (pt_cmpR op_gt (pe_ix ix_list (pv 0) pe_int (fun _ _ => rfl)) pe_int (nomark _))
        (pss_cons (ps_set (i := 2) scRoll.nd rfl (.inl rfl) (pe_op op_modN (pe_callTy call_int1 (by rfl) mi (by decide +kernel) (pa_cons (pe_ix ix_list (pv 0) pe_int (fun _ _ => rfl)) pa_nil)) (pv 1)))
        (pss_cons (ps_asg (pe_op op_fdivN (pe_ix ix_list (pv 0) pe_int (fun _ _ => rfl)) (pv 1)) (pg_sub (pv 0) pe_int set_list))
        (pss_one (ps_ret (pv 2))))) pss_nil)
      (pss_cons (ps_asg (pe_op op_add (pe_ix ix_list (pv 0) pe_int (fun _ _ => rfl)) pe_int) (pg_sub (pv 0) pe_int set_list))
      (pss_cons (ps_set (i := 3) scRoll.nd rfl (.inl rfl) (pe_op op_modN (pe_callTy call_int1 (by rfl) mi (by decide +kernel) (pa_cons (pe_op op_add (pe_ix ix_list (pv 0) pe_int (fun _ _ => rfl)) (pe_op op_mul pe_int (pe_ix ix_list (pv 0) pe_int (fun _ _ => rfl)))) pa_nil)) pe_int))
      (pss_cons (ps_set (i := 4) scRoll.nd rfl (.inl rfl) (pe_op op_add (pe_op op_mul (pe_op op_modN (pe_callTy call_int1 (by rfl) mi (by decide +kernel) (pa_cons (pe_op op_mul (pv 3) (pv 3)) pa_nil)) pe_int) (pv 3)) (pe_op op_mul pe_int (pe_ix ix_list (pv 0) pe_int (fun _ _ => rfl)))))
      (pss_one (ps_ret (pe_op op_modN (pe_callTy call_int1 (by rfl) mi (by decide +kernel) (pa_cons (pe_op op_fdivN (pe_op op_modN (pe_callTy call_int1 (by rfl) mi (by decide +kernel) (pa_cons (pe_op op_add (pv 4) (pe_ix ix_list (pv 0) pe_int (fun _ _ => rfl))) pa_nil)) pe_int) pe_int) pa_nil)) (pv 1))))))), ?_⟩
    have hA : SqL K H d [.int a, .int b, .int c] := lst_of hd
    refine ⟨.ref d, rfl, d, _, 0, .int a, rfl, rfl, hA, rfl, a, 0, rfl, rfl, _, rfl, ite2 (fun e => ?_) (fun e => ?_)⟩
    · refine ⟨.ref d, rfl, d, _, 0, .int a, rfl, rfl, hA, rfl, .inl ⟨a, rfl, .int n, rfl, a, n, rfl, rfl, by omega, ?_⟩⟩
      refine ⟨.ref d, rfl, d, _, 0, .int a, rfl, rfl, hA, rfl, .int n, rfl, a, n, rfl, rfl, ⟨by omega, by omega⟩, ?_⟩
      refine ⟨.ref d, rfl, d, [.int a, .int b, .int c], 0, 0, rfl, rfl, hd, rfl, ?_⟩
      refine ⟨.int (a.fmod n), rfl, q _ _ (Int.fmod_nonneg_of_pos _ n0) (Int.fmod_lt_of_pos _ n0) Nr.upd ⟨a.fdiv n, b, c, Int.fdiv_nonneg ha (by omega), upd_same⟩⟩
    · have hA' : ∀ x y z : V, SqL K (upd H d (.lst [x, y, z])) d [x, y, z] := fun x y z => lst_of upd_same
      refine ⟨.ref d, rfl, d, _, 2, .int c, rfl, rfl, hA, rfl, c, 1, rfl, rfl, ?_⟩
      refine ⟨.ref d, rfl, d, [.int a, .int b, .int c], 2, 2, rfl, rfl, hd, rfl, ?_⟩
      have hB : SqL K (upd H d (.lst [.int a, .int b, .int (c + 1)])) d [.int a, .int b, .int (c + 1)] := hA' _ _ _
      -- _law_one
      have o0 := Int.fmod_nonneg_of_pos (b + 982451653 * (c + 1)) (show (0 : Int) < 67280421310721 by decide)
      have o1 := Int.fmod_lt_of_pos (b + 982451653 * (c + 1)) (show (0 : Int) < 67280421310721 by decide)
      refine ⟨.ref d, rfl, d, _, 1, .int b, rfl, rfl, hB, rfl, .ref d, rfl, d, _, 2, .int (c + 1), rfl, rfl, hB, rfl, 982451653, c + 1, rfl, rfl, .inl ⟨by decide, by decide⟩, b, _, rfl, rfl, .inl ⟨_, rfl, _, 67280421310721, rfl, rfl, (show (67280421310721 : Int) ≠ 0 by decide), ?_⟩⟩
      -- _law_two
      refine ⟨_, rfl, _, rfl, _, _, rfl, rfl, .inl ⟨Int.lt_of_lt_of_le (by decide) o0, Int.lt_trans o1 (by decide)⟩, .inl ⟨_, rfl, _, 576460752303423433, rfl, rfl, (show (576460752303423433 : Int) ≠ 0 by decide), _, rfl, _, _, rfl, rfl, .inr ⟨Int.lt_of_lt_of_le (by decide) o0, Int.lt_trans o1 (by decide)⟩, .ref d, rfl, d, _, 2, .int (c + 1), rfl, rfl, hB, rfl, 8191, c + 1, rfl, rfl, .inl ⟨by decide, by decide⟩, _, _, rfl, rfl, ?_⟩⟩
      refine ⟨_, rfl, .ref d, rfl, d, _, 1, .int b, rfl, rfl, hB, rfl, _, b, rfl, rfl, .inl ⟨_, rfl, _, 2199023255531, rfl, rfl, (show (2199023255531 : Int) ≠ 0 by decide), _, 64, rfl, rfl, ⟨by decide, by decide⟩, .inl ⟨_, rfl, .int n, rfl, _, n, rfl, rfl, (show n ≠ 0 by omega), ?_⟩⟩⟩
      exact q _ _ (Int.fmod_nonneg_of_pos _ n0) (Int.fmod_lt_of_pos _ n0) Nr.upd ⟨a, b, c + 1, ha, upd_same⟩
/-- pick(dice, items): one of them -/
def spPick (K : PySem.W.Frag) : Sp := fun vs H Q _ => ∃ (d l : Addr) (xs : List V), vs = [.ref d, .ref l] ∧ Dice H d ∧ H l = some (.lst xs) ∧ d ≠ l ∧ xs ≠ [] ∧ xs.length < 1000 ∧
  ∀ (v : V) (H' : Hp), v ∈ xs → Nr d H H' → Dice H' d → Q v H'
theorem ok_pick {f fR : Addr} {fd fdR : FuncData} {k : Nat} (F : Fun K "_law_pick" "_law_pick" sPick f fd) (FR : Fun K "_law_roll" "_law_roll" sRoll fR fdR) (bR : Binds K fdR ["_law_dice_here", "_law_upto"] []) (gR : mg "_law_roll" = some (.ref fR)) (mi : mg "int" = none) (ml : mg "len" = none) : FnOk P w K mg base CX0 (k + 2) f fd ["_law_dice_here", "_law_items"] (spPick K) := by
  have GR : FnOk P w K mg base CX0 (k + 1) fR fdR ["_law_dice_here", "_law_upto"] spRoll := ok_roll FR mi
  refine F.ok scPick (fun vs H Q E h => ?_) (fun cdv A outer s H vs Q E hr h => ?_)
  · obtain ⟨d, l, xs, rfl, _⟩ := h
    rfl
  · obtain ⟨d, l, xs, rfl, hd, hl, ne, x0, x1, q⟩ := h
    refine ⟨_, pss_one (ps_ret (pe_ix ix_list (pv 1) (pe_call GR hr (by rfl) gR FR.kp bR .nil pass0 (pa_cons (pv 0) (pa_cons (pe_callB call_len_seq (by rfl) ml PySem.boot_len (pa_cons (pv 1) pa_nil)) pa_nil))) (fun _ _ => rfl))), ?_⟩
    have l0 : 0 < xs.length := List.length_pos_iff.mpr x0
    refine ⟨.ref l, rfl, .ref d, rfl, .ref l, rfl, l, xs, rfl, .inl (lst_of hl), d, (xs.length : Int), rfl, hd, by omega, by omega, fun r H' r0 r1 nr dc => ?_⟩
    have hi : r.toNat < xs.length := by omega
    refine ⟨l, xs, r, xs[r.toNat], rfl, rfl, lst_of (nr l _ ne.symm hl), ?_, q _ _ (List.getElem_mem hi) nr dc⟩
    exact at_of (j := r.toNat) (by omega) (List.getElem?_eq_getElem hi)
/-- dice(script, spot) -/
def spDice (K : PySem.W.Frag) : Sp := fun vs H Q _ => ∃ (a : Addr) (ns : List Int) (i : Int), vs = [.ref a, .int i] ∧ SqL K H a (ns.map V.int) ∧ 0 ≤ i ∧ i < 1000 ∧
  ∀ (d : Addr) (H' : Hp), Same H H' → H d = none → Dice H' d → Q (.ref d) H'
theorem ok_dice {f : Addr} {fd : FuncData} {k : Nat} (F : Fun K "_law_dice" "_law_dice" sDice f fd) (mi : mg "int" = none) (ml : mg "len" = none) (ma : mg "abs" = none) (mx : mg "max" = none) : FnOk P w K mg base CX0 (k + 1) f fd ["_law_script", "_law_spot"] (spDice K) := by
  refine F.ok scDice (fun vs H Q E h => ?_) (fun cdv A outer s H vs Q E hr h => ?_)
  · obtain ⟨a, ns, i, rfl, _⟩ := h
    rfl
  · obtain ⟨a, ns, i, rfl, hS, i0, i1, q⟩ := h
    refine ⟨_, pss_cons (ps_set (i := 2) scDice.nd rfl (.inl rfl) (pe_ifExp (pt_cmpR op_lt (pv 1) (pe_callB call_len_seq (by rfl) ml PySem.boot_len (pa_cons (pv 0) pa_nil)) (nomark _)) (pe_ix ix_list (pv 0) (pv 1) (fun _ _ => rfl)) (pe_op op_add (pe_op op_mul pe_int (pv 1)) pe_int)))
      (pss_cons (ps_set (i := 3) scDice.nd rfl (.inl rfl) (pe_op op_modN (pe_callTy call_int1 (by rfl) mi (by decide +kernel) (pa_cons (pe_callB call_abs (by rfl) ma (by decide +kernel) (pa_cons (pv 2) pa_nil)) pa_nil)) (pe_op op_powW (pe_op op_pow pe_int pe_int) pe_int)))
      (pss_cons (ps_set (i := 4) scDice.nd rfl (.inl rfl) (pe_op op_add (pe_op op_add (pe_op op_add (pe_op op_mul (pv 3) pe_int) (pe_op op_mul pe_int (pv 1))) (pe_op op_mul pe_int (pe_callTy call_int1 (by rfl) mi (by decide +kernel) (pa_cons (pe_cmpR op_lt (pv 2) pe_int (nomark _)) pa_nil)))) pe_int))
      (pss_one (ps_ret (pe_lst (pa_cons (pe_callB (call_max2 rfl) (by rfl) mx (by decide +kernel) (pa_cons pe_int (pa_cons (pe_op op_sub (pv 3) (pe_op op_pow pe_int pe_int)) pa_nil))) (pa_cons (pe_op op_modN (pe_callTy call_int1 (by rfl) mi (by decide +kernel) (pa_cons (pv 4) pa_nil)) pe_int) (pa_cons pe_int pa_nil)))))))), ?_⟩
    have big : (Builtin.Int.intBits ((10 : Int) ^ (59 : Int).toNat) : Int) * 11 ≤ 2 ^ 27 := by decide +kernel
    have pos : (0 : Int) < ((10 : Int) ^ (59 : Int).toNat) ^ (11 : Int).toNat := by decide +kernel
    refine ⟨.int i, rfl, .ref a, rfl, a, _, rfl, .inl hS, _, _, rfl, rfl, _, rfl, ite2 (fun e => ?_) (fun e => ?_)⟩
    · have e1 : i < ((ns.map V.int).length : Int) := of_decide_eq_true e
      have e2 : i.toNat < (ns.map V.int).length := by omega
      have e3 : i.toNat < ns.length := by rw [List.length_map] at e2; exact e2
      refine ⟨.ref a, rfl, .int i, rfl, a, _, i, .int ns[i.toNat], rfl, rfl, hS, at_of (j := i.toNat) (by omega) (by rw [List.getElem?_map, List.getElem?_eq_getElem e3]; rfl), ?_⟩
      refine ⟨_, rfl, _, rfl, .inl ⟨_, rfl, 10, 59, rfl, rfl, ⟨by decide, by decide, by decide⟩, _, 11, rfl, rfl, ⟨by decide, big⟩, _, _, rfl, rfl, (by intro z; rw [z] at pos; exact absurd pos (by decide)), ?_⟩⟩
      refine ⟨_, rfl, _, 2862933555777941757, rfl, rfl, .inr ⟨by decide, by decide⟩, .int i, rfl, 61, i, rfl, rfl, .inl ⟨by decide, by decide⟩, _, _, rfl, rfl, _, rfl, _, 0, rfl, rfl, .inr ⟨_, rfl, 13, _, rfl, rfl, .inl ⟨by decide, by decide⟩, _, _, rfl, rfl, _, 5, rfl, rfl, ?_⟩⟩
      refine ⟨_, rfl, 10, 18, rfl, rfl, ⟨by decide, by decide, by decide⟩, _, _, rfl, rfl, 0, _, rfl, _, rfl, .inl ⟨_, rfl, _, 2305843009213693951, rfl, rfl, (show (2305843009213693951 : Int) ≠ 0 by decide), ?_⟩⟩
      refine ⟨by show 3 ≤ sizeLine; decide, fun d nd => ?_⟩
      refine q d _ (same_new nd) nd ⟨_, _, 0, ?_, upd_same⟩
      show (0 : Int) ≤ if _ > (0 : Int) then _ else 0
      split <;> omega
    · refine ⟨.int i, rfl, 29, i, rfl, rfl, .inl ⟨by decide, by decide⟩, _, 12, rfl, rfl, ?_⟩
      refine ⟨_, rfl, _, rfl, .inl ⟨_, rfl, 10, 59, rfl, rfl, ⟨by decide, by decide, by decide⟩, _, 11, rfl, rfl, ⟨by decide, big⟩, _, _, rfl, rfl, (by intro z; rw [z] at pos; exact absurd pos (by decide)), ?_⟩⟩
      refine ⟨_, rfl, _, 2862933555777941757, rfl, rfl, .inr ⟨by decide, by decide⟩, .int i, rfl, 61, i, rfl, rfl, .inl ⟨by decide, by decide⟩, _, _, rfl, rfl, _, rfl, _, 0, rfl, rfl, .inr ⟨_, rfl, 13, _, rfl, rfl, .inl ⟨by decide, by decide⟩, _, _, rfl, rfl, _, 5, rfl, rfl, ?_⟩⟩
      refine ⟨_, rfl, 10, 18, rfl, rfl, ⟨by decide, by decide, by decide⟩, _, _, rfl, rfl, 0, _, rfl, _, rfl, .inl ⟨_, rfl, _, 2305843009213693951, rfl, rfl, (show (2305843009213693951 : Int) ≠ 0 by decide), ?_⟩⟩
      refine ⟨by show 3 ≤ sizeLine; decide, fun d nd => ?_⟩
      refine q d _ (same_new nd) nd ⟨_, _, 0, ?_, upd_same⟩
      show (0 : Int) ≤ if _ > (0 : Int) then _ else 0
      split <;> omega
end
end Tf

/-! is_name -/
namespace Tf
open PySem PySem.Spec PyProof.Rows L2
abbrev sName : Stmt := top 13
theorem scName : FnScope ["value", "sign"] ["value"] (defScope sName) := ⟨rfl, rfl, rfl, by decide +kernel, rfl, by decide +kernel, by decide +kernel⟩
/-- not a text -/
def NoStr (K : PySem.W.Frag) (H : Hp) (x : V) : Prop := ∃ t : String, TyX K H x (.type t) ∧ kitB t "str" = some false
/-- a text of at most a thousand signs, or no text -/
def Some1 (K : PySem.W.Frag) (H : Hp) (x : V) : Prop := (∃ z : Str, x = .str z ∧ z.length ≤ 1000) ∨ NoStr K H x
/-- whether a value is a name -/
def isN : V → Bool
  | .str z => nameB z
  | _ => false
def spName (K : PySem.W.Frag) : Sp := fun vs H Q _ => ∃ x : V, vs = [x] ∧ Some1 K H x ∧ ((∃ z, x = .str z) ∨ isN x = false) ∧ ∀ H', Same H H' → Q (.bl (isN x)) H'
section
variable {P : Program} {w : World} {K : PySem.W.Frag} {mg : Str → Option Value} {base : Heap}
theorem ok_name {f : Addr} {fd : FuncData} {k : Nat} {t8 ts : Tok} (F : Fun K "is_name" "is_name" sName f fd) (mI : mg "isinstance" = none) (mS : mg "str" = none) (mL : mg "len" = none) (mA : mg "all" = none) (g8 : mg "MAX_SIGNS" = some (.int 8 t8)) (gs : mg "SIGNS" = some (.str signs ts)) : FnOk P w K mg base CX0 (k + 1) f fd ["value"] (spName K) := by
  refine F.ok scName (fun vs H Q E h => ?_) (fun cdv A outer s H vs Q E hr h => ?_)
  · obtain ⟨x, rfl, _⟩ := h
    rfl
  · obtain ⟨x, rfl, h1, h2, q⟩ := h
    refine ⟨_, pss_cons (ps_if (PW.pt (pw_or (pt_not (pt_val (pe_callB call_isi (by rfl) mI (by decide +kernel) (pa_cons (pv 0) (pa_cons (pe_bltn (v := .ty "str") (by rfl) mS (by decide +kernel) rfl) pa_nil)))))
          (pw_or1 (pt_not (pt_chain op_le op_le pe_int (pe_callB call_len_str (by rfl) mL PySem.boot_len (pa_cons (pv 0) pa_nil)) (pe_glob (v := .int 8) rfl g8 ⟨_, rfl⟩))))))
        (pss_one (ps_ret pe_bl)) pss_nil)
      (pss_one (ps_ret (pe_callB (cr_all rfl) (by rfl) mA (by decide +kernel) (pa_cons (pe_lc (own := [("sign", 1)]) (g := gName 1) (tt := tYes) (by rfl) scName.nd (pi_str (pv 0)) (blkOk_by (own := [("sign", 1)]) (N := ["value", "sign"]) (sc := defScope sName) (by decide +kernel)) (fun _ _ _ _ _ => pg_name (i := 1) scName.nd rfl (Or.inl rfl)) (fun _ _ _ _ _ => pts_nil)
          (fun _ _ _ _ _ => pe_cmpR op_in_sign (pv 1) (pe_glob (v := .str signs) rfl gs ⟨_, rfl⟩) (by rfl))) pa_nil)))), ?_⟩
    rcases h1 with ⟨z, rfl, hz⟩ | ⟨t, ht, kt⟩
    · have zs : z.length ≤ sizeLine := Nat.le_trans hz (by decide)
      refine ⟨.str z, rfl, .str z, .ty "str", .type "str", .type "str", true, rfl, .ty _, .base (.str z), kit_ty (by decide +kernel), true, rfl, iteF ?_⟩
      refine ⟨.str z, rfl, z, rfl, zs, 1, (z.length : Int), rfl, rfl, _, rfl, ?_⟩
      have bad : (¬ (1 ≤ z.length ∧ z.length ≤ 8)) → Q (.bl false) H := fun c => by
        have e : isN (.str z) = false := by
          show nameB z = false
          cases hb : nameB z with
          | false => rfl
          | true => exact absurd (nameB_len hb) c
        rw [e] at q
        exact q H (Same.refl H)
      refine ite2 (fun c1 => ?_) (fun c1 => ⟨false, rfl, iteT (bad ?_)⟩)
      · have c1' : (1 : Int) ≤ (z.length : Int) := of_decide_eq_true c1
        refine ⟨(z.length : Int), 8, rfl, rfl, _, rfl, ?_⟩
        by_cases c2 : z.length ≤ 8
        · have d2 : decide ((z.length : Int) ≤ 8) = true := decide_eq_true (by omega)
          rw [d2]
          refine iteF ?_
          -- the signs
          refine ⟨.str z, rfl, z, rfl, fun D nD => lc_on (h := fun c => V.str ⟨#[c]⟩) walk_txt rfl (fun _ => true) (fun c => .bl (decide (c ∈ signs.cps.toList))) nD (fun _ _ => trivial) ?_ (fun c _ H2 _ => tto_yes) (fun c _ _ H2 s2 Q' q' => ⟨_, rfl, c, signs, rfl, rfl, q' H2 (Same.refl H2)⟩) fun H2 s2 e2 => ?_⟩
          · rw [Array.length_toList]
            show z.length < 100000
            omega
          · refine ⟨D, z.cps.toList.map fun c => decide (c ∈ signs.cps.toList), rfl, lst_of ?_, ?_⟩
            · rw [e2, List.map_map, fil_true]
              rfl
            · have e : isN (.str z) = (z.cps.toList.map fun c => decide (c ∈ signs.cps.toList)).all id := by
                show nameB z = _
                unfold nameB
                rw [decide_eq_true (show 1 ≤ z.length by omega), decide_eq_true c2, List.all_map]
                rfl
              rw [e] at q
              exact q H2 s2
        · have d2 : decide ((z.length : Int) ≤ 8) = false := decide_eq_false (by omega)
          rw [d2]
          exact iteT (bad (by omega))
      · have c1' : ¬ (1 : Int) ≤ (z.length : Int) := fun z => c1 (decide_eq_true z)
        omega
    · refine ⟨x, rfl, x, .ty "str", .type t, .type "str", false, rfl, .ty _, ht, kit_ty kt, false, rfl, iteT ?_⟩
      have e : isN x = false := by
        rcases h2 with ⟨z, rfl⟩ | e
        · cases ht with
          | base b =>
            cases b
            exact absurd kt (by decide +kernel)
        · exact e
      rw [e] at q
      exact iteT (q H (Same.refl H))
end
end Tf

/-! sets of nested keys: tuples of texts, numbers, None and such tuples -/
namespace TfN
open PySem PySem.Spec PyProof.Rows L2
section
variable {P : Program} {w : World}
/-- v is of no class statement, asked n levels down -/
def NoCls (P : Program) (w : World) (n : Nat) (s : Shared) (v : Value) : Prop := ∀ (A : Around) (E : Value → Shared → Prop) (Q : Bool → Shared → Prop), Q false s → wpAny (model P w) A (ofAClassStatement n v) Q E s
/-- whether v is hashed by its value can be asked -/
def HashQ (P : Program) (w : World) (n : Nat) (s : Shared) (v : Value) : Prop := ∀ (A : Around) (E : Value → Shared → Prop) (Q : Bool → Shared → Prop), (∀ b, Q b s) → wpAny (model P w) A (hashByValue n v) Q E s
theorem NoCls.tuple {n : Nat} {s : Shared} {a : Addr} {o : Obj} {us : Array Value} {m : Nat} (ho : s.heap.get? a = some o) (hc : o.cls = .type "tuple") (hd : o.data = .seq us m) (hq : ∀ v ∈ us.toList, NoCls P w n s v) : NoCls P w (n + 1) s (.ref a) := fun A E Q q => by
  unfold ofAClassStatement
  refine wpAny_bind (wpAny_typeOf (T := "tuple") ⟨o, ho, hc⟩ ?_)
  dsimp only
  have e : (("tuple" : String) == "tuple") = true := by decide
  simp only [e, if_true, Bool.not_true, Bool.false_eq_true, if_false]
  try refine wpAny_bind (wpAny_pure ?_)
  try simp only [Bool.not_true, Bool.false_eq_true, if_false]
  show wpAny _ _ (seqItems? (.ref a) >>= _) _ _ s
  refine wpAny_bind (wpAny_seqItems ho hd ?_)
  dsimp only
  refine wpAny_bind ?_
  show wpAny _ _ (forIn us _ _) _ _ s
  rw [← Array.forIn_toList]
  refine wpAny_forIn_list _ (fun more r z => r.1 = none ∧ z = s ∧ ∀ v ∈ more, NoCls P w n s v) _ ?_ ?_ _ _ ⟨rfl, rfl, hq⟩
  · rintro v more r z ⟨_, rfl, all⟩
    refine wpAny_bind (all v List.mem_cons_self _ _ _ ?_)
    simp only [Bool.false_eq_true, if_false]
    exact wpAny_pure ⟨rfl, rfl, fun u hu => all u (List.mem_cons_of_mem _ hu)⟩
  · rintro ⟨r, r'⟩ z ⟨e, rfl, _⟩
    simp only at e
    subst e
    exact wpAny_pure q
theorem HashQ.tuple {n : Nat} {s : Shared} {a : Addr} {o : Obj} {us : Array Value} {m : Nat} (ho : s.heap.get? a = some o) (hc : o.cls = .type "tuple") (hd : o.data = .seq us m) (hq : ∀ v ∈ us.toList, HashQ P w n s v) : HashQ P w (n + 1) s (.ref a) := fun A E Q q => by
  unfold hashByValue
  refine wpAny_bind (wpAny_specialOf (T := "tuple") ⟨o, ho, hc⟩ F.slot_tuple_hash.lookup ?_)
  show wpAny _ _ (seqItems? (.ref a) >>= _) _ _ s
  refine wpAny_bind (wpAny_seqItems ho hd ?_)
  refine wpAny_bind ?_
  show wpAny _ _ (forIn us _ _) _ _ s
  rw [← Array.forIn_toList]
  refine wpAny_forIn_list _ (fun more r z => r.1 = none ∧ z = s ∧ ∀ v ∈ more, HashQ P w n s v) _ ?_ ?_ _ _ ⟨rfl, rfl, hq⟩
  · rintro v more r z ⟨_, rfl, all⟩
    refine wpAny_bind (all v List.mem_cons_self _ _ _ fun b => ?_)
    cases b
    · simp only [Bool.not_false, if_true]
      exact wpAny_pure (wpAny_pure (q _))
    · simp only [Bool.not_true, Bool.false_eq_true, if_false]
      exact wpAny_pure ⟨rfl, rfl, fun u hu => all u (List.mem_cons_of_mem _ hu)⟩
  · rintro ⟨r, r'⟩ z ⟨e, rfl, _⟩
    simp only at e
    subst e
    exact wpAny_pure (q _)
mutual
theorem noCls_key : ∀ (k : NestedKey) (v : Value) (n : Nat) (s : Shared), NestedIs s.heap k v → k.depth ≤ n → NoCls P w n s v
  | .none, _, n, s, x, _ => by cases x; cases n <;> exact fun A E Q q => wpAny_pure q
  | .num i, _, n, s, x, _ => by cases x <;> cases n <;> exact fun A E Q q => wpAny_pure q
  | .text y, _, n, s, x, _ => by cases x; cases n <;> exact fun A E Q q => wpAny_pure q
  | .tup ks, _, n, s, x, hn => by
    cases x with
    | tup hg hc hd hk =>
      simp only [NestedKey.depth] at hn
      cases n with
      | zero => omega
      | succ n => exact .tuple hg hc hd (noCls_keys ks _ n s hk (by omega))
theorem noCls_keys : ∀ (ks : List NestedKey) (vs : List Value) (n : Nat) (s : Shared), NestedAll s.heap ks vs → NestedKey.depthAll ks ≤ n → ∀ v ∈ vs, NoCls P w n s v
  | [], _, n, s, x, _, v, hv => by cases x; cases hv
  | k :: ks, _, n, s, x, hn, v, hv => by
    cases x with
    | cons x1 x2 =>
      simp only [NestedKey.depthAll] at hn
      rcases List.mem_cons.mp hv with e | hv
      · rw [e]; exact noCls_key k _ n s x1 (by omega)
      · exact noCls_keys ks _ n s x2 (by omega) v hv
end
mutual
theorem hashQ_key : ∀ (k : NestedKey) (v : Value) (n : Nat) (s : Shared), NestedIs s.heap k v → HashQ P w n s v
  | .none, _, n, s, x => by cases x; cases n <;> exact fun A E Q q => wpAny_pure (q _)
  | .num i, _, n, s, x => by cases x <;> cases n <;> exact fun A E Q q => wpAny_pure (q _)
  | .text y, _, n, s, x => by cases x; cases n <;> exact fun A E Q q => wpAny_pure (q _)
  | .tup ks, _, n, s, x => by
    cases x with
    | tup hg hc hd hk =>
      cases n with
      | zero => exact fun A E Q q => wpAny_pure (q _)
      | succ n => exact .tuple hg hc hd (hashQ_keys ks _ n s hk)
theorem hashQ_keys : ∀ (ks : List NestedKey) (vs : List Value) (n : Nat) (s : Shared), NestedAll s.heap ks vs → ∀ v ∈ vs, HashQ P w n s v
  | [], _, n, s, x, v, hv => by cases x; cases hv
  | k :: ks, _, n, s, x, v, hv => by
    cases x with
    | cons x1 x2 =>
      rcases List.mem_cons.mp hv with e | hv
      · rw [e]; exact hashQ_key k _ n s x1
      · exact hashQ_keys ks _ n s x2 v hv
end
end
/-- the tuple at a is the key k -/
def Tk (h : Heap) (k : NestedKey) (a : Addr) : Prop := NestedIs h k (.ref a) ∧ k.depth ≤ 8
theorem Tk.keep {h h' : Heap} {k : NestedKey} {a : Addr} (x : Tk h k a) (e : ∀ b o, h.get? b = some o → h'.get? b = some o) : Tk h' k a := ⟨NestedIs.at (fun b o _ _ g _ => e b o g) k _ x.1, x.2⟩
/-- a set may change -/
theorem Tk.but {h h' : Heap} {k : NestedKey} {a c : Addr} {o : Obj} {es : Array (Int × Value)} {ep : Nat} {t : SetTable} (x : Tk h k a) (ho : h.get? c = some o) (hd : o.data = .set es ep t) (sb : Heap.SameBut c h h') : Tk h' k a :=
  ⟨NestedIs.at (fun b ob vs n g d => (sb.2 b fun e => by
    subst e
    rw [ho] at g
    cases g
    rw [hd] at d
    cases d).trans g) k _ x.1, x.2⟩
section
variable {P : Program} {w : World} {A : Around} {E : Value → Shared → Prop} {s : Shared}
theorem seen_no {k : NestedKey} {b : Addr} {Q : Bool → Shared → Prop} (hk : Tk s.heap k b) {ys : List Value} (hy : ∀ y ∈ ys, ∃ k' c, y = Value.ref c ∧ Tk s.heap k' c) (q : Q false s) : wpAny (model P w) A (searchCouldBeSeen (.ref b) ys) Q E s := by
  unfold searchCouldBeSeen
  refine wpAny_bind ?_
  refine wpAny_forIn_list _ (fun more r z => r.1 = none ∧ z = s ∧ ∀ y ∈ more, ∃ k' c, y = Value.ref c ∧ Tk s.heap k' c) _ ?_ ?_ _ _ ⟨rfl, rfl, hy⟩
  · rintro v more r z ⟨_, rfl, all⟩
    obtain ⟨k', c, rfl, hc⟩ := all v List.mem_cons_self
    have more' : ∀ y ∈ more, ∃ k' c, y = Value.ref c ∧ Tk z.heap k' c := fun u hu => all u (List.mem_cons_of_mem _ hu)
    dsimp only
    by_cases hv : (b == c || (carriedByValue (.ref b) && carriedByValue (.ref c))) = true
    · exact wp_if_pos hv (wpAny_pure ⟨rfl, rfl, more'⟩)
    · refine wp_if_neg hv ?_
      refine wpAny_bind (quiet_key k _ 8 _ hk.1 hk.2 _ _ _ ?_)
      simp only [Bool.not_true, Bool.false_eq_true, if_false]
      refine wpAny_bind (quiet_key k' _ 8 _ hc.1 hc.2 _ _ _ ?_)
      simp only [Bool.not_true, Bool.false_eq_true, if_false]
      refine wpAny_bind (noCls_key k _ 8 _ hk.1 hk.2 _ _ _ ?_)
      simp only [Bool.false_eq_true, if_false]
      refine wpAny_bind (noCls_key k' _ 8 _ hc.1 hc.2 _ _ _ ?_)
      simp only [Bool.false_eq_true, if_false]
      exact wpAny_pure ⟨rfl, rfl, more'⟩
  · rintro ⟨r, r'⟩ z ⟨e, rfl, _⟩
    simp only at e
    subst e
    exact wpAny_pure q
end
/-- the set at a has the keys L, each by its tuple -/
structure Ks (w : World) (h : Heap) (a : Addr) (L : List (Addr × NestedKey)) (es : Array (Int × Value)) (ep : Nat) (t : SetTable) : Prop where
  obj : ∃ o, h.get? a = some o ∧ o.ExactSet ∧ o.data = .set es ep t
  ent : es.toList = L.map fun q => (q.2.hash w, Value.ref q.1)
  tab : TabOk t (L.map fun q => q.2.hash w)
  dif : (L.map (·.2)).Nodup
  tps : ∀ q ∈ L, Tk h q.2 q.1
  led : w.params.followText "set-order" = true ∨ t.led = true
  room : L.length * 5 < t.mask * 3
  few : L.length < 64
section
variable {P : Program} {w : World} {A : Around} {E : Value → Shared → Prop} {s : Shared} {a : Addr} {L : List (Addr × NestedKey)} {es : Array (Int × Value)} {ep : Nat} {t : SetTable}
theorem Ks.size {h : Heap} (R : Ks w h a L es ep t) : es.size = L.length := by
  have z := congrArg List.length R.ent
  rw [Array.length_toList, List.length_map] at z
  exact z
theorem fits_of {n : Nat} {hs : List Int} (T : TabOk t hs) (hn : n = hs.length) (hm : n ≤ t.mask) : t.fits n = true := by
  have z := T.sz
  unfold SetTable.fits SetTable.fill
  rw [T.dm, Bool.and_eq_true, beq_iff_eq, decide_eq_true_eq]
  show t.place.size = n ∧ t.place.size + 0 ≤ t.mask
  omega
theorem Ks.fits {h : Heap} (R : Ks w h a L es ep t) : t.fits es.size = true := by
  have z := R.size
  have r := R.room
  exact fits_of R.tab (by rw [List.length_map]; exact z) (by omega)
theorem Ks.at {h : Heap} (R : Ks w h a L es ep t) (i : Nat) : es[i]? = (L[i]?).map fun q => (q.2.hash w, Value.ref q.1) := by
  rw [← Array.getElem?_toList, R.ent, List.getElem?_map]
/-- the way of the key k through the table -/
abbrev stp (w : World) (t : SetTable) (k : NestedKey) (c : Nat) : SetTable.Probe := nth t.mask (t.probeStart (k.hash w)) c
theorem stp_plain (k : NestedKey) (c : Nat) : (stp w t k c).dummy = none := by
  have key : ∀ (n : Nat) (p : SetTable.Probe), p.dummy = none → (nth t.mask p n).dummy = none := by
    intro n
    induction n with
    | zero => exact fun p h => h
    | succ n ih =>
      intro p h
      refine ih (adv t.mask p) ?_
      unfold adv
      split <;> exact h
  exact key c _ rfl
/-- the search for the tuple x, a key k, from the c-th step of its way on; K: the first free slot -/
theorem look {x : Addr} {k : NestedKey} {K : Nat} {Q : SetFound → Shared → Prop} (R : Ks w s.heap a L es ep t) (hx : Tk s.heap k x) (hu : A.units + 8 < cLine) (hK0 : K < 10 * SetTable.turns t.mask)
    (hK1 : (stp w t k K).j ∉ t.place.toList) (hK2 : ∀ c, c < K → (stp w t k c).j ∈ t.place.toList) (yes : k ∈ L.map (·.2) → Q (.there none) s) (no : k ∉ L.map (·.2) → Q (.free (stp w t k K).j false) s) :
    ∀ (f c : Nat) (at0 : Option SetTable.Probe), at0.getD (t.probeStart (k.hash w)) = stp w t k c → c ≤ K → K - c < f →
      (∀ (i : Nat) (q : Addr × NestedKey), L[i]? = some q → q.2 = k → ∃ d, c ≤ d ∧ d < K ∧ t.place.toList[i]? = some (stp w t k d).j) → wpAny (model P w) A (setSearchFrom a (.ref x) (k.hash w) true f at0) Q E s := by
  obtain ⟨o, ho, hex, hd⟩ := R.obj
  intro f
  induction f with
  | zero => exact fun c at0 _ _ z _ => absurd z (Nat.not_lt_zero _)
  | succ f ih =>
    intro c at0 hat hc hf hre
    rw [setSearchFrom_succ]
    refine wpAny_bind (wpAny_setState_of ho hd R.fits ?_)
    dsimp only
    have gw : ¬ t.gaveWay = true := by
      unfold SetTable.gaveWay
      rw [mask_odd R.tab.mok]
      decide
    refine wp_if_neg gw ?_
    try refine wpAny_bind (wpAny_pure ?_)
    rw [hat]
    have ec : c + (K - c) = K := by omega
    have on : ∀ n, nth t.mask (stp w t k c) n = stp w t k (c + n) := fun n => (nth_add t.mask c _ n).symm
    have hAt : ∀ (i : Nat) (q : Addr × NestedKey), L[i]? = some q → (es[i]?.map (·.1)).getD 0 = q.2.hash w := fun i q e => by rw [R.at, e]; rfl
    have spec := go_spec t R.tab.ris R.tab.dm (fun i => (es[i]?.map (·.1)).getD 0) (k.hash w) (10 * SetTable.turns t.mask) (K - c) _ (stp_plain (w := w) (t := t) k c) (by omega)
      (fun n hn => by rw [on]; exact hK2 (c + n) (by omega)) (by rw [on, ec]; exact hK1)
    simp only [on] at spec
    rw [ec] at spec
    rcases spec with ⟨n, i, hn, hi, hh, hno, hpr⟩ | ⟨hno, hpr⟩
    · have hpr' : t.probe (fun i => (es[i]?.map (·.1)).getD 0) (k.hash w) (stp w t k c) = some (.candidate (stp w t k (c + n)).j i (stp w t k (c + (n + 1)))) := hpr
      rw [hpr']
      dsimp only
      have hil : i < L.length := by
        have h1 : i < t.place.toList.length := (List.getElem?_eq_some_iff.mp hi).1
        have h2 := R.tab.sz
        rw [List.length_map] at h2
        rw [Array.length_toList] at h1
        omega
      have hp : L[i]? = some L[i] := List.getElem?_eq_getElem hil
      generalize L[i] = q at hp
      have hm : q ∈ L := List.mem_of_getElem? hp
      have hq := R.tps q hm
      have he : es[i]? = some (q.2.hash w, Value.ref q.1) := by rw [R.at, hp]; rfl
      have sl : t.slot (stp w t k (c + n)).j = .live i := slot_live R.tab.ris hi
      have go : wpAny (model P w) A (searchRest a (.ref x) (k.hash w) true f es t (stp w t k (c + n)).j i (stp w t k (c + (n + 1)))) Q E s := by
        unfold searchRest
        rw [he]
        dsimp only
        refine wpAny_bind (wpAny_holding ((nestedKind P w).eqBool (show A.units + 8 < cLine from hu) hq hx ?_))
        refine wpAny_bind (wpAny_setState_of ho hd R.fits ?_)
        dsimp only
        by_cases hkk : q.2 = k
        · refine wp_if_pos (by simp [hkk]) (wpAny_pure (yes ?_))
          exact List.mem_map.mpr ⟨q, hm, hkk⟩
        · refine wp_if_neg (by simp [hkk]) ?_
          try refine wpAny_bind (wpAny_pure ?_)
          rw [L2.sameMem]
          dsimp only
          simp only [if_true, sl, he]
          refine wpAny_bind (wpAny_isSame_ref_self (wpAny_bind (wpAny_pure ?_)))
          simp only [if_true]
          refine wp_if_neg (by simp [hkk]) ?_
          refine ih (c + (n + 1)) _ rfl (by omega) (by omega) fun i0 q0 h0 e0 => ?_
          obtain ⟨d, d1, d2, d3⟩ := hre i0 q0 h0 e0
          refine ⟨d, ?_, d2, d3⟩
          rcases Nat.lt_trichotomy d (c + n) with z | z | z
          · exact absurd ((hAt i0 q0 h0).trans (by rw [e0])) (hno (d - c) i0 (by omega) (by rw [show c + (d - c) = d by omega]; exact d3))
          · subst z
            have s0 := slot_live R.tab.ris d3
            rw [sl] at s0
            injection s0 with s0
            rw [← s0, hp] at h0
            exact absurd ((congrArg Prod.snd (Option.some.inj h0)).trans e0) hkk
          · omega
      by_cases hl : t.led = true
      · refine wp_if_neg (by simp [hl]) ?_
        try refine wpAny_bind (wpAny_pure ?_)
        exact go
      · refine wp_if_pos (by simp [hl]) ?_
        refine wpAny_bind (seen_no hx (fun y hy => ?_) ?_)
        · obtain ⟨e, he1, he2⟩ := List.mem_map.mp hy
          have z : e ∈ es.toList := by simp at he1; simpa using he1.1
          rw [R.ent] at z
          obtain ⟨q2, m2, e2⟩ := List.mem_map.mp z
          exact ⟨q2.2, q2.1, by rw [← he2, ← e2], R.tps q2 m2⟩
        · refine wp_if_neg (by decide) ?_
          try refine wpAny_bind (wpAny_pure ?_)
          exact go
    · have hpr' : t.probe (fun i => (es[i]?.map (·.1)).getD 0) (k.hash w) (stp w t k c) = some (.empty (stp w t k K).j none) := hpr
      rw [hpr']
      dsimp only
      refine wpAny_pure (no fun hm => ?_)
      obtain ⟨q0, m0, e0⟩ := List.mem_map.mp hm
      obtain ⟨i0, hi0, ei⟩ := List.getElem_of_mem m0
      have h0 : L[i0]? = some q0 := by rw [List.getElem?_eq_getElem hi0, ei]
      obtain ⟨d, d1, d2, d3⟩ := hre i0 q0 h0 e0
      exact hno (d - c) i0 (by omega) (by rw [show c + (d - c) = d by omega]; exact d3) ((hAt i0 q0 h0).trans (by rw [e0]))
/-- the search, as adding asks for it -/
theorem looked {x : Addr} {k : NestedKey} {Q : SetFound → Shared → Prop} (R : Ks w s.heap a L es ep t) (hx : Tk s.heap k x) (hu : A.units + 8 < cLine) (yes : k ∈ L.map (·.2) → Q (.there none) s)
    (no : ∀ K, k ∉ L.map (·.2) → way t.mask (k.hash w) K ∉ t.place.toList → (∀ c, c < K → way t.mask (k.hash w) c ∈ t.place.toList) → Q (.free (way t.mask (k.hash w) K) false) s) : wpAny (model P w) A (setSearch a (.ref x) (k.hash w) true) Q E s := by
  have room := R.room
  obtain ⟨K, k0, k1, k2⟩ := R.tab.first (by rw [List.length_map]; omega) (k.hash w)
  have big : K < 100000 := by
    have : 10 * SetTable.turns t.mask ≤ 1420 := by
      unfold SetTable.turns
      rcases R.tab.mok with e | e | e <;> omega
    omega
  unfold setSearch
  refine look R hx hu k0 k1 k2 yes (fun z => no K z k1 k2) 100000 0 none rfl (Nat.zero_le _) (by omega) fun i q hq e => ?_
  have hi : (L.map fun q => q.2.hash w)[i]? = some (k.hash w) := by rw [List.getElem?_map, hq, ← e]; rfl
  have hil : i < t.place.toList.length := by
    have h1 : i < L.length := (List.getElem?_eq_some_iff.mp hq).1
    have h2 := R.tab.sz
    rw [List.length_map] at h2
    rw [Array.length_toList]
    omega
  obtain ⟨c, hc, e2⟩ := R.tab.before k1 hi (List.getElem?_eq_getElem hil)
  exact ⟨c, Nat.zero_le _, hc, (List.getElem?_eq_getElem hil).trans (congrArg some e2.symm)⟩
/-- any rows, put in another order -/
theorem rows_by {α : Type} (f : α → Int × Value) (l : List α) (es : Array (Int × Value)) (order : Array Nat) (hr : es.toList = l.map f) (hp : order.toList.Perm (List.range l.length)) :
    ∃ m : List α, (order.filterMap (es[·]?)).toList = m.map f ∧ m.Perm l ∧ (m.map fun x => (f x).1) = order.toList.map fun i => (es.map (·.1)).getD i 0 := by
  have ea : ∀ i : Nat, es[i]? = (l[i]?).map f := fun i => by rw [← Array.getElem?_toList, hr, List.getElem?_map]
  refine ⟨order.toList.filterMap fun i => l[i]?, ?_, ?_, ?_⟩
  · rw [Array.toList_filterMap, List.map_filterMap]
    congr 1
    exact funext ea
  · have z : (List.range l.length).filterMap (fun i => l[i]?) = l := by
      have up : ∀ n, n ≤ l.length → (List.range n).filterMap (fun i => l[i]?) = l.take n := by
        intro n
        induction n with
        | zero => exact fun _ => rfl
        | succ n ih =>
          intro hn
          have lt : n < l.length := hn
          rw [List.range_succ, List.filterMap_append, ih (Nat.le_of_lt lt), List.take_add_one, List.getElem?_eq_getElem lt, List.filterMap_cons_some (List.getElem?_eq_getElem lt)]
          rfl
      rw [up l.length (Nat.le_refl _), List.take_length]
    have p := hp.filterMap fun i => l[i]?
    rw [z] at p
    exact p
  · have low : ∀ i ∈ order.toList, i < l.length := fun i hi => List.mem_range.mp (hp.mem_iff.mp hi)
    generalize order.toList = is at low
    induction is with
    | nil => rfl
    | cons i is ih =>
      have hi := low i List.mem_cons_self
      rw [List.filterMap_cons_some (List.getElem?_eq_getElem hi), List.map_cons, List.map_cons, ih fun j hj => low j (List.mem_cons_of_mem _ hj)]
      congr 1
      have e : (es.map (·.1))[i]? = some (f l[i]).1 := by rw [Array.getElem?_map, ea, List.getElem?_eq_getElem hi]; rfl
      simp [Array.getD_eq_getD_getElem?, e]
/-- the table laid anew, larger -/
theorem relay {o : Obj} {wanted M : Nat} {Q : Unit → Shared → Prop} (ho : s.heap.get? a = some o) (hex : o.ExactSet) (hd : o.data = .set es ep t) (ent : es.toList = L.map fun q => (q.2.hash w, Value.ref q.1)) (T0 : TabOk t (L.map fun q => q.2.hash w)) (hm : L.length ≤ t.mask)
    (dif : (L.map (·.2)).Nodup) (tps : ∀ q ∈ L, Tk s.heap q.2 q.1) (led : w.params.followText "set-order" = true ∨ t.led = true) (few : L.length < 64)
    (hw : SetTable.sizeAbove wanted - 1 = M) (hM : MaskOk M) (hw2 : SetTable.sizeAbove wanted ≤ 128) (hn : L.length * 5 < M * 3)
    (hQ : ∀ h' L' es' ep' t', Heap.SameBut a s.heap h' → Ks w h' a L' es' ep' t' → L'.Perm L → Q () { s with heap := h' }) : wpAny (model P w) A (setRelay a wanted) Q E s := by
  have sl : es.size = L.length := by
    have z := congrArg List.length ent
    rw [Array.length_toList, List.length_map] at z
    exact z
  obtain ⟨t', order, e, hp, T, em, el, _, ed⟩ := relaid_ok t (hs := es.map (·.1)) (wanted := wanted) hw hM (by rw [Array.size_map, sl]; omega)
  rw [Array.size_map, sl] at hp
  obtain ⟨L2, r1, r2, r3⟩ := rows_by _ L es order ent hp
  rw [← r3] at T
  have s2 : (order.filterMap (es[·]?)).size = es.size := by
    have z := congrArg List.length r1
    rw [Array.length_toList, List.length_map, r2.length_eq] at z
    rw [z, sl]
  rw [setRelay_eq]
  refine wpAny_bind (wpAny_setState_of ho hd (fits_of T0 (by rw [List.length_map]; exact sl) (by rw [sl]; exact hm)) ?_)
  dsimp only
  refine wp_if_neg (by rw [sizeLine_eq]; omega) ?_
  try refine wpAny_bind (wpAny_pure ?_)
  rw [e]
  dsimp only
  refine wpAny_bind (wp_if_neg (by rw [s2]; simp) ?_)
  try refine wpAny_bind (wpAny_pure ?_)
  refine wpAny_pure ?_
  dsimp only
  refine wpAny_storeSet_of ho hd ?_ (by rw [s2, sl, sizeLine_eq]; omega)
  have sb : Heap.SameBut a s.heap (s.heap.update a (Obj.putSet (order.filterMap (es[·]?)) t')) := Heap.SameBut.update ..
  refine hQ _ L2 (order.filterMap (es[·]?)) (ep + 1) t' sb ⟨⟨_, store_at ho hd, ⟨hex.1, hex.2.1, hex.2.2⟩, rfl⟩, r1, T, ?_, fun q hq => (tps q (r2.mem_iff.mp hq)).but ho hd sb, by rw [el]; exact led, ?_, by rw [r2.length_eq]; exact few⟩ r2
  · exact (r2.map (·.2)).nodup_iff.mpr dif
  · rw [r2.length_eq, em]
    exact hn
/-- one tuple more -/
theorem added {x : Addr} {k : NestedKey} {Q : Bool → Shared → Prop} (R : Ks w s.heap a L es ep t) (hx : Tk s.heap k x) (hu : A.units + 8 < cLine) (few : L.length + 1 < 64)
    (hQ : ∀ b h' L' es' ep' t', Heap.SameBut a s.heap h' → Ks w h' a L' es' ep' t' → (k ∈ L.map (·.2) → L' = L) → (k ∉ L.map (·.2) → L'.Perm ((x, k) :: L)) → Q b { s with heap := h' }) : wpAny (model P w) A (setAddHashed a (.ref x) (k.hash w)) Q E s := by
  obtain ⟨o, ho, hex, hd⟩ := R.obj
  have sl := R.size
  have room := R.room
  unfold setAddHashed
  refine wpAny_holding ?_
  rw [show (100000 : Nat) = 99999 + 1 from rfl, setAddHashedIn_succ]
  refine wpAny_bind (wpAny_setState_of ho hd R.fits ?_)
  dsimp only
  refine wp_if_neg (by simp [byScan, Value.scannable]) ?_
  try refine wpAny_bind (wpAny_pure ?_)
  refine wpAny_bind (looked R hx hu (fun hm => ?_) fun K hm k1 k2 => ?_)
  · dsimp only
    exact wpAny_pure (hQ false s.heap L es ep t (Heap.SameBut.refl a s.heap) R (fun _ => rfl) fun z => absurd hm z)
  dsimp only
  refine wpAny_bind (wpAny_setState_of ho hd R.fits ?_)
  dsimp only
  obtain ⟨q1, q2, q3, q4, q5, q6, q7, q8, q9⟩ := R.tab.put k1 k2
  generalize t.put (way t.mask (k.hash w) K) = pt at q1 q3 q4 q5 q6 q7 q8 q9 ⊢
  obtain ⟨t1, p⟩ := pt
  dsimp only at q1 q3 q4 q5 q6 q7 q8 q9 ⊢
  subst q1
  have hin : (SetTable.insertAt es (SetTable.below t.place (way t.mask (k.hash w) K)) (k.hash w, Value.ref x)).toList = (L.take (SetTable.below t.place (way t.mask (k.hash w) K)) ++ (x, k) :: L.drop (SetTable.below t.place (way t.mask (k.hash w) K))).map fun q => (q.2.hash w, Value.ref q.1) := by
    rw [SetTable.toList_insertAt, R.ent, List.map_append, List.map_cons, List.map_take, List.map_drop]
  generalize SetTable.below t.place (way t.mask (k.hash w) K) = p at q2 q3 hin ⊢
  have pm : (L.take p ++ (x, k) :: L.drop p).Perm ((x, k) :: L) := put_perm L p (x, k)
  have len : (L.take p ++ (x, k) :: L.drop p).length = L.length + 1 := pm.length_eq
  have hhs : (L.take p ++ (x, k) :: L.drop p).map (fun q => q.2.hash w) = (L.map fun q => q.2.hash w).take p ++ k.hash w :: (L.map fun q => q.2.hash w).drop p := by
    rw [List.map_append, List.map_cons, List.map_take, List.map_drop]
  rw [← hhs] at q3
  have nd1 : ((L.take p ++ (x, k) :: L.drop p).map (·.2)).Nodup := by
    refine (pm.map (·.2)).nodup_iff.mpr ?_
    rw [List.map_cons]
    exact List.nodup_cons.mpr ⟨hm, R.dif⟩
  have hes : (SetTable.insertAt es p (k.hash w, Value.ref x)).size = L.length + 1 := by
    have z := congrArg List.length hin
    rw [Array.length_toList, List.length_map, len] at z
    exact z
  generalize SetTable.insertAt es p (k.hash w, Value.ref x) = es1 at hin hes ⊢
  generalize L.take p ++ (x, k) :: L.drop p = L1 at pm len q3 nd1 hin
  have led1 : w.params.followText "set-order" = true ∨ t1.led = true := by rw [q5]; exact R.led
  have fin : ∀ t2 : SetTable, t2.mask = t1.mask → t2.fill = t1.fill → t2.led = t1.led → TabOk t2 (L1.map fun q => q.2.hash w) → wpAny (model P w) A (storeSet a es1 t2 >>= fun _ => if (!false && t2.tooFull) = true then (setRelay a (SetTable.grown (es.size + 1)) >>= fun _ => pure true) else pure true) Q E s := fun t2 f1 f2 f3 T2 => by
    have led2 : w.params.followText "set-order" = true ∨ t2.led = true := by rw [f3]; exact led1
    refine wpAny_bind (wpAny_storeSet_of ho hd ?_ (by rw [hes, sizeLine_eq]; omega))
    have sb : Heap.SameBut a s.heap (s.heap.update a (Obj.putSet es1 t2)) := Heap.SameBut.update ..
    have ho1 := store_at (es' := es1) (t' := t2) ho hd
    generalize s.heap.update a (Obj.putSet es1 t2) = h1 at sb ho1 ⊢
    have tps1 : ∀ q ∈ L1, Tk h1 q.2 q.1 := fun q hq => by
      rcases List.mem_cons.mp (pm.mem_iff.mp hq) with e | hq
      · rw [e]; exact hx.but ho hd sb
      · exact (R.tps q hq).but ho hd sb
    by_cases hf : t2.tooFull = true
    · have full : (L.length + 1) * 5 ≥ t.mask * 3 := by
        have z := hf
        unfold SetTable.tooFull at z
        rw [decide_eq_true_eq, f2, q9, f1, q4, List.length_map] at z
        exact z
      have two : (t.mask = 7 ∧ L.length = 4) ∨ (t.mask = 31 ∧ L.length = 18) := by
        rcases R.tab.mok with e | e | e
        · exact .inl ⟨e, by rw [e] at full room; omega⟩
        · exact .inr ⟨e, by rw [e] at full room; omega⟩
        · exfalso; rw [e] at full; omega
      have go : ∀ M, SetTable.sizeAbove (SetTable.grown (es.size + 1)) - 1 = M → MaskOk M → SetTable.sizeAbove (SetTable.grown (es.size + 1)) ≤ 128 → (L.length + 1) * 5 < M * 3 →
          wpAny (model P w) A (setRelay a (SetTable.grown (es.size + 1))) (fun _ s' => wpAny (model P w) A (pure true) Q E s') E { s with heap := h1 } := fun M m1 m2 m3 m4 =>
        relay (s := { s with heap := h1 }) ho1 ⟨hex.1, hex.2.1, hex.2.2⟩ rfl hin T2 (by rw [len, f1, q4]; rcases two with ⟨e, e2⟩ | ⟨e, e2⟩ <;> omega) nd1 tps1 led2 (by rw [len]; exact few) m1 m2 m3 (by rw [len]; exact m4)
          fun h2 L2 es2 ep2 t3 sb2 R2 pm2 => wpAny_pure (hQ true h2 L2 es2 ep2 t3 (sb.trans sb2) R2 (fun z => absurd z hm) fun _ => pm2.trans pm)
      refine wp_if_pos (by simp [hf]) (wpAny_bind ?_)
      rcases two with ⟨_, e2⟩ | ⟨_, e2⟩
      · exact go 31 (by rw [sl, e2, size_20]) (.inr (.inl rfl)) (by rw [sl, e2, size_20]; decide) (by omega)
      · exact go 127 (by rw [sl, e2, size_76]) (.inr (.inr rfl)) (by rw [sl, e2, size_76]; decide) (by omega)
    · refine wp_if_neg (by simp [hf]) (wpAny_pure (hQ true h1 L1 es1 (ep + 1) t2 sb ⟨⟨_, ho1, ⟨hex.1, hex.2.1, hex.2.2⟩, rfl⟩, hin, T2, nd1, tps1, led2, ?_, by rw [len]; exact few⟩ (fun z => absurd z hm) fun _ => pm))
      have z := hf
      unfold SetTable.tooFull at z
      rw [decide_eq_true_eq, f2, q9, f1, List.length_map] at z
      rw [len, f1]
      omega
  have plain : TabOk { t1 with plain := false } (L1.map fun q => q.2.hash w) := ⟨q3.ris, q3.dm, q3.sz, q3.mok, q3.bd, q3.reach⟩
  by_cases hp : t1.plain = true
  · first
      | refine wp_if_pos hp (wpAny_bind (hashQ_key k _ 8 _ hx.1 _ _ _ fun b => ?_))
      | refine wpAny_bind (wp_if_pos hp (hashQ_key k _ 8 _ hx.1 _ _ _ fun b => ?_))
    cases b
    · simp only [Bool.false_eq_true, if_false]
      exact fin { t1 with plain := false } rfl rfl rfl plain
    · simp only [if_true]
      exact fin t1 rfl rfl rfl q3
  · first
      | refine wp_if_neg hp (wpAny_bind (wpAny_pure ?_))
      | refine wpAny_bind (wp_if_neg hp (wpAny_pure ?_))
    simp only [if_true]
    exact fin t1 rfl rfl rfl q3
end
end TfN

/-! set(l) and sorted(l) of tuples; sorted(the set) -/
namespace TfN
open PySem PySem.Spec PyProof.Rows L2
/-- the first tuple of each key -/
def firstsK (zs : List (Addr × NestedKey)) : List (Addr × NestedKey) := zs.foldl (fun L z => if z.2 ∈ L.map (·.2) then L else L ++ [z]) []
theorem firstsK_snoc (zs : List (Addr × NestedKey)) (z : Addr × NestedKey) : firstsK (zs ++ [z]) = if z.2 ∈ (firstsK zs).map (·.2) then firstsK zs else firstsK zs ++ [z] := by
  unfold firstsK
  rw [List.foldl_append]
  rfl
theorem firstsK_len (zs : List (Addr × NestedKey)) : (firstsK zs).length ≤ zs.length := by
  have gen : ∀ (ys L : List (Addr × NestedKey)), (ys.foldl (fun L z => if z.2 ∈ L.map (·.2) then L else L ++ [z]) L).length ≤ L.length + ys.length := by
    intro ys
    induction ys with
    | nil => intro L; exact Nat.le_refl _
    | cons y ys ih =>
      intro L
      refine Nat.le_trans (ih _) ?_
      rw [List.length_cons]
      show (if y.2 ∈ L.map (·.2) then L else L ++ [y]).length + _ ≤ _
      split
      · omega
      · rw [List.length_append, List.length_singleton]; omega
  exact Nat.le_trans (gen zs []) (by simp)
theorem firstsK_sub {zs : List (Addr × NestedKey)} : ∀ z ∈ firstsK zs, z ∈ zs := by
  have gen : ∀ (ys L : List (Addr × NestedKey)) (z : Addr × NestedKey), z ∈ ys.foldl (fun L z => if z.2 ∈ L.map (·.2) then L else L ++ [z]) L → z ∈ L ∨ z ∈ ys := by
    intro ys
    induction ys with
    | nil => intro L z h; exact .inl h
    | cons y ys ih =>
      intro L z h
      rw [List.foldl_cons] at h
      rcases ih _ z h with h | h
      · split at h
        · exact .inl h
        · rcases List.mem_append.mp h with h | h
          · exact .inl h
          · exact .inr (by rw [List.mem_singleton.mp h]; exact List.mem_cons_self)
      · exact .inr (List.mem_cons_of_mem _ h)
  intro z h
  rcases gen zs [] z h with h | h
  · cases h
  · exact h
theorem firstsK_keys {zs : List (Addr × NestedKey)} {k : NestedKey} : k ∈ (firstsK zs).map (·.2) ↔ k ∈ zs.map (·.2) := by
  have gen : ∀ (ys L : List (Addr × NestedKey)), k ∈ (ys.foldl (fun L z => if z.2 ∈ L.map (·.2) then L else L ++ [z]) L).map (·.2) ↔ k ∈ L.map (·.2) ∨ k ∈ ys.map (·.2) := by
    intro ys
    induction ys with
    | nil => intro L; simp
    | cons y ys ih =>
      intro L
      rw [List.foldl_cons, ih, List.map_cons, List.mem_cons]
      split
      · rename_i hy
        constructor
        · rintro (h | h)
          · exact .inl h
          · exact .inr (.inr h)
        · rintro (h | rfl | h)
          · exact .inl h
          · exact .inl hy
          · exact .inr h
      · rw [List.map_append, List.mem_append, List.map_singleton, List.mem_singleton, or_assoc]
  rw [firstsK, gen]
  simp
theorem firstsK_nodup (zs : List (Addr × NestedKey)) : ((firstsK zs).map (·.2)).Nodup := by
  have gen : ∀ (ys L : List (Addr × NestedKey)), (L.map (·.2)).Nodup → ((ys.foldl (fun L z => if z.2 ∈ L.map (·.2) then L else L ++ [z]) L).map (·.2)).Nodup := by
    intro ys
    induction ys with
    | nil => intro L h; exact h
    | cons y ys ih =>
      intro L h
      refine ih _ ?_
      show ((if y.2 ∈ L.map (·.2) then L else L ++ [y]).map (·.2)).Nodup
      split
      · exact h
      · rename_i hy
        rw [List.map_append, List.map_singleton]
        exact List.nodup_append.mpr ⟨h, List.nodup_cons.mpr ⟨by simp, List.nodup_nil⟩, fun a ha b hb e => hy (by rw [← List.mem_singleton.mp hb, ← e]; exact ha)⟩
  exact gen zs [] List.nodup_nil
section
variable {P : Program} {w : World} {A : Around} {E : Value → Shared → Prop} {s : Shared}
theorem Ks.keep {h h' : Heap} {a : Addr} {L : List (Addr × NestedKey)} {es : Array (Int × Value)} {ep : Nat} {t : SetTable} (R : Ks w h a L es ep t) (ha : ∀ o, h.get? a = some o → h'.get? a = some o) (ht : ∀ q ∈ L, Tk h' q.2 q.1) : Ks w h' a L es ep t := by
  obtain ⟨o, ho, r⟩ := R.obj
  exact ⟨⟨o, ha o ho, r⟩, R.ent, R.tab, R.dif, ht, R.led, R.room, R.few⟩
theorem ks_fresh {h : Heap} {a : Addr} (ho : h.get? a = some (newSetO w)) : Ks w h a [] #[] 0 (.fresh 0 0 (!w.params.followText "set-order")) :=
  ⟨⟨_, ho, ⟨rfl, rfl, rfl⟩, rfl⟩, rfl, ⟨List.Pairwise.nil, rfl, rfl, .inl rfl, fun x hx => (by cases hx), fun i h j hi => (by simp at hi)⟩, List.nodup_nil, fun p hp => (by cases hp), by
    show _ ∨ (!w.params.followText "set-order") = true
    cases w.params.followText "set-order"
    · exact .inr rfl
    · exact .inl rfl, by show 0 * 5 < 7 * 3; decide, by show 0 < 64; decide⟩
/-- the loop of set.update over tuples -/
theorem ks_loop {I : Addr} {fp wr : List Addr} {G : Array GenState → Array GenState → Prop} {n : Nat} {Pv : Nat → Value → Prop} {St : Nat → Shared → Prop} {R : Result → Shared → Prop}
    (W : WalksS P w A.in1 I fp wr G n Pv St) (S : Addr) (hSf : S ∉ fp) (zs : List (Addr × NestedKey)) (hn : n = zs.length) (few : zs.length + 1 < 64) (hval : ∀ i v, Pv i v → ∃ z, zs[i]? = some z ∧ v = .ref z.1)
    (h0 : Heap) (hz : ∀ z ∈ zs, Tk h0 z.2 z.1) (hS0 : h0.get? S = none) (hw0 : ∀ b ∈ wr, h0.get? b = none) (hu : A.in1.units + 8 < cLine) :
    ∀ (k i : Nat) (s : Shared), n - i = k → i ≤ n → St i s → (∀ b o, h0.get? b = some o → s.heap.get? b = some o) → (∃ L es ep t, Ks w s.heap S L es ep t ∧ L.Perm (firstsK (zs.take i))) →
      (∀ s' L es ep t, Moved (S :: wr) G s s' → Ks w s'.heap S L es ep t → L.Perm (firstsK zs) → R (.ok (.ret .none)) s') →
      codeAny (model P w) A (.builtin "set.update.loop" ⟨[.ref S, .ref I], []⟩) R s := by
  have hSw : S ∉ wr := fun h => hSf (W.sub _ h)
  have wid : ∀ b ∈ wr, b ∈ S :: wr := fun b hb => List.mem_cons_of_mem _ hb
  have old : ∀ {s s' : Shared}, Moved wr G s s' → (∀ b o, h0.get? b = some o → s.heap.get? b = some o) → ∀ b o, h0.get? b = some o → s'.heap.get? b = some o := fun hm k b o e =>
    hm.heap b o (fun hb => by rw [hw0 b hb] at e; cases e) (k b o e)
  intro k
  induction k with
  | zero =>
    intro i s hk hi hst hkp ⟨L, es, ep, t, hS, g⟩ hR
    have e : i = n := by omega
    subst e
    rw [hn, List.take_length] at g
    refine codeAny_builtin F.entry_set_update_loop ?_
    rw [Around.under_plainId F.plain_set_update_loop _]
    show wpAny _ A.in1 (pyNext (.ref I) >>= _) _ _ s
    refine wpAny_bind (W.done s _ _ hst fun s' hm => ?_)
    have kp := old hm hkp
    exact wpAny_pure (hR s' L es ep t (hm.mono wid) (hS.keep (fun o e => hm.heap S o hSw e) fun q hq => (hz q (firstsK_sub q (g.mem_iff.mp hq))).keep kp) g)
  | succ k ih =>
    intro i s hk hi hst hkp ⟨L, es, ep, t, hS, g⟩ hR
    have lt : i < n := by omega
    refine codeAny_builtin F.entry_set_update_loop ?_
    rw [Around.under_plainId F.plain_set_update_loop _]
    show wpAny _ A.in1 (pyNext (.ref I) >>= _) _ _ s
    refine wpAny_bind (W.item i s _ _ lt hst fun v s' hP hst' hm => ?_)
    obtain ⟨z, ez, rfl⟩ := hval i v hP
    have kp := old hm hkp
    have mz : z ∈ zs := List.mem_of_getElem? ez
    have tk : zs.take (i + 1) = zs.take i ++ [z] := by rw [List.take_add_one, ez]; rfl
    have hS' : Ks w s'.heap S L es ep t := hS.keep (fun o e => hm.heap S o hSw e) fun q hq => (hz q (List.mem_of_mem_take (firstsK_sub q (g.mem_iff.mp hq)))).keep kp
    have hx := (hz z mz).keep kp
    show wpAny _ A.in1 (holding [Value.ref z.1] (setAdd S (.ref z.1)) >>= _) _ _ s'
    refine wpAny_bind (wpAny_holding ?_)
    unfold setAdd
    refine wpAny_holding (wpAny_bind (pyHash_key z.2 _ A.in1 s' _ hx.1 (by have := hx.2; omega) ?_))
    have fl := firstsK_len (zs.take i)
    rw [List.length_take] at fl
    have gl := g.length_eq
    refine added (s := { s' with toks := s'.toks + z.2.draws }) hS' hx hu (by omega) fun b h' L' es' ep' t' sb r c1 c2 => ?_
    have g' : L'.Perm (firstsK (zs.take (i + 1))) := by
      rw [tk, firstsK_snoc]
      have mm : z.2 ∈ L.map (·.2) ↔ z.2 ∈ (firstsK (zs.take i)).map (·.2) := (g.map (·.2)).mem_iff
      by_cases c : z.2 ∈ L.map (·.2)
      · rw [if_pos (mm.mp c), c1 c]
        exact g
      · rw [if_neg fun h => c (mm.mpr h)]
        exact (c2 c).trans ((g.cons z).trans (List.perm_append_singleton z _).symm)
    have kp2 : ∀ b o, h0.get? b = some o → h'.get? b = some o := fun b o e => (sb.2 b (fun q => by rw [q, hS0] at e; cases e)).trans (kp b o e)
    refine wpAny_pure ⟨plainId_quiet F.plain_set_update_loop _, ih (i + 1) _ (by omega) lt (W.frame _ s' _ _ hst' (Nat.le_add_right _ _) fun b hb o e => ?_) kp2 ⟨L', es', ep', t', r, g'⟩ fun s'' L2 es2 ep2 t2 hm'' hS'' g'' => ?_⟩
    · rw [sb.2 b (fun h : b = S => hSf (by rw [← h]; exact hb))]; exact e
    · refine hR s'' L2 es2 ep2 t2 (Moved.trans W.gtrans ((hm.mono wid).then_heap (Nat.le_add_right _ _) fun b o hb e => ?_) hm'') hS'' g''
      rw [sb.2 b (fun h : b = S => hb (by rw [h]; exact List.mem_cons_self))]; exact e
set_option maxHeartbeats 8000000 in
/-- set(l), l a list of tuples -/
theorem ks_list {l : Addr} {items : Array Value} (zs : List (Addr × NestedKey)) {Q : Value → Shared → Prop} (hh : A.handled = none) (hl : s.heap.IsList l items) (hit : items.toList = zs.map fun z => Value.ref z.1) (hz : ∀ z ∈ zs, Tk s.heap z.2 z.1) (few : zs.length + 1 < 64) (hu : A.units + 12 < cLine)
    (h : ∀ (h' : Heap) (tk : Nat) L es ep t, Ks w h' s.heap.objs.size L es ep t → L.Perm (firstsK zs) → (∀ b o, s.heap.get? b = some o → h'.get? b = some o) → Q (.ref s.heap.objs.size) { s with heap := h', toks := tk }) :
    wpAny (model P w) A (call (.type "set") [.ref l]) Q E s := by
  have isz : items.size = zs.length := by
    have q := congrArg List.length hit
    rw [Array.length_toList, List.length_map] at q
    exact q
  obtain ⟨c, tl, hmro⟩ := F.called_set.mro
  have hmade := F.called_set.made
  have hsub := F.called_set.sub
  refine wpAny_call (codeAny_of_tree ?_)
  show wpAny _ _ (callAny (.type "set") _) _ _ _
  refine wpAny_pure ⟨Code.quiet_builtin _ (by decide +kernel), codeAny_builtin F.entry_type_call ?_⟩
  rw [Around.under_plain (weight_type_call_type "set" [.ref l] []) rfl]
  have h1 := F.called_set.notType
  have h2 := F.called_set.canCreate
  have hct := F.typeCall_set_1 (.ref l)
  repeat (any_goals (first | assumption | wp_step))
  refine codeAny_mono (code_set_led1 (.ref l) (E := E) (Q₁ := fun obj s₁ => obj = .ref s.heap.objs.size ∧ s₁ = { s with heap := s.heap.push (newSetO w) }) ⟨rfl, rfl⟩) fun r s₁ hr => ?_
  cases r with
  | error e => exact hr
  | ok fl =>
    cases fl with
    | ret obj =>
      obtain ⟨rfl, rfl⟩ := hr
      have hS : (s.heap.push (newSetO w)).get? s.heap.objs.size = some (newSetO w) := Heap.get?_push_size _ rfl
      have hT : Shared.TypeIs { s with heap := s.heap.push (newSetO w) } (.ref s.heap.objs.size) "set" := ⟨_, hS, rfl⟩
      have hli := F.called_set.init.lookup
      have hbi := F.called_set.init.bind (.ref s.heap.objs.size)
      repeat (any_goals (first | assumption | wp_step))
      refine codeAny_mono (codeAny_call_builtin (R := wants (fun r s₂ => r = .none ∧ ∃ h' tk L es ep t, s₂ = { s with heap := h', toks := tk } ∧ Ks w h' s.heap.objs.size L es ep t ∧ L.Perm (firstsK zs) ∧ (∀ b o, s.heap.get? b = some o → h'.get? b = some o)) E) F.called_set.init.plain F.entry_set_init (check_set_init_1 hT ?_)) fun r₂ s₂ hr₂ => ?_
      · obtain ⟨ol, hol, hcl, nl, hdl⟩ := hl
        obtain ⟨ocls, odict, odata, oslots⟩ := ol
        simp only at hcl hdl
        subst hcl; subst hdl
        have hol' : (s.heap.push (newSetO w)).get? l = some { cls := .type "list", dict := odict, data := .seq items nl, slots := oslots } := Heap.get?_push_of_some _ hol
        have hsls := F.sub_list_set
        have hslf := F.sub_list_frozenset
        have hne : (Value.type "list" == Value.type "dict") = false := by decide
        have hl1 : (s.heap.push (newSetO w)).IsList l items := ⟨_, hol', rfl, nl, rfl⟩
        unfold Builtin.«set.__init__» noKeywords Builtin.Frozenset.updateFrom
        generalize hPI : pyIter = PI
        wp_walk
        subst hPI
        refine wpAny_pyIter_list hl1 ?_
        refine wpAny_bind (wpAny_runValue ?_)
        have lt : l < s.heap.objs.size := Heap.lt_size hol
        have hh3 : A.in1.in1.in1.handled = none := by simp [hh]
        have sz : (s.heap.push (newSetO w)).objs.size = s.heap.objs.size + 1 := Heap.size_push ..
        have neI : l ≠ (s.heap.push (newSetO w)).objs.size := by
          rw [sz]
          exact Nat.ne_of_lt (Nat.lt_succ_of_lt lt)
        have nf : s.heap.objs.size ∉ [(s.heap.push (newSetO w)).objs.size, l] := by
          rw [sz]
          simp only [List.mem_cons, List.not_mem_nil, or_false, not_or]
          exact ⟨Nat.ne_of_lt (Nat.lt_succ_self _), Nat.ne_of_gt lt⟩
        have hval : ∀ (i : Nat) (v : Value), items[i]? = some v → ∃ z, zs[i]? = some z ∧ v = .ref z.1 := fun i v hv => by
          have q : items.toList[i]? = some v := by rw [Array.getElem?_toList]; exact hv
          rw [hit, List.getElem?_map] at q
          cases hq : zs[i]? with
          | none => rw [hq] at q; cases q
          | some z =>
            rw [hq] at q
            exact ⟨z, rfl, (Option.some.inj q).symm⟩
        have off : ∀ b, s.heap.objs.size ≤ b → s.heap.get? b = none := fun b hb => by
          cases q : s.heap.get? b with
          | none => rfl
          | some o => exact absurd (Nat.lt_of_lt_of_le (Heap.lt_size q) hb) (Nat.lt_irrefl _)
        refine ks_loop ((Walks.list hh3 _ l neI items).toS) s.heap.objs.size nf zs isz few hval s.heap hz (off _ (Nat.le_refl _)) (fun b hb => off b (by rw [List.mem_singleton.mp hb, sz]; exact Nat.le_succ _)) (by simp only [Around.in1_units]; omega) (items.size - 0) 0 _ (by omega) (Nat.zero_le _) ⟨⟨_, Heap.get?_push_size _ rfl, rfl, rfl⟩, (hl1.push _)⟩
          (fun b o e => Heap.get?_push_of_some _ (Heap.get?_push_of_some _ e)) ⟨[], #[], 0, _, ks_fresh (Heap.get?_push_of_some _ hS), List.Perm.nil⟩ ?hR
        case hR =>
          intro s' L es ep t hm hS' g'
          obtain ⟨h', g2, d', tk', os'⟩ := s'
          have eg : g2 = s.gens := hm.gens
          have ed : d' = s.drawn := hm.drawn
          have eo : os' = s.os := hm.os
          subst eg; subst ed; subst eo
          show wpAny _ _ _ _ _ _
          refine wpAny_pure ?_
          show wpAny _ _ (ret Value.none) _ _ _
          refine wpAny_pure ⟨rfl, h', tk', L, es, ep, t, rfl, hS', g', fun b o e => ?_⟩
          have lb := Heap.lt_size e
          refine hm.heap b o (fun z => ?_) (Heap.get?_push_of_some _ (Heap.get?_push_of_some _ e))
          rw [sz] at z
          simp only [List.mem_cons, List.not_mem_nil, or_false] at z
          rcases z with z | z
          · exact absurd z (Nat.ne_of_lt lb)
          · exact absurd z (Nat.ne_of_lt (Nat.lt_succ_of_lt lb))
      · cases r₂ with
        | error e => exact hr₂
        | ok fl₂ =>
          cases fl₂ with
          | ret r =>
            obtain ⟨rfl, h', tk, L, es, ep, t, rfl, hS', g', hk'⟩ := hr₂
            repeat (any_goals (first | assumption | wp_step))
            exact h _ _ _ _ _ _ hS' g' hk'
          | _ => exact hr₂.elim
    | _ => exact hr.elim
end
end TfN

/-! data with a Lean type, over the layer -/
namespace L2
open PySem PySem.Spec PyProof.Rows PySem.W PySem.SeqAt
/-- what can be read stays: new objects, locks -/
def Le (H H' : Hp) : Prop := ∀ b o, (∀ q u, o ≠ .frz q u) → Rd H b o → Rd H' b o
theorem Le.refl (H : Hp) : Le H H := fun _ _ _ h => h
theorem Le.trans {H H1 H2 : Hp} (a : Le H H1) (b : Le H1 H2) : Le H H2 := fun c o n h => b c o n (a c o n h)
theorem Same.le {H H' : Hp} (s : Same H H') : Le H H' := fun b o _ h => by
  rcases h with h | ⟨q, h⟩
  · exact .inl (s _ _ h)
  · exact .inr ⟨q, s _ _ h⟩
theorem Le.lock {H : Hp} {d : Addr} {u : HO} {od : Obj} (h : H d = some u) (m : Mut (some u)) : Le H (upd H d (.frz od u)) := fun b o n r => by
  by_cases e : b = d
  · subst e
    rcases r with r | ⟨q, r⟩
    · rw [h] at r
      have e := Option.some.inj r
      subst e
      exact .inr ⟨od, upd_same⟩
    · rw [h] at r
      have e := Option.some.inj r
      subst e
      exact False.elim m
  · rcases r with r | ⟨q, r⟩
    · exact .inl (by rw [upd_ne e]; exact r)
    · exact .inr ⟨q, by rw [upd_ne e]; exact r⟩
/-- the lock is taken off -/
theorem Same.unlock {H H' : Hp} {d : Addr} {u : HO} {od : Obj} (h : H d = some u) (s : Same (upd H d (.frz od u)) H') : Same H (upd H' d u) := fun b o e => by
  by_cases c : b = d
  · subst c
    rw [upd_same, ← e, h]
  · rw [upd_ne c]
    exact s _ _ (by rw [upd_ne c]; exact e)
theorem Le.sql {K : PySem.W.Frag} {H H' : Hp} (l : Le H H') {a : Addr} {xs : List V} (h : SqL K H a xs) : SqL K H' a xs := by
  rcases h with h | h
  · exact .inl (l _ _ (by intro q u z; cases z) h)
  · exact .inr h
theorem Le.sqt {K : PySem.W.Frag} {H H' : Hp} (l : Le H H') {a : Addr} {xs : List V} (h : SqT K H a xs) : SqT K H' a xs := by
  rcases h with h | h
  · exact .inl (l _ _ (by intro q u z; cases z) h)
  · exact .inr h
theorem Le.dk {H H' : Hp} (l : Le H H') {a : Addr} {kvs : List (Key × V)} (h : Rd H a (.dK kvs)) : Rd H' a (.dK kvs) := l _ _ (by intro q u z; cases z) h
theorem Le.ins {H H' : Hp} (l : Le H H') {a C dx : Addr} {fs : List (Str × V)} (h : Rd H a (.ins C dx fs)) : Rd H' a (.ins C dx fs) := l _ _ (by intro q u z; cases z) h
mutual
theorem Dp.le {K : PySem.W.Frag} {H H' : Hp} (l : Le H H') : ∀ {v : V} {d : PyData}, Dp K H v d → Dp K H' v d
  | _, _, .non => .non
  | _, _, .bl b => .bl b
  | _, _, .int i => .int i
  | _, _, .str z => .str z
  | _, _, .lst h r => .lst (l.sql h) (DpAll.le l r)
  | _, _, .tup h r => .tup (l.sqt h) (DpAll.le l r)
theorem DpAll.le {K : PySem.W.Frag} {H H' : Hp} (l : Le H H') : ∀ {xs : List V} {ds : List PyData}, DpAll K H xs ds → DpAll K H' xs ds
  | _, _, .nil => .nil
  | _, _, .cons h r => .cons (Dp.le l h) (DpAll.le l r)
end
/-- v stands for x -/
def Dt {α : Type} [DecidableEq α] [Datum α] (K : PySem.W.Frag) (H : Hp) (v : V) (x : α) : Prop := Dp K H v (Datum.toD x)
section
variable {α β : Type} [DecidableEq α] [Datum α] [DecidableEq β] [Datum β] {K : PySem.W.Frag} {H : Hp}
theorem Dt.le {H' : Hp} {v : V} {x : α} (h : Dt K H v x) (l : Le H H') : Dt K H' v x := Dp.le l h
/-- item by item -/
abbrev Dts (K : PySem.W.Frag) (H : Hp) (vs : List V) (xs : List α) : Prop := Paired (Dt K H) vs xs
theorem Dts.le {H' : Hp} {vs : List V} {xs : List α} (h : Dts K H vs xs) (l : Le H H') : Dts K H' vs xs := Paired.mapP h fun _ _ d => Dt.le d l
theorem Dts.all : ∀ {vs : List V} {xs : List α}, Dts K H vs xs → DpAll K H vs (xs.map Datum.toD)
  | _, _, .nil => .nil
  | _, _, .cons h r => .cons h (Dts.all r)
theorem Dts.of_all : ∀ {vs : List V} {xs : List α}, DpAll K H vs (xs.map Datum.toD) → Dts K H vs xs
  | [], [], _ => .nil
  | [], _ :: _, h => by cases h
  | _ :: _, [], h => by cases h
  | _ :: _, _ :: _, .cons h r => .cons h (Dts.of_all r)
theorem dt_list {a : Addr} {vs : List V} {xs : List α} (h : SqL K H a vs) (r : Dts K H vs xs) : Dt K H (.ref a) xs := .lst h r.all
theorem dt_tup {a : Addr} {vs : List V} {xs : List α} (h : SqT K H a vs) (r : Dts K H vs xs) : Dt K H (.ref a) (Tup.mk xs) := .tup h r.all
theorem dt_pair {a : Addr} {v u : V} {x : α} {y : β} (h : SqT K H a [v, u]) (r : Dt K H v x) (q : Dt K H u y) : Dt K H (.ref a) (x, y) := .tup h (.cons r (.cons q .nil))
theorem dt_str {z : Str} : Dt K H (.str z) z := .str z
theorem dt_int {i : Int} : Dt K H (.int i) i := .int i
theorem dts_strs : ∀ zs : List Str, Dts K H (zs.map V.str) zs
  | [] => .nil
  | z :: zs => .cons dt_str (dts_strs zs)
theorem Dt.str {v : V} {z : Str} (h : Dt K H v z) : v = .str z := by
  have h' : Dp K H v (.str z) := h
  cases h'
  rfl
theorem Dt.pair {v : V} {p : α × β} (h : Dt K H v p) : ∃ a u w, v = .ref a ∧ SqT K H a [u, w] ∧ Dt K H u p.1 ∧ Dt K H w p.2 := by
  have h' : Dp K H v (.tuple [Datum.toD p.1, Datum.toD p.2]) := h
  cases h' with
  | tup h r =>
    cases r with
    | cons h1 r =>
      cases r with
      | cons h2 r =>
        cases r
        exact ⟨_, _, _, rfl, h, h1, h2⟩
theorem Dt.list {v : V} {xs : List α} (h : Dt K H v xs) : ∃ a vs, v = .ref a ∧ SqL K H a vs ∧ Dts K H vs xs := by
  have h' : Dp K H v (.list (xs.map Datum.toD)) := h
  cases h' with
  | lst hs rs => exact ⟨_, _, rfl, hs, .of_all rs⟩
theorem Dt.tup {v : V} {xs : Tup α} (h : Dt K H v xs) : ∃ a vs, v = .ref a ∧ SqT K H a vs ∧ Dts K H vs xs.items := by
  have h' : Dp K H v (.tuple (xs.items.map Datum.toD)) := h
  cases h' with
  | tup hs rs => exact ⟨_, _, rfl, hs, .of_all rs⟩
theorem Dts.strs : ∀ {vs : List V} {zs : List Str}, Dts K H vs zs → vs = zs.map V.str
  | _, _, .nil => rfl
  | _, _, .cons h r => by rw [Dt.str h, Dts.strs r, List.map_cons]
theorem Dts.at : ∀ {vs : List V} {xs : List α}, Dts K H vs xs → ∀ {i : Nat} {v : V}, vs[i]? = some v → ∃ x, xs[i]? = some x ∧ Dt K H v x := fun r => paired_get r
theorem Dts.length {vs : List V} {xs : List α} (r : Dts K H vs xs) : vs.length = xs.length := Paired.length r
theorem Dts.append : ∀ {vs us : List V} {xs ys : List α}, Dts K H vs xs → Dts K H us ys → Dts K H (vs ++ us) (xs ++ ys)
  | _, _, _, _, .nil, q => q
  | _, _, _, _, .cons h r, q => .cons h (Dts.append r q)
end
/-! ### == and != of plain data, in -/
section
variable {X : Cx}
def rEqP (K : PySem.W.Frag) (neg : Bool) : R2 := fun x y H Q => ∃ d e, Dp K H x d ∧ Dp K H y e ∧ d.plain = true ∧ e.plain = true ∧ min d.depth e.depth ≤ 60 ∧ Q (.bl (if neg then !PyData.eqv d e else PyData.eqv d e)) H
theorem op_eqP (hu : X.A.units + 64 < cLine) : OpR X (compareOp .Eq) (rEqP X.K false) := by
  intro pins s σ H x y v u Q I rx ry h
  obtain ⟨d, e, hd, he, pd, pe, hm, q⟩ := h
  obtain ⟨as, r1⟩ := Dp.reads I d x v hd rx
  obtain ⟨bs, r2⟩ := Dp.reads I e y u he ry
  exact eq_plain r1 r2 pd pe (by omega) ⟨.bl _, H, I, rfl, q⟩
theorem op_neP (hu : X.A.units + 64 < cLine) : OpR X (compareOp .NotEq) (rEqP X.K true) := by
  intro pins s σ H x y v u Q I rx ry h
  obtain ⟨d, e, hd, he, pd, pe, hm, q⟩ := h
  obtain ⟨as, r1⟩ := Dp.reads I d x v hd rx
  obtain ⟨bs, r2⟩ := Dp.reads I e y u he ry
  exact ne_plain r1 r2 pd pe (by omega) ⟨.bl _, H, I, rfl, q⟩
section
variable {α : Type} [DecidableEq α] [Datum α] {K : PySem.W.Frag} {H : Hp} {x y : V} {a b : α} {Q : VK}
theorem eq_t (ha : Dt K H x a) (hb : Dt K H y b) (q : Q (.bl (decide (a = b))) H) (hz : Datum.depth α ≤ 60 := by decide) : rEqP K false x y H Q :=
  ⟨_, _, ha, hb, Datum.plain a, Datum.plain b, Nat.le_trans (Nat.min_le_left _ _) (Nat.le_trans (Datum.depth_le a) hz), by rw [if_neg Bool.false_ne_true, Datum.eqv]; exact q⟩
theorem ne_t (ha : Dt K H x a) (hb : Dt K H y b) (q : Q (.bl (!decide (a = b))) H) (hz : Datum.depth α ≤ 60 := by decide) : rEqP K true x y H Q :=
  ⟨_, _, ha, hb, Datum.plain a, Datum.plain b, Nat.le_trans (Nat.min_le_left _ _) (Nat.le_trans (Datum.depth_le a) hz), by rw [if_pos rfl, Datum.eqv]; exact q⟩
end
/-- x in c, c a list or a tuple of data -/
def rInP (K : PySem.W.Frag) (neg : Bool) : R2 := fun x y H Q => ∃ d ds, Dp K H x d ∧ (Dp K H y (.list ds) ∨ Dp K H y (.tuple ds)) ∧ d.plain = true ∧ PyData.plainAll ds = true ∧ d.depth ≤ 60 ∧ Q (.bl (if neg then !ds.any (fun e => PyData.eqv e d) else ds.any fun e => PyData.eqv e d)) H
theorem op_inP (hu : X.A.units + 64 < cLine) : OpR X (compareOp .In) (rInP X.K false) := by
  intro pins s σ H x y v u Q I rx ry h
  obtain ⟨d, ds, hd, he, pd, pe, hm, q⟩ := h
  obtain ⟨as, r1⟩ := Dp.reads I d x v hd rx
  rcases he with he | he
  · obtain ⟨bs, r2⟩ := Dp.reads I _ y u he ry
    exact in_list_data r2 r1 pe pd (by omega) ⟨.bl _, H, I, rfl, q⟩
  · obtain ⟨bs, r2⟩ := Dp.reads I _ y u he ry
    exact in_tuple_data r2 r1 pe pd (by omega) ⟨.bl _, H, I, rfl, q⟩
theorem op_notInP (hu : X.A.units + 64 < cLine) : OpR X (compareOp .NotIn) (rInP X.K true) := by
  intro pins s σ H x y v u Q I rx ry h
  obtain ⟨d, ds, hd, he, pd, pe, hm, q⟩ := h
  obtain ⟨as, r1⟩ := Dp.reads I d x v hd rx
  rcases he with he | he
  · obtain ⟨bs, r2⟩ := Dp.reads I _ y u he ry
    exact notIn_list_data r2 r1 pe pd (by omega) ⟨.bl _, H, I, rfl, q⟩
  · obtain ⟨bs, r2⟩ := Dp.reads I _ y u he ry
    exact notIn_tuple_data r2 r1 pe pd (by omega) ⟨.bl _, H, I, rfl, q⟩
end
section
variable {α : Type} [DecidableEq α] [Datum α]
theorem any_eqv (xs : List α) (a : α) : (xs.map Datum.toD).any (fun e => PyData.eqv e (Datum.toD a)) = decide (a ∈ xs) := by
  rw [List.any_map]
  by_cases h : a ∈ xs
  · rw [decide_eq_true h]
    exact List.any_eq_true.mpr ⟨a, h, by show PyData.eqv (Datum.toD a) (Datum.toD a) = true; rw [Datum.eqv]; exact decide_eq_true rfl⟩
  · rw [decide_eq_false h]
    refine List.any_eq_false.mpr fun y hy e => h ?_
    have e' : PyData.eqv (Datum.toD y) (Datum.toD a) = true := e
    rw [Datum.eqv] at e'
    rw [← of_decide_eq_true e']
    exact hy
variable {K : PySem.W.Frag} {H : Hp} {x y : V} {a : α} {xs : List α} {Q : VK}
theorem in_t (ha : Dt K H x a) (hb : Dt K H y xs ∨ Dt K H y (Tup.mk xs)) (q : Q (.bl (decide (a ∈ xs))) H) (hz : Datum.depth α ≤ 60 := by decide) : rInP K false x y H Q :=
  ⟨_, _, ha, hb, Datum.plain a, plainAll_map xs, Nat.le_trans (Datum.depth_le a) hz, by rw [if_neg Bool.false_ne_true, any_eqv]; exact q⟩
theorem notIn_t (ha : Dt K H x a) (hb : Dt K H y xs ∨ Dt K H y (Tup.mk xs)) (q : Q (.bl (!decide (a ∈ xs))) H) (hz : Datum.depth α ≤ 60 := by decide) : rInP K true x y H Q :=
  ⟨_, _, ha, hb, Datum.plain a, plainAll_map xs, Nat.le_trans (Datum.depth_le a) hz, by rw [if_pos rfl, any_eqv]; exact q⟩
end
/-! ### dicts from texts to data: ==, != -/
section
variable {α : Type} [DecidableEq α] [Datum α]
/-- the dict at a: its pairs, in order -/
def Dk (K : PySem.W.Frag) (H : Hp) (a : Addr) (xs : List (Str × α)) : Prop := ∃ kvs : List (Key × V), Rd H a (.dK kvs) ∧ Paired (fun kv x => kv.1 = Sum.inr x.1 ∧ Dt K H kv.2 x.2) kvs xs
theorem Dk.le {K : PySem.W.Frag} {H H' : Hp} {a : Addr} {xs : List (Str × α)} (h : Dk K H a xs) (l : Le H H') : Dk K H' a xs := by
  obtain ⟨kvs, h1, h2⟩ := h
  exact ⟨kvs, l.dk h1, Paired.mapP h2 fun _ _ z => ⟨z.1, Dt.le z.2 l⟩⟩
def look (xs : List (Str × α)) (k : Str) : Option α := (xs.find? fun p => decide (p.1 = k)).map (·.2)
theorem look_val {K : PySem.W.Frag} {H : Hp} {k : Str} : ∀ {kvs : List (Key × V)} {xs : List (Str × α)}, Paired (fun kv x => kv.1 = Sum.inr x.1 ∧ Dt K H kv.2 x.2) kvs xs →
    (look xs k = none ∧ valV kvs (Sum.inr k) = none) ∨ ∃ x v, look xs k = some x ∧ valV kvs (Sum.inr k) = some v ∧ Dt K H v x
  | _, _, .nil => .inl ⟨rfl, rfl⟩
  | kv :: kvs, p :: xs, .cons h r => by
    obtain ⟨h1, h2⟩ := h
    by_cases c : p.1 = k
    · refine .inr ⟨p.2, kv.2, ?_, valV_pos (by rw [h1, c]), h2⟩
      unfold look
      rw [List.find?_cons_of_pos (by exact decide_eq_true c)]
      rfl
    · have e1 : look (p :: xs) k = look xs k := by
        unfold look
        rw [List.find?_cons_of_neg (by rw [decide_eq_true_eq]; exact c)]
      have e2 : valV (kv :: kvs) (Sum.inr k) = valV kvs (Sum.inr k) := valV_neg (by rw [h1]; exact fun z => c (Sum.inr.inj z))
      rw [e1, e2]
      exact look_val r
/-- the same keys with the same values -/
def sameD (xs ys : List (Str × α)) : Bool := xs.length == ys.length && xs.all fun p => decide (look ys p.1 = some p.2)
section
variable {X : Cx} {pins : List (Addr × Obj)} {σ : St} {H : Hp} {s : Shared}
theorem hits_t {A : Around} (hu : A.units + 64 < cLine) (hz : Datum.depth α ≤ 60) (I : Inv X pins σ H s) {ls : List (Key × V)} {vb : List (Key × Value)} {ys : List (Str × α)} (rb : KV ls vb) (pb : Paired (fun kv x => kv.1 = Sum.inr x.1 ∧ Dt X.K H kv.2 x.2) ls ys) :
    ∀ {ks : List (Key × V)} {va : List (Key × Value)} {xs : List (Str × α)}, KV ks va → Paired (fun kv x => kv.1 = Sum.inr x.1 ∧ Dt X.K H kv.2 x.2) ks xs → KeqHits A s vb va (xs.all fun p => decide (look ys p.1 = some p.2)) := by
  intro ks va xs ra pa
  unfold KV at ra
  induction ra generalizing xs with
  | nil => cases pa; exact .nil
  | @cons kv q ks va h t ih =>
    cases pa with
    | @cons _ p _ xs h2 t2 =>
      obtain ⟨e1, r1⟩ := h
      obtain ⟨e2, d1⟩ := h2
      obtain ⟨key, v⟩ := q
      have ek : key = Sum.inr p.1 := by rw [← e2, e1]
      subst ek
      have rr := rb.val (Sum.inr p.1)
      rcases look_val (k := p.1) pb with ⟨l1, l2⟩ | ⟨x, u, l1, l2, d2⟩
      · rw [l2] at rr
        have z : valueAt vb (Sum.inr p.1) = none := by
          cases hv : valueAt vb (Sum.inr p.1) with
          | none => rfl
          | some _ => rw [hv] at rr; exact rr.elim
        have e : ((p :: xs).all fun p => decide (look ys p.1 = some p.2)) = false := by
          rw [List.all_cons, l1]
          rfl
        rw [e]
        exact .miss z
      · rw [l2] at rr
        obtain ⟨y, hy, ry⟩ := rr.some_of
        obtain ⟨as, q1⟩ := Dp.reads I _ kv.2 v d1 r1
        obtain ⟨bs, q2⟩ := Dp.reads I _ u y d2 ry
        have ea : SeqAt.EqAt A s v y (PyData.eqv (Datum.toD p.2) (Datum.toD x)) := eqAt_plain _ _ A s v y as bs q1 q2 (Datum.plain _) (Datum.plain _) (by
          have := Datum.depth_le p.2
          omega)
        rw [Datum.eqv] at ea
        have e : ((p :: xs).all fun p => decide (look ys p.1 = some p.2)) = (decide (p.2 = x) && xs.all fun p => decide (look ys p.1 = some p.2)) := by
          rw [List.all_cons, l1]
          congr 1
          exact decide_eq_decide.mpr ⟨fun z => (Option.some.inj z).symm, fun z => by rw [z]⟩
        rw [e]
        exact .hit hy ea (ih t2)
end
section
variable {X : Cx}
def rEqK (K : PySem.W.Frag) (α : Type) [DecidableEq α] [Datum α] (neg : Bool) : R2 := fun x y H Q => ∃ (a b : Addr) (xs ys : List (Str × α)), x = .ref a ∧ y = .ref b ∧ Dk K H a xs ∧ Dk K H b ys ∧ Q (.bl (if neg then !sameD xs ys else sameD xs ys)) H
theorem op_eqK (hu : X.A.units + 70 < cLine) (hz : Datum.depth α ≤ 60 := by decide) : OpR X (compareOp .Eq) (rEqK X.K α false) := by
  intro pins s σ H x y v u Q I rx ry h
  obtain ⟨a, b, xs, ys, rfl, rfl, ⟨ks, ha, pa⟩, ⟨ls, hb, pb⟩, q⟩ := h
  obtain rfl : v = Value.ref a := rx
  obtain rfl : u = Value.ref b := ry
  obtain ⟨_, ya, va, ra, da⟩ := dk_rd I.hok ha
  obtain ⟨_, yb, vb, rb, db⟩ := dk_rd I.hok hb
  have l1 : va.length = xs.length := by rw [← ra.length]; exact Paired.length pa
  have l2 : vb.length = ys.length := by rw [← rb.length]; exact Paired.length pb
  refine PySem.W.keq_eq (knd := mixKind X.prog X.w) ya yb da db (by omega) (fun _ => hits_t (A := X.A.in1) (by simp only [Around.in1_units]; omega) hz I rb pb ra pa) ⟨.bl _, H, I, ?_, q⟩
  rw [l1, l2]
  rfl
theorem op_neK (hu : X.A.units + 70 < cLine) (hz : Datum.depth α ≤ 60 := by decide) : OpR X (compareOp .NotEq) (rEqK X.K α true) := by
  intro pins s σ H x y v u Q I rx ry h
  obtain ⟨a, b, xs, ys, rfl, rfl, ⟨ks, ha, pa⟩, ⟨ls, hb, pb⟩, q⟩ := h
  obtain rfl : v = Value.ref a := rx
  obtain rfl : u = Value.ref b := ry
  obtain ⟨_, ya, va, ra, da⟩ := dk_rd I.hok ha
  obtain ⟨_, yb, vb, rb, db⟩ := dk_rd I.hok hb
  have l1 : va.length = xs.length := by rw [← ra.length]; exact Paired.length pa
  have l2 : vb.length = ys.length := by rw [← rb.length]; exact Paired.length pb
  refine PySem.W.keq_ne (knd := mixKind X.prog X.w) ya yb da db (by omega) (fun _ => hits_t (A := X.A.in1) (by simp only [Around.in1_units]; omega) hz I rb pb ra pa) ⟨.bl _, H, I, ?_, q⟩
  rw [l1, l2]
  rfl
end
end
end L2

/-! sorted(l), sorted(set(l)) of data with a Lean type -/
namespace L2
open PySem PySem.Spec PyProof.Rows PySem.W PySem.SeqAt TfN
/-- an order in which unlike ones are told apart -/
class OrdD (α : Type) [DecidableEq α] extends DatumOrd α where
  anti : ∀ a b : α, lt a b = false → lt b a = false → a = b
instance : OrdD Int where
  anti a b h k := by
    have h' := of_decide_eq_false h
    have k' := of_decide_eq_false k
    omega
instance : OrdD Str where
  anti a b h k := by
    have h' : ¬ a.cps.toList < b.cps.toList := of_decide_eq_false h
    have k' : ¬ b.cps.toList < a.cps.toList := of_decide_eq_false k
    exact str_ext (List.le_antisymm (List.not_lt.mp k') (List.not_lt.mp h'))
section
variable {α β γ : Type} [DecidableEq α] [OrdD α] [DecidableEq β] [OrdD β] [DecidableEq γ] [OrdD γ]
instance : OrdD (α × β) where
  anti p q h k := by
    have h' : (if p.1 = q.1 then DatumOrd.lt p.2 q.2 else DatumOrd.lt p.1 q.1) = false := h
    have k' : (if q.1 = p.1 then DatumOrd.lt q.2 p.2 else DatumOrd.lt q.1 p.1) = false := k
    by_cases e : p.1 = q.1
    · rw [if_pos e] at h'
      rw [if_pos e.symm] at k'
      exact Prod.ext e (OrdD.anti _ _ h' k')
    · rw [if_neg e] at h'
      rw [if_neg fun z => e z.symm] at k'
      exact absurd (OrdD.anti _ _ h' k') e
theorem listLt_anti : ∀ xs ys : List α, listLt xs ys = false → listLt ys xs = false → xs = ys
  | [], [], _, _ => rfl
  | [], _ :: _, h, _ => by simp [listLt] at h
  | _ :: _, [], _, h => by simp [listLt] at h
  | x :: xs, y :: ys, h, k => by
    simp only [listLt] at h k
    by_cases e : x = y
    · rw [if_pos e] at h
      rw [if_pos e.symm] at k
      rw [e, listLt_anti xs ys h k]
    · rw [if_neg e] at h
      rw [if_neg fun z => e z.symm] at k
      exact absurd (OrdD.anti _ _ h k) e
instance : OrdD (Tup α) where
  anti t u h k := by
    cases t
    cases u
    exact congrArg Tup.mk (listLt_anti _ _ h k)
/-- not above -/
def leO (a b : α) : Bool := !DatumOrd.lt b a
theorem leO_data (a b : α) : leO a b = dataLe false (Datum.toD (α := α)) a b := by
  rw [dataLe_eq]
  show (!DatumOrd.lt b a) = !dataLt (Datum.toD b) (Datum.toD a)
  rw [DatumOrd.lt_eq]
theorem leO_total : TotalLe (leO (α := α)) := by
  have e : (leO (α := α)) = dataLe false (Datum.toD (α := α)) := funext fun a => funext fun b => leO_data a b
  rw [e]
  exact sortLe_total _ _ _
theorem leO_anti {a b : α} (h : leO a b = true) (k : leO b a = true) : a = b := by
  unfold leO at h k
  rw [Bool.not_eq_true'] at h k
  exact OrdD.anti _ _ k h
theorem leO_trans {a b c : α} (h : leO a b = true) (k : leO b c = true) : leO a c = true := leO_total.trans _ _ _ h k
/-- sorted lists of the same items are one -/
theorem ord_one : ∀ {l l' : List α}, l.Perm l' → l.Pairwise (fun a b => leO a b = true) → l'.Pairwise (fun a b => leO a b = true) → l = l'
  | [], l', p, _, _ => (List.nil_perm.mp p).symm
  | x :: l, [], p, _, _ => by have := p.length_eq; simp at this
  | x :: l, y :: l', p, h, h' => by
    obtain ⟨h1, h2⟩ := List.pairwise_cons.mp h
    obtain ⟨k1, k2⟩ := List.pairwise_cons.mp h'
    have e : x = y := by
      rcases List.mem_cons.mp (p.mem_iff.mp (List.mem_cons_self (a := x) (l := l))) with e | m
      · exact e
      · rcases List.mem_cons.mp (p.mem_iff.mpr (List.mem_cons_self (a := y) (l := l'))) with e | m'
        · exact e.symm
        · exact leO_anti (h1 y m') (k1 x m)
    subst e
    rw [ord_one (List.Perm.cons_inv p) h2 k2]
/-- sorted(xs) -/
def sortO (xs : List α) : List α := xs.mergeSort leO
theorem sortO_perm (xs : List α) : (sortO xs).Perm xs := List.mergeSort_perm _ _
theorem sortO_pw (xs : List α) : (sortO xs).Pairwise (fun a b => leO a b = true) := sort_pairwise leO_total xs
theorem mem_sortO {x : α} {xs : List α} : x ∈ sortO xs ↔ x ∈ xs := (sortO_perm xs).mem_iff
theorem sortO_congr {xs ys : List α} (p : xs.Perm ys) : sortO xs = sortO ys := ord_one ((sortO_perm xs).trans (p.trans (sortO_perm ys).symm)) (sortO_pw xs) (sortO_pw ys)
theorem sortO_self {xs : List α} (h : xs.Pairwise (fun a b => leO a b = true)) : sortO xs = xs := ord_one (sortO_perm xs) (sortO_pw xs) h
/-- each once, in the order of first meeting -/
def onceO (xs : List α) : List α := xs.foldl (fun L x => if x ∈ L then L else L ++ [x]) []
theorem onceO_snoc (xs : List α) (x : α) : onceO (xs ++ [x]) = if x ∈ onceO xs then onceO xs else onceO xs ++ [x] := by
  unfold onceO
  rw [List.foldl_append]
  rfl
theorem onceO_len (xs : List α) : (onceO xs).length ≤ xs.length := by
  have gen : ∀ (ys L : List α), (ys.foldl (fun L x => if x ∈ L then L else L ++ [x]) L).length ≤ L.length + ys.length := by
    intro ys
    induction ys with
    | nil => intro L; exact Nat.le_refl _
    | cons y ys ih =>
      intro L
      refine Nat.le_trans (ih _) ?_
      rw [List.length_cons]
      show (if y ∈ L then L else L ++ [y]).length + _ ≤ _
      split
      · omega
      · rw [List.length_append, List.length_singleton]; omega
  exact Nat.le_trans (gen xs []) (by simp)
theorem mem_onceO {z : α} {xs : List α} : z ∈ onceO xs ↔ z ∈ xs := by
  have gen : ∀ (ys L : List α), z ∈ ys.foldl (fun L x => if x ∈ L then L else L ++ [x]) L ↔ z ∈ L ∨ z ∈ ys := by
    intro ys
    induction ys with
    | nil => intro L; simp
    | cons y ys ih =>
      intro L
      rw [List.foldl_cons, ih]
      split
      · rename_i hy
        rw [List.mem_cons]
        constructor
        · rintro (h | h)
          · exact .inl h
          · exact .inr (.inr h)
        · rintro (h | rfl | h)
          · exact .inl h
          · exact .inl hy
          · exact .inr h
      · rw [List.mem_append, List.mem_singleton, List.mem_cons, or_assoc]
  rw [onceO, gen]
  simp
theorem nodup_onceO (xs : List α) : (onceO xs).Nodup := by
  have gen : ∀ (ys L : List α), L.Nodup → (ys.foldl (fun L x => if x ∈ L then L else L ++ [x]) L).Nodup := by
    intro ys
    induction ys with
    | nil => intro L h; exact h
    | cons y ys ih =>
      intro L h
      refine ih _ ?_
      show (if y ∈ L then L else L ++ [y]).Nodup
      split
      · exact h
      · rename_i hy
        exact List.nodup_append.mpr ⟨h, List.nodup_cons.mpr ⟨by simp, List.nodup_nil⟩, fun a ha b hb e => hy (by rw [← List.mem_singleton.mp hb, ← e]; exact ha)⟩
  exact gen xs [] List.nodup_nil
/-- sorted(set(xs)) -/
def setO (xs : List α) : List α := sortO (onceO xs)
theorem mem_setO {z : α} {xs : List α} : z ∈ setO xs ↔ z ∈ xs := mem_sortO.trans mem_onceO
theorem nodup_setO (xs : List α) : (setO xs).Nodup := (sortO_perm _).nodup_iff.mpr (nodup_onceO xs)
theorem setO_pw (xs : List α) : (setO xs).Pairwise (fun a b => leO a b = true) := sortO_pw _
theorem setO_len (xs : List α) : (setO xs).length ≤ xs.length := by rw [setO, (sortO_perm _).length_eq]; exact onceO_len xs
theorem setO_is {xs ys : List α} (nd : ys.Nodup) (m : ∀ z, z ∈ ys ↔ z ∈ xs) (pw : ys.Pairwise (fun a b => leO a b = true)) : ys = setO xs :=
  ord_one ((List.perm_ext_iff_of_nodup nd (nodup_setO xs)).mpr fun z => (m z).trans mem_setO.symm) pw (setO_pw xs)
theorem setO_congr {xs ys : List α} (h : ∀ z, z ∈ xs ↔ z ∈ ys) : setO xs = setO ys := setO_is (nodup_setO xs) (fun z => mem_setO.trans (h z)) (setO_pw xs)
theorem setO_self {xs : List α} (nd : xs.Nodup) (pw : xs.Pairwise (fun a b => leO a b = true)) : setO xs = xs := (setO_is nd (fun _ => Iff.rfl) pw).symm
theorem setO_setO (xs : List α) : setO (setO xs) = setO xs := setO_self (nodup_setO xs) (setO_pw xs)
end
theorem leO_str (a b : Str) : leO a b = leS a b := by
  rw [Bool.eq_iff_iff, leS_iff]
  unfold leO
  show (!decide (b.cps.toList < a.cps.toList)) = true ↔ _
  rw [Bool.not_eq_true', decide_eq_false_iff_not, List.not_lt]
theorem onceO_str (zs : List Str) : onceO zs = firsts zs := rfl
theorem setO_str (zs : List Str) : setO zs = canon zs := (setO_is (nodup_canon zs) (fun _ => mem_canon) ((canon_pw zs).imp fun h => (leO_str _ _).trans h)).symm
/-! ### sorted(l) -/
section
variable {X : Cx} {α : Type} [DecidableEq α] [OrdD α]
/-- all are tuples with an item, or none is a tuple -/
class Srt (α : Type) [DecidableEq α] [Datum α] : Prop where
  ok : (∀ a : α, ∃ x r, Datum.toD a = .tuple (x :: r)) ∨ ∀ a : α, ∀ xs, Datum.toD a ≠ .tuple xs
instance : Srt Str := ⟨.inr fun a xs z => by cases z⟩
instance : Srt Int := ⟨.inr fun a xs z => by cases z⟩
instance {α β : Type} [DecidableEq α] [Datum α] [DecidableEq β] [Datum β] : Srt (α × β) := ⟨.inl fun a => ⟨_, _, rfl⟩⟩
theorem srt_all [Srt α] (xs : List α) : Sortable (xs.map Datum.toD) := by
  rcases Srt.ok (α := α) with h | h
  · exact .tuples h
  · exact .others fun b => ⟨DatumOrd.notNone b, h b⟩
def rSortA (K : PySem.W.Frag) (α : Type) [DecidableEq α] [OrdD α] : List V → Hp → VK → Prop := fun vs H Q => ∃ (a : Addr) (bs : List (V × α)), vs = [.ref a] ∧ SqL K H a (bs.map (·.1)) ∧ (∀ b ∈ bs, Dt K H b.1 b.2) ∧ bs.length ≤ 1000 ∧
  ∀ (cs : List (V × α)) (p : Addr), cs.Perm bs → cs.map (·.2) = sortO (bs.map (·.2)) → H p = none → Q (.ref p) (upd H p (.lst (cs.map (·.1))))
theorem small1k {n : Nat} (h : n ≤ 1000) : n ≤ sizeLine := Nat.le_trans h (by decide)
theorem each_rel : ∀ {bs : List (V × α)} {us : List Value}, Vals (bs.map (·.1)) us → EachIs (fun v (b : V × α) => RelV b.1 v) us bs
  | [], _, .nil => .nil
  | _ :: _, _, .cons h r => .cons h (each_rel r)
theorem rel_each : ∀ {bs : List (V × α)} {us : List Value}, EachIs (fun v (b : V × α) => RelV b.1 v) us bs → Vals (bs.map (·.1)) us
  | [], _, .nil => .nil
  | _ :: _, _, .cons h r => .cons h (rel_each r)
theorem cr_sortA [Srt α] (hu : X.A.units + 70 < cLine) (hz : Datum.depth α ≤ 60 := by decide) : CallR X (.builtin "sorted") (rSortA X.K α) := by
  intro pins s σ H vs us Q I r h
  obtain ⟨a, bs, rfl, hs, hd, hl, q⟩ := h
  obtain ⟨its, rv, pl, hz'⟩ := I.list hs
  rw [Vals.ref1 r]
  have e1 := each_rel rv
  have hal : AllAlike (bs.map fun b => Datum.toD b.2) := AllAlike.of fun b b' => DatumOrd.alike b.2 b'.2
  have hk : Sortable (bs.map fun b => Datum.toD b.2) := by
    have z := srt_all (bs.map (·.2))
    rw [List.map_map] at z
    exact z
  have er : EachIs (fun v (b : V × α) => ∃ as, Reads s.heap v (Datum.toD b.2) as) its bs := (each_mem e1).mono fun v b ⟨h1, h2⟩ => Dp.reads I _ b.1 v (hd b h2) h1
  refine sorted_data (enc := fun b : V × α => Datum.toD b.2) pl.isList e1 er hal hk (small1k hl) (fun b hb => by
    have := Datum.depth_le b.2
    omega) fun out hlo eo => ?_
  obtain ⟨ep, he'⟩ := PyProof.Rows.sortedAll_at s.heap its (List.toArray out)
  have pm : (bs.mergeSort (dataLe false fun b : V × α => Datum.toD b.2)).Perm bs := List.mergeSort_perm _ _
  have key : (bs.mergeSort (dataLe false fun b : V × α => Datum.toD b.2)).map (·.2) = sortO (bs.map (·.2)) := sort_maps (fun b : V × α => b.2) fun x _ y _ => (leO_data x.2 y.2).symm
  have vv := rel_each eo
  have hlen : ((bs.mergeSort (dataLe false fun b : V × α => Datum.toD b.2)).map (·.1)).length ≤ sizeLine := by rw [List.length_map, pm.length_eq]; exact small1k hl
  exact ⟨.ref _, upd H (s.heap.objs.size + 1) (.lst ((bs.mergeSort (dataLe false fun b : V × α => Datum.toD b.2)).map (·.1))), I.laid (t' := s.toks) (fun _ _ => PyProof.Rows.sortedAll_old) (Nat.le_succ _) ⟨hlen, out, ep, vv, by simpa using he'⟩, rfl, q _ _ pm key (I.hok.fresh (Nat.le_succ _))⟩
end
/-! ### set(l), sorted(the set) -/
/-- data that are keys -/
class DKey (α : Type) [DecidableEq α] [Datum α] where
  nk : α → NestedKey
  dat : ∀ x, (nk x).data = Datum.toD x
  dep : ∀ x, (nk x).depth ≤ Datum.depth α
instance : DKey Str := ⟨.text, fun _ => rfl, fun _ => Nat.le_refl _⟩
instance : DKey Int := ⟨.num, fun _ => rfl, fun _ => Nat.le_refl _⟩
instance {α β : Type} [DecidableEq α] [Datum α] [DKey α] [DecidableEq β] [Datum β] [DKey β] : DKey (α × β) where
  nk p := .tup [DKey.nk p.1, DKey.nk p.2]
  dat p := by
    simp only [NestedKey.data, NestedKey.datas, DKey.dat]
    rfl
  dep p := by
    simp only [NestedKey.depth, NestedKey.depthAll]
    have h1 := DKey.dep p.1
    have h2 := DKey.dep p.2
    show _ ≤ max (Datum.depth α) (Datum.depth β) + 1
    omega
mutual
theorem key_reads {h : Heap} : ∀ (k : NestedKey) (v : Value) (as : List Addr), Reads h v k.data as → NestedIs h k v
  | .none, v, as, r => by
    simp only [NestedKey.data] at r
    cases r
    exact .none
  | .num i, v, as, r => by
    simp only [NestedKey.data] at r
    cases r
    exact .int _ _
  | .text x, v, as, r => by
    simp only [NestedKey.data] at r
    cases r
    exact .text _ _
  | .tup ks, v, as, r => by
    simp only [NestedKey.data] at r
    cases r with
    | tuple h1 h2 h3 h4 => exact .tup h1 h2 h3 (keys_reads ks _ _ h4)
theorem keys_reads {h : Heap} : ∀ (ks : List NestedKey) (vs : List Value) (as : List Addr), ReadsAll h vs (NestedKey.datas ks) as → NestedAll h ks vs
  | [], v, as, r => by
    simp only [NestedKey.datas] at r
    cases r
    exact .nil
  | k :: ks, v, as, r => by
    simp only [NestedKey.datas] at r
    cases r with
    | cons h1 h2 => exact .cons (key_reads k _ _ h1) (keys_reads ks _ _ h2)
end
theorem nk_inj {α : Type} [DecidableEq α] [Datum α] [DKey α] {x y : α} (h : DKey.nk x = DKey.nk y) : x = y := by
  have e : Datum.toD x = Datum.toD y := by rw [← DKey.dat, ← DKey.dat, h]
  have z : PyData.eqv (Datum.toD x) (Datum.toD y) = true := by
    rw [← e, Datum.eqv]
    exact decide_eq_true rfl
  rw [Datum.eqv] at z
  exact of_decide_eq_true z
/-- all of a set of tuples but the tuples -/
def Kset (w : World) (h : Heap) (a : Addr) (L : List (Addr × NestedKey)) : Prop := ∃ (M : List (Addr × NestedKey)) (es : Array (Int × Value)) (ep : Nat) (t : SetTable), M.Perm L ∧ (∃ o, h.get? a = some o ∧ o.ExactSet ∧ o.data = .set es ep t) ∧ es.toList = M.map (fun q => (q.2.hash w, Value.ref q.1)) ∧ TabOk t (M.map fun q => q.2.hash w) ∧
  (w.params.followText "set-order" = true ∨ t.led = true) ∧ M.length * 5 < t.mask * 3 ∧ M.length < 64
theorem Kset.of {w : World} {h : Heap} {a : Addr} {L M : List (Addr × NestedKey)} {es : Array (Int × Value)} {ep : Nat} {t : SetTable} (R : Ks w h a M es ep t) (p : M.Perm L) : Kset w h a L := ⟨M, es, ep, t, p, R.obj, R.ent, R.tab, R.led, R.room, R.few⟩
/-- a set of tuples, tracked -/
def SetN (w : World) (a : Addr) (L : List (Addr × NestedKey)) : HO := .ext fun h => Kset w h a L
theorem setN_new {P : Program} {w : World} {H : Hp} {h : Heap} {a : Addr} {L : List (Addr × NestedKey)} (R : Kset w h a L) : ObjOk P w H h a (SetN w a L) := by
  have ⟨M, es, ep, t, p, ⟨o, ho, r⟩, r2⟩ := R
  exact ⟨R, ⟨o, ho⟩, fun h1 h2 z k => by
    obtain ⟨M, es, ep, t, p, ⟨o, ho, r⟩, r2⟩ := z
    exact ⟨M, es, ep, t, p, ⟨o, k o ho, r⟩, r2⟩⟩
section
variable {X : Cx} {α : Type} [DecidableEq α] [OrdD α] [DKey α]
theorem Dt.tk {pins : List (Addr × Obj)} {σ : St} {H : Hp} {s : Shared} {a : Addr} {x : α} (I : Inv X pins σ H s) (h : Dt X.K H (.ref a) x) (hz : Datum.depth α ≤ 8) : Tk s.heap (DKey.nk x) a := by
  obtain ⟨as, r⟩ := Dp.reads I _ (.ref a) (.ref a) h rfl
  rw [← DKey.dat] at r
  exact ⟨key_reads _ _ _ r, Nat.le_trans (DKey.dep x) hz⟩
abbrev nkz (z : Addr × α) : Addr × NestedKey := (z.1, DKey.nk z.2)
def rSetN (K : PySem.W.Frag) (w : World) (α : Type) [DecidableEq α] [OrdD α] [DKey α] : List V → Hp → VK → Prop := fun vs H Q => ∃ (l : Addr) (zs : List (Addr × α)), vs = [.ref l] ∧ SqL K H l (zs.map fun z => .ref z.1) ∧ (∀ z ∈ zs, Dt K H (.ref z.1) z.2) ∧ zs.length ≤ 60 ∧ ∀ p o, H p = none → o = SetN w p (firstsK (zs.map nkz)) → Q (.ref p) (upd H p o)
theorem vals_refz : ∀ {zs : List (Addr × α)} {us : List Value}, Vals (zs.map fun z => V.ref z.1) us → us = (zs.map nkz).map fun z => Value.ref z.1
  | [], _, .nil => rfl
  | z :: zs, _, .cons h r => by
    cases h
    rw [vals_refz r]
    rfl
theorem cr_setN (hc : X.calm = true) (hu : X.A.units + 20 < cLine) (hz : Datum.depth α ≤ 8 := by decide) : CallR X (.type "set") (rSetN X.K X.w α) := by
  intro pins s σ H vs us Q I r h
  obtain ⟨l, zs, rfl, hl, hd, hn, q⟩ := h
  rw [Vals.ref1 r]
  obtain ⟨its, rv, pl, _⟩ := I.list hl
  refine ks_list (zs.map nkz) (I.ok.hd hc) pl.isList (by simpa using vals_refz rv) (fun z hm => ?_) (by rw [List.length_map]; omega) (by omega) fun h' tk L es ep t R p k => ?_
  · obtain ⟨y, my, rfl⟩ := List.mem_map.mp hm
    exact Dt.tk I (hd y my) hz
  · exact ⟨.ref s.heap.objs.size, _, I.laid (t' := tk) k (Nat.le_refl _) (setN_new (Kset.of R p)), rfl, q _ _ (I.hok.fresh (Nat.le_refl _)) rfl⟩
theorem perm_back {α β : Type} (f : α → β) : ∀ (vs : List β) (L : List α), vs.Perm (L.map f) → ∃ M : List α, M.Perm L ∧ vs = M.map f
  | [], L, p => by
    have e : L.map f = [] := List.nil_perm.mp p
    exact ⟨[], by rw [List.map_eq_nil_iff.mp e], rfl⟩
  | v :: vs, L, p => by
    obtain ⟨x, mx, ex⟩ := List.mem_map.mp (p.mem_iff.mp (List.mem_cons_self (a := v) (l := vs)))
    obtain ⟨A, B, eL⟩ := List.append_of_mem mx
    subst eL ex
    have p2 : vs.Perm ((A ++ B).map f) := by
      refine List.Perm.cons_inv (a := f x) (p.trans ?_)
      rw [List.map_append, List.map_append, List.map_cons]
      exact List.perm_middle
    obtain ⟨M, h1, h2⟩ := perm_back f vs (A ++ B) p2
    exact ⟨x :: M, (h1.cons x).trans List.perm_middle.symm, by rw [List.map_cons, h2]⟩
/-- sorted(the set of zs): tuples of zs, one for each datum -/
def rSortN (K : PySem.W.Frag) (w : World) (α : Type) [DecidableEq α] [OrdD α] [DKey α] : List V → Hp → VK → Prop := fun vs H Q => ∃ (a : Addr) (zs : List (Addr × α)) (o : HO), vs = [.ref a] ∧ H a = some o ∧ o = SetN w a (firstsK (zs.map nkz)) ∧ (∀ z ∈ zs, Dt K H (.ref z.1) z.2) ∧ zs.length ≤ 60 ∧
  ∀ (cs : List (Addr × α)) (p : Addr), (∀ c ∈ cs, c ∈ zs) → cs.map (·.2) = setO (zs.map (·.2)) → H p = none → Q (.ref p) (upd H p (.lst (cs.map fun c => .ref c.1)))
theorem cr_sortN [Srt α] (hc : X.calm = true) (hu : X.A.units + 70 < cLine) (hz : Datum.depth α ≤ 8 := by decide) : CallR X (.builtin "sorted") (rSortN X.K X.w α) := by
  intro pins s σ H vs us Q I r h
  obtain ⟨a, zs, oS, rfl, ha, rfl, hd, hn, q⟩ := h
  obtain ⟨M, es, ep, t, pM, ⟨o, ho, hex, hdat⟩, ent, tab, led, room, few⟩ : Kset X.w s.heap a (firstsK (zs.map nkz)) := (I.hok a _ ha).1
  rw [Vals.ref1 r]
  -- the members, as data
  have back : ∀ L : List (Addr × NestedKey), (∀ z ∈ L, z ∈ zs.map nkz) → ∃ N : List (Addr × α), N.map nkz = L ∧ ∀ c ∈ N, c ∈ zs := by
    intro L
    induction L with
    | nil => exact fun _ => ⟨[], rfl, fun c hc => by cases hc⟩
    | cons z L ih =>
      intro hL
      obtain ⟨N, e, m⟩ := ih fun y hy => hL y (List.mem_cons_of_mem _ hy)
      obtain ⟨c, mc, ec⟩ := List.mem_map.mp (hL z List.mem_cons_self)
      refine ⟨c :: N, by rw [List.map_cons, e, ec], fun d hd' => ?_⟩
      rcases List.mem_cons.mp hd' with rfl | hd'
      · exact mc
      · exact m d hd'
  have size : es.size = M.length := by
    have z := congrArg List.length ent
    rw [Array.length_toList, List.length_map] at z
    exact z
  have fit : t.fits es.size = true := fits_of tab (by rw [List.length_map]; exact size) (by rw [size]; omega)
  refine Calls.call_function_entry kind_sorted plain_sorted entry_sorted (args_sorted1 _) ?_
  unfold Builtin.«sorted»
  refine wpAny_bind (m := checkCount "sorted" 1 1 _) (wpAny_pure ?_)
  refine wpAny_bind (collect_set (A := X.A.in1) (I.ok.hd hc) ⟨o, ho, hex.1, hdat⟩ fit (by rw [size]; unfold scanBound; omega) tab.ris led fun s1 vs k1 hz1 g1 o1 pm => ?_)
  have pv : vs.Perm (M.map fun z => Value.ref z.1) := by
    rw [ent, List.map_map] at pm
    exact pm
  obtain ⟨M1, p1, e1⟩ := perm_back _ vs M pv
  obtain ⟨N, eN, mN⟩ := back M1 fun z hm => firstsK_sub z (pM.mem_iff.mp (p1.mem_iff.mp hm))
  have evs : vs = N.map fun c => Value.ref c.1 := by
    rw [e1, ← eN, List.map_map]
    rfl
  have nl : N.length = M.length := by
    have z := congrArg List.length eN
    rw [List.length_map] at z
    rw [z, p1.length_eq]
  have vl : vs.length ≤ sizeLine := by rw [evs, List.length_map, nl, sizeLine_eq]; omega
  refine wpAny_bind (wpAny_newList ?_ vl)
  have oL : (s1.heap.push (seqObj "list" vs.toArray 0)).get? s1.heap.objs.size = some (seqObj "list" vs.toArray 0) := Heap.get?_push_size _ rfl
  -- they read as data
  have rd : ∀ c ∈ N, ∃ as, Reads s.heap (.ref c.1) (Datum.toD c.2) as := fun c hc' => Dp.reads I _ (.ref c.1) (.ref c.1) (hd c (mN c hc')) rfl
  have keep : ∀ b ob, s.heap.get? b = some ob → (sortingHeap (s1.heap.push (seqObj "list" vs.toArray 0)) s1.heap.objs.size vs).get? b = some ob := fun b ob e => by
    have e2 := k1 b ob e
    exact sortingHeap_old (Nat.ne_of_lt (Heap.lt_size e2)) (Heap.get?_push_of_some _ e2)
  have each : ∀ N' : List (Addr × α), (∀ c ∈ N', c ∈ N) → EachIs (fun v (c : Addr × α) => v = Value.ref c.1 ∧ ∃ as, Reads (sortingHeap (s1.heap.push (seqObj "list" vs.toArray 0)) s1.heap.objs.size vs) v (Datum.toD c.2) as) (N'.map fun c => Value.ref c.1) N' := by
    intro N'
    induction N' with
    | nil => exact fun _ => .nil
    | cons c N' ih =>
      intro hN
      obtain ⟨as, r1⟩ := rd c (hN c List.mem_cons_self)
      exact .cons ⟨rfl, as, PyProof.Rows.Reads.keeps keep r1⟩ (ih fun d hd' => hN d (List.mem_cons_of_mem _ hd'))
  have ea := each N fun _ h => h
  rw [← evs] at ea
  have hal : AllAlike (N.map fun c => Datum.toD c.2) := AllAlike.of fun b b' => DatumOrd.alike b.2 b'.2
  have hk : Sortable (N.map fun c => Datum.toD c.2) := by
    have z := srt_all (N.map (·.2))
    rw [List.map_map] at z
    exact z
  have er := ea.mono fun _ _ h => h.2
  have eref := ea.mono fun _ _ h => h.1
  refine wpAny_bind (wpAny_holding (wpAny_call_entry slot_list_sort ⟨_, oL, rfl⟩ entry_list_sort
    (list_sort_vals (s := { s1 with heap := s1.heap.push (seqObj "list" vs.toArray 0) }) (κ := dataKind (sortingHeap (s1.heap.push (seqObj "list" vs.toArray 0)) s1.heap.objs.size vs) (N.map fun c => Datum.toD c.2)) oL
      (SortsAt.data (s := { s1 with heap := sortingHeap (s1.heap.push (seqObj "list" vs.toArray 0)) s1.heap.objs.size vs }) (each_map (R := fun v d => ∃ as, Reads (sortingHeap (s1.heap.push (seqObj "list" vs.toArray 0)) s1.heap.objs.size vs) v d as) (fun c : Addr × α => Datum.toD c.2) er) hal hk (fun d hd' => by
        obtain ⟨c, _, rfl⟩ := List.mem_map.mp hd'
        have := Datum.depth_le c.2
        simp only [Around.in1_units]
        omega)) vl ⟨.none, rfl, ?_⟩) (args_list_sort _)))
  have out := sortVals_data (enc := fun c : Addr × α => Datum.toD c.2) false eref er hal
  have eout : sortVals (dataKind (sortingHeap (s1.heap.push (seqObj "list" vs.toArray 0)) s1.heap.objs.size vs) (N.map fun c => Datum.toD c.2)) false vs vs = (N.mergeSort (dataLe false fun c : Addr × α => Datum.toD c.2)).map fun c => Value.ref c.1 := by
    have gen : ∀ {us : List Value} {cs : List (Addr × α)}, EachIs (fun v (c : Addr × α) => v = Value.ref c.1) us cs → us = cs.map fun c => Value.ref c.1 := by
      intro us cs h
      induction h with
      | nil => rfl
      | cons h _ ih => rw [h, ih]; rfl
    exact gen out
  rw [eout]
  have pN : (N.mergeSort (dataLe false fun c : Addr × α => Datum.toD c.2)).Perm N := List.mergeSort_perm _ _
  have key : (N.mergeSort (dataLe false fun c : Addr × α => Datum.toD c.2)).map (·.2) = sortO (N.map (·.2)) := sort_maps (fun c : Addr × α => c.2) fun x _ y _ => (leO_data x.2 y.2).symm
  generalize N.mergeSort (dataLe false fun c : Addr × α => Datum.toD c.2) = cs at pN key
  obtain ⟨c1, hc1⟩ := sortedHeap_at (vs := vs) (out := (cs.map fun c => Value.ref c.1).toArray) oL
  have oldb : ∀ b u, s.heap.get? b = some u → (sortedHeap (s1.heap.push (seqObj "list" vs.toArray 0)) s1.heap.objs.size vs (cs.map fun c => Value.ref c.1).toArray).get? b = some u := fun b u e => by
    have z := k1 b u e
    have lt := Heap.lt_size z
    rw [sortedHeap_old (Nat.ne_of_lt lt) (by rw [size_push']; exact Nat.lt_succ_of_lt lt)]
    exact Heap.get?_push_of_some _ z
  have hnone : H s1.heap.objs.size = none := I.hok.fresh hz1
  have hlen : (cs.map fun c => V.ref c.1).length ≤ sizeLine := by rw [List.length_map, pN.length_eq, nl, sizeLine_eq]; omega
  have vv : Vals (cs.map fun c => V.ref c.1) (cs.map fun c => Value.ref c.1) := by
    have gen : ∀ cs : List (Addr × α), Vals (cs.map fun c => V.ref c.1) (cs.map fun c => Value.ref c.1) := by
      intro cs
      induction cs with
      | nil => exact .nil
      | cons c cs ih => exact .cons rfl ih
    exact gen cs
  have J : Inv X pins σ (upd H s1.heap.objs.size (.lst (cs.map fun c => V.ref c.1))) { s1 with heap := sortedHeap (s1.heap.push (seqObj "list" vs.toArray 0)) s1.heap.objs.size vs (cs.map fun c => Value.ref c.1).toArray } := by
    have J0 : Inv X pins σ (upd H s1.heap.objs.size (.lst (cs.map fun c => V.ref c.1))) { s with heap := sortedHeap (s1.heap.push (seqObj "list" vs.toArray 0)) s1.heap.objs.size vs (cs.map fun c => Value.ref c.1).toArray, gens := s1.gens, drawn := s1.drawn, toks := s1.toks } :=
      I.call (ch := []) (Un.laid oldb hz1 hnone) (I.hok.laid oldb hz1 ⟨hlen, cs.map fun c => Value.ref c.1, c1, vv, hc1⟩) (by rw [g1]; exact I.bare) (fun _ z => nomatch z)
    have e : ({ s1 with heap := sortedHeap (s1.heap.push (seqObj "list" vs.toArray 0)) s1.heap.objs.size vs (cs.map fun c => Value.ref c.1).toArray } : Shared) = { s with heap := sortedHeap (s1.heap.push (seqObj "list" vs.toArray 0)) s1.heap.objs.size vs (cs.map fun c => Value.ref c.1).toArray, gens := s1.gens, drawn := s1.drawn, toks := s1.toks } := by
      cases s1
      cases s
      cases o1
      rfl
    rw [e]
    exact J0
  refine wpAny_pure ⟨_, rfl, .ref s1.heap.objs.size, _, J, rfl, q cs _ (fun c hc' => mN c (pN.mem_iff.mp hc')) ?_ hnone⟩
  -- each once
  have ndN : (N.map (·.2)).Nodup := by
    have z : (M1.map (·.2)).Nodup := ((p1.trans pM).map (·.2)).nodup_iff.mpr (firstsK_nodup _)
    rw [← eN, List.map_map] at z
    have z2 : ((N.map (·.2)).map DKey.nk).Nodup := by
      rw [List.map_map]
      exact z
    exact List.Pairwise.of_map DKey.nk (fun _ _ hne e => hne (congrArg _ e)) z2
  have mem : ∀ x, x ∈ N.map (·.2) ↔ x ∈ zs.map (·.2) := fun x => by
    constructor
    · intro hx
      obtain ⟨c, hc', rfl⟩ := List.mem_map.mp hx
      exact List.mem_map.mpr ⟨c, mN c hc', rfl⟩
    · intro hx
      have hx2 : DKey.nk x ∈ (firstsK (zs.map nkz)).map (·.2) := firstsK_keys.mpr (by
        rw [List.map_map]
        obtain ⟨c, hc', rfl⟩ := List.mem_map.mp hx
        exact List.mem_map.mpr ⟨c, hc', rfl⟩)
      have hx3 : DKey.nk x ∈ M1.map (·.2) := ((p1.trans pM).map (·.2)).mem_iff.mpr hx2
      rw [← eN, List.map_map] at hx3
      obtain ⟨c, hc', e⟩ := List.mem_map.mp hx3
      have e' : DKey.nk c.2 = DKey.nk x := e
      exact List.mem_map.mpr ⟨c, hc', nk_inj e'⟩
  rw [key]
  exact setO_is ((sortO_perm _).nodup_iff.mpr ndN) (fun z => mem_sortO.trans (mem z)) (sortO_pw _)
end
end L2

/-! dict comprehensions for keys of any kind (HandS.DictComp has ints and texts) -/
namespace TfG2
open PySem PySem.Spec PyProof.Rows L2
/-- a kind of dict: the empty one, and what d[y] = z makes of a heap -/
structure Kd where
  e0 : HO
  put : Hp → Addr → V → V → Hp → Prop
/-- .. as the machine has it, with room for u units -/
structure KdOk (k : Kd) : Prop where
  new : ∀ {P : Program} {w : World} {H : Hp} (h : Heap), sysModules < h.objs.size → ObjOk P w H (h.push { cls := .type "dict", data := .dict #[] }) h.objs.size k.e0
  set : ∀ {Y : Cx} {pins : List (Addr × Obj)} {σ : L2.St} {H H' : Hp} {s : Shared} {E : Value → Shared → Prop} {d : Addr} {y z : V} {u r : Value} {Q : Unit → Shared → Prop}, Y.A.units + 1 < cLine → Inv Y pins σ H s → k.put H d y z H' → RelV y u → RelV z r →
    (∀ s', Inv Y pins σ H' s' → Q () s') → wpAny (model Y.prog Y.w) Y.A (dictSet d u r) Q E s
/-- keys: tuples of ints and texts -/
def kT : Kd := ⟨.dT [], fun H d y z H' => ∃ kvs k b, y = .ref b ∧ H d = some (.dT kvs) ∧ H b = some (.tup (k.map kV)) ∧ kvs.length < sizeLine ∧ H' = upd H d (.dT (putK kvs k z))⟩
theorem kT_ok : KdOk kT where
  new h hb := dt_empty h hb
  set := fun {Y pins σ H H' s E d y z u r Q} hu I g ry rz q => by
    obtain ⟨kvs, k, b, rfl, hd, hb, hl, rfl⟩ := g
    obtain rfl : u = Value.ref b := ry
    obtain ⟨z1, hs, xs, rel, dd⟩ := dt_of I.hok hd
    have l1 : xs.length ≤ sizeLine := by rw [← Paired.length rel]; exact z1
    have l2 : (putK kvs k z).length ≤ sizeLine := by have := length_putK kvs k z; omega
    refine wpAny_dictSet_heap (hsz := l1) (show Y.A.units < cLine by omega) (key_of I.hok hb) dd fun h' dd' sb => q _ ?_
    obtain ⟨o, es, ep, h1, h2, h3, h4, _, h5⟩ := dd'
    refine d_write I (by rw [hd]; exact True.intro) sb ⟨o, h1⟩ ⟨l2, hs, _, (rel.put k hb rz).keeps fun c ys ec => ?_, o, es, ep, h1, h2, h3, h4, h5⟩
    rw [upd_ne (ne_of ec hd (fun z => nomatch z))]
    exact ec
/-- {y: z for target in iter if ..}: D the new dict -/
def tDg (k : Kd) (wi : TI) (g : TG) (tt : TT) (tk tv : TE) (vs : List Nat) : TE := fun σ H Q => wi σ H fun J H1 => ∀ D, H1 D = none → ∃ W : Nat → Nat → Hp → Prop, (∃ m, W 0 m (upd H1 D k.e0)) ∧ ∀ i m H, W i m H →
  (J.stop i H ∧ Q (.ref D) H) ∨ (J.go i H ∧ ∃ Nx : Hp → Prop, (∀ H', Nx H' → ∃ m', m' < m ∧ W (i + 1) m' H') ∧ ∀ x H', J.yld i H x H' → g x (wipe σ vs) H' fun σ2 H2 => wipe σ2 vs = wipe σ vs ∧ tt σ2 H2 fun b H3 =>
    if b = true then tk σ2 H3 fun y H4 => tv σ2 H4 fun z H5 => ∃ H6, k.put H5 D y z H6 ∧ Nx H6 else Nx H3)
section
variable {X : Cx} {kx vx tg iter : Expr} {ifs : List Expr} {scope : Scope} {own : List (Str × Nat)} {pos : Pos} {wi : TI} {g : TG} {tt : TT} {tk tv : TE} {k : Kd}
/-- the block of the comprehension -/
abbrev Blk (X : Cx) (scope : Scope) (s : Shared) (H : Hp) (fp : List Addr) : Cx := X.blk s H scope (compEnvC scope (cellsFrom (s.heap.objs.size + 1) scope.names (cloFrom X.env.cells scope.names [])) s.heap.objs.size X.env) fp
theorem blk_fp {s : Shared} {H H' : Hp} {fp : List Addr} {σ' : L2.St} {s' : Shared} (I : Inv (Blk X scope s H fp) [] σ' H' s') (n : ∀ b ∈ fp, H' b = none) : ∀ b ∈ fp, FpOk (Blk X scope s H fp) [] H' b := fun b hb =>
  ⟨n b hb, (I.ok.exf b hb).1, I.ok.exfs b hb, .inl hb, fun x c e => (I.ok.exf b hb).2 x c e, fun p hp => absurd (show p ∈ ([] : List (Addr × Obj)) ++ [] from hp) (by simp)⟩
/-- one item is taken -/
theorem turn_go {J : It} {fp : List Addr} {it D : Addr} {tn : Nat → Heap → Prop} {s0 s : Shared} {H0 H : Hp} {σ : L2.St} {i : Nat} {Nx : Hp → Prop} {E : Value → Shared → Prop} {G : Shared → Prop} (ok : KdOk k) (hu : X.A.units + 1 < cLine) (hc : X.calm = true)
    (T : Turn X.prog X.w X.K tg J fp it tn) (pg : PG (Blk X scope s0 H0 fp) tg g) (pt : PTs (Blk X scope s0 H0 fp) ifs tt) (pk : PE (Blk X scope s0 H0 fp) kx tk) (pv : PE (Blk X scope s0 H0 fp) vx tv)
    (I : Inv (Blk X scope s0 H0 fp) [] (wipe σ (own.map (·.2))) H s) (st : tn i s.heap) (nf : ∀ b ∈ fp, H b = none) (go : J.go i H)
    (step : ∀ x H', J.yld i H x H' → g x (wipe σ (own.map (·.2))) H' fun σ2 H2 => wipe σ2 (own.map (·.2)) = wipe σ (own.map (·.2)) ∧ tt σ2 H2 fun b H3 => if b = true then tk σ2 H3 fun y H4 => tv σ2 H4 fun z H5 => ∃ H6, k.put H5 D y z H6 ∧ Nx H6 else Nx H3)
    (fin : ∀ s' H', Inv (Blk X scope s0 H0 fp) [] (wipe σ (own.map (·.2))) H' s' → tn (i + 1) s'.heap → (∀ b ∈ fp, H' b = none) → Nx H' → G s') :
    wpAny (model X.prog X.w) X.A (pyNext (.ref it)) (fun r s₁ => ∃ v, r = some v ∧ wpAny (model X.prog X.w) X.A (letOwnedTupleGo tg (.ref it) v) (fun _ s₂ => wpAny (model X.prog X.w) X.A (assign tg (Blk X scope s0 H0 fp).env v) (fun _ s₃ =>
      wpAny (model X.prog X.w) X.A (forIn ifs true fun c r => if r = true then do let ok ← isTrue c (Blk X scope s0 H0 fp).env (eval c (Blk X scope s0 H0 fp).env); pure (ForInStep.yield ok) else pure (ForInStep.yield r)) (fun b s₄ =>
        if b = true then wpAny (model X.prog X.w) X.A (eval kx (Blk X scope s0 H0 fp).env) (fun y s₅ => wpAny (model X.prog X.w) X.A (eval vx (Blk X scope s0 H0 fp).env) (fun z s₆ => wpAny (model X.prog X.w) X.A (dictSet D y z) (fun _ s₇ => G s₇) E s₆) E s₅) E s₄ else G s₄) E s₃) E s₂) E s₁) E s := by
  refine thnF (T.item (Blk X scope s0 H0 fp) rfl rfl rfl hc i [] s _ H (fun _ _ => False) I (blk_fp I nf) st go) fun r s1 ⟨u, e, h1⟩ => ⟨u, e, ?_⟩
  refine thnF h1 fun _ s2 ⟨x, H2, I2, rx, y2, st2, n2⟩ => ?_
  have P2 := I2.pinned (blk_fp I2 n2) (T.obj _ _ st2)
  refine thnF (pg.run _ s2 _ H2 x u _ P2 rx (step x H2 y2)) fun _ s3 ⟨σ3, H3, I3, w3, q3⟩ => ?_
  refine thnF (pt.run _ s3 σ3 H3 _ I3 q3) fun b s4 ⟨H4, I4, q4⟩ => ?_
  have leave : ∀ {s' : Shared} {H' : Hp}, Inv (Blk X scope s0 H0 fp) ([] ++ pinsAt fp s2.heap) σ3 H' s' → Nx H' → G s' := fun {s' H'} I' nx => by
    have pin : ∀ b ∈ fp, ∀ o, s2.heap.get? b = some o → s'.heap.get? b = some o ∧ H' b = none := fun b hb o e =>
      have z := I'.pin (b, o) (List.mem_append_right _ (List.mem_append_right _ (mem_pinsAt hb e)))
      ⟨z.1, z.2.1⟩
    refine fin s' H' ((I'.unpinned (pins := [])).weak (by rw [← w3, wipe_length]) fun j v e => ?_) (T.keep _ _ _ st2 fun b hb o e => (pin b hb o e).1) (fun b hb => ?_) nx
    · rw [← w3] at e
      exact (wipe_some e).1
    · obtain ⟨o, e, _⟩ := T.obj _ _ st2 b hb
      exact (pin b hb o e).2
  cases b with
  | false =>
    rw [if_neg Bool.false_ne_true] at q4 ⊢
    exact leave I4 q4
  | true =>
    rw [if_pos rfl] at q4 ⊢
    refine thnF (pk.run _ s4 σ3 H4 _ I4 q4) fun _ s5 ⟨y, H5, I5, r5, q5⟩ => ?_
    refine thnF (pv.run _ s5 σ3 H5 _ I5 q5) fun _ s6 ⟨z, H6, I6, r6, H7, q6, nx⟩ => ?_
    exact ok.set (Y := Blk X scope s0 H0 fp) hu I6 q6 r5 r6 fun s7 I7 => leave I7 nx
theorem pe_dg (ok : KdOk k) (hu : X.A.units + 1 < cLine) (hc : X.calm = true) (hN : X.N.Nodup) (hi : PI X tg iter wi) (bo : BlkOk X.N X.env.scope scope own)
    (hg : ∀ (s : Shared) (H : Hp) (C : Addr) (cl : List (Str × Addr)) (fp : List Addr), PG (X.blk s H scope (compEnvC scope cl C X.env) fp) tg g)
    (ht : ∀ (s : Shared) (H : Hp) (C : Addr) (cl : List (Str × Addr)) (fp : List Addr), PTs (X.blk s H scope (compEnvC scope cl C X.env) fp) ifs tt)
    (hk : ∀ (s : Shared) (H : Hp) (C : Addr) (cl : List (Str × Addr)) (fp : List Addr), PE (X.blk s H scope (compEnvC scope cl C X.env) fp) kx tk)
    (hv : ∀ (s : Shared) (H : Hp) (C : Addr) (cl : List (Str × Addr)) (fp : List Addr), PE (X.blk s H scope (compEnvC scope cl C X.env) fp) vx tv)
    (hs : ∀ x, foldedSetIterable iter X.env x = pure x := by intro _; rfl) : PE X (.DictComp kx vx [⟨tg, iter, ifs, 0⟩] scope pos) (tDg k wi g tt tk tv (own.map (·.2))) := by
  refine ⟨fun pins s σ H Q I h => ?_⟩
  rw [arm_eval_DictComp]
  have cells : ∀ y ∈ scope.names, y.2 = .free → ∃ c, X.env.cells.lookup y.1 = some c := fun y hy e => (bo.free y hy e).elim (fun z => I.ok.has _ (.inl z)) fun z => I.ok.has _ (.inr z)
  refine wpAny_comprehension_free (use := none) rfl hs (closure_ok cells) bo.kind (fun y hy e => by rw [bo.uniq y hy, e]) (thn (hi.run pins s σ H _ I h) fun _ s1 hx => thn hx fun _ s2 h2 => ?_)
  obtain ⟨it, fp, tn, J, H2, rfl, I2, T, st2, f2, q⟩ := h2
  refine wpAny_newObj_type (newEnv_comp ?_)
  obtain ⟨W, ⟨m0, w0⟩, turn⟩ := q s2.heap.objs.size (I2.hok.fresh (Nat.le_refl _))
  have I3 : Inv X pins σ (upd H2 s2.heap.objs.size k.e0) { s2 with heap := s2.heap.push { cls := .type "dict", data := .dict #[] } } := I2.laid (t' := s2.toks) (fun b o e => Heap.get?_push_of_some _ e) (Nat.le_refl _) (ok.new s2.heap I2.big)
  have low : ∀ b ∈ fp, b < s2.heap.objs.size := fun b hb => let ⟨_, e, _⟩ := T.obj _ _ st2 b hb; Heap.lt_size e
  have f3 : ∀ b ∈ fp, FpOk X pins (upd H2 s2.heap.objs.size k.e0) b ∧ b < (s2.heap.push { cls := .type "dict", data := .dict #[] }).objs.size := fun b hb =>
    ⟨⟨by rw [upd_ne (Nat.ne_of_lt (low b hb))]; exact (f2 b hb).1, (f2 b hb).2⟩, by rw [Heap.size_push]; exact Nat.lt_succ_of_lt (low b hb)⟩
  have st3 : tn 0 (s2.heap.push { cls := .type "dict", data := .dict #[] }) := T.keep _ _ _ st2 fun b _ o e => Heap.get?_push_of_some _ e
  generalize s2.heap.objs.size = D at w0 turn I3 f3 ⊢
  generalize upd H2 D k.e0 = H3 at w0 I3 f3
  generalize hs3 : ({ s2 with heap := s2.heap.push { cls := .type "dict", data := .dict #[] } } : Shared) = s3 at I3 f3 st3 ⊢
  have I4 := block_start (fp := fp) I3 bo hN (by rw [← hs3]; exact f3)
  have st4 : tn 0 (pushCells (s3.heap.push { cls := .type "dict", data := .dict #[] }) scope.names) := T.keep _ _ _ (by rw [← hs3]; exact st3) fun b _ o e => pushCells_keeps _ _ _ _ (Heap.get?_push_of_some _ e)
  have loop : codeAny (model X.prog X.w) X.A (.compLoop (.DictComp kx vx [⟨tg, iter, ifs, 0⟩] scope pos) 0 (.ref it) (.ref D) (Blk X scope s3 H3 fp).env) (compPost (model X.prog X.w) X.A X.xe none (EP X pins σ Q) (.ref D) s3.heap.objs.size) { s3 with heap := pushCells (s3.heap.push { cls := .type "dict", data := .dict #[] }) scope.names } := by
    refine compLoop_anyD (fun n s' => ∃ i H', Inv (Blk X scope s3 H3 fp) [] (wipe σ (own.map (·.2))) H' s' ∧ tn i s'.heap ∧ (∀ b ∈ fp, H' b = none) ∧ W i n H') ?_ m0 ⟨0, H3, I4, st4, fun b hb => (f3 b hb).1.1, w0⟩
    rintro n s5 ⟨i, H5, I5, st5, n5, w5⟩
    rcases turn i n H5 w5 with ⟨stop, qq⟩ | ⟨go, Nx, hNx, step⟩
    · refine thnF (T.done (Blk X scope s3 H3 fp) rfl rfl rfl hc i [] s5 _ H5 (fun _ _ => False) I5 (blk_fp I5 n5) st5 stop) fun r s6 ⟨er, I6⟩ => ?_
      subst er
      have I7 : Inv X pins σ H5 s6 := I3.call' (ch := fp) I6.os I6.base I6.hok I6.bare fun b hb => ⟨(f3 b hb).1.2.2.2.1, (f3 b hb).1.2.1, (f3 b hb).1.2.2.2.2.1, (f3 b hb).1.2.2.2.2.2⟩
      have nC : H5 s3.heap.objs.size = none := I6.free
      obtain ⟨m, hn, _⟩ := I6.loc
      obtain ⟨c0, c1, c2, c3, c4, c5⟩ := I3.fpOk (Nat.le_refl _) nC
      exact ⟨m, hn, fun h'' sb => ⟨.ref D, H5, I7.turned (t' := s6.toks) (fun b o hb e => (sb.2 b hb).trans e) c0 c1 c3 c4 c5, rfl, qq⟩⟩
    · refine wpAny_mono (turn_go (G := fun s' => ∃ m, m < n ∧ ∃ i H', Inv (Blk X scope s3 H3 fp) [] (wipe σ (own.map (·.2))) H' s' ∧ tn i s'.heap ∧ (∀ b ∈ fp, H' b = none) ∧ W i m H') ok hu hc T (hg ..) (ht ..) (hk ..) (hv ..) I5 st5 n5 go step fun s' H' I' st' n' nx => ?_) (fun r s6 ⟨v, er, z⟩ => ?_) fun _ _ z => z
      · obtain ⟨m', hm, w'⟩ := hNx H' nx
        exact ⟨m', hm, i + 1, H', I', st', n', w'⟩
      · subst er
        exact z
  exact codeAny_compStart_dict loop (T.self X.A 0 _ _ _ st4 loop)
end
end TfG2

/-! defs by their names; what stays while lists change and dicts are locked; tuples that are tracked -/
namespace L2
open PySem PySem.Spec PyProof.Rows PySem.W PySem.SeqAt
/-- a def that does not raise, by its name -/
def CdN (P : Program) (w : World) (K : PySem.W.Frag) (mg : Str → Option Value) (base : Heap) (k : Nat) (x : Str) (ps : List Str) (sp : Sp) : Prop := ∃ (f : Addr) (fd : FuncData), FnOk P w K mg base CX0 k f fd ps sp ∧ Binds K fd ps [] ∧ mg x = some (.ref f) ∧ PySem.W.keepIn K (.ref f) = true
theorem CdN.imp {P : Program} {w : World} {K : PySem.W.Frag} {mg : Str → Option Value} {base : Heap} {k : Nat} {x : Str} {ps : List Str} {sp sp' : Sp} (h : CdN P w K mg base k x ps sp) (i : ∀ vs H Q E, sp' vs H Q E → sp vs H Q E) : CdN P w K mg base k x ps sp' := by
  obtain ⟨f, fd, G, r⟩ := h
  exact ⟨f, fd, G.imp i, r⟩
theorem pe_cdn {X : Cx} {k : Nat} {x : Str} {ps : List Str} {sp : Sp} {e : Expr} {es : List Expr} {t : TA} {p pos : Pos} (F : CdN X.prog X.w X.K X.mg X.base k x ps sp) (hr : Room k X.A) (ha : PA X (e :: es) t) (hg : Gl X x := by rfl) (hdb : (x == ("__debug__" : Str)) = false := by decide)
    (he : starEach (e :: es) X.env = (false, eval e X.env) :: starEach es X.env := by rfl) (hpl : (backTo pos (starEach es X.env)).any (·.1) = false := by rfl) : PE X (.Call (.Name x p) (e :: es) [] pos) (tCall sp [] E0 t) := by
  obtain ⟨f, fd, G, b, g, kp⟩ := F
  exact pe_call G hr hg g kp b .nil pass0 ha hdb he hpl
/-- a method that does not raise, of the class at C -/
def MtN (P : Program) (w : World) (K : PySem.W.Frag) (mg : Str → Option Value) (base : Heap) (k : Nat) (C : Addr) (m : Str) (ps : List Str) (sp : Sp) : Prop := ∃ (f : Addr) (fd : FuncData), FnOk P w K mg base CX0 k f fd ps sp ∧ Binds K fd ps [] ∧ Meth K C m f
/-- a property -/
def PpN (P : Program) (w : World) (K : PySem.W.Frag) (mg : Str → Option Value) (base : Heap) (k : Nat) (C : Addr) (m : Str) (sp : Sp) : Prop := ∃ (p f : Addr) (fd : FuncData), FnOk P w K mg base CX0 k f fd ["self"] sp ∧ Binds K fd ["self"] [] ∧ PropOf K C m p f
/-- a special method -/
def OwN (P : Program) (w : World) (K : PySem.W.Frag) (mg : Str → Option Value) (base : Heap) (k : Nat) (C : Addr) (m : Str) (sp : Sp) : Prop := ∃ f : Addr, FnR P w K mg base CX0 k f sp ∧ OwnM K C m f
/-- a class method of the class at C -/
def CmN (P : Program) (w : World) (K : PySem.W.Frag) (mg : Str → Option Value) (base : Heap) (k : Nat) (C : Addr) (m : Str) (sp : Sp) : Prop := ∃ (mc : Value) (p g : Addr), ClX.CRead K C mc ∧ ClX.CMet K C mc m p g ∧ FnR P w K mg base CX0 k g sp
section
variable {X : Cx} {k : Nat} {C : Addr} {m : Str} {ps : List Str} {sp : Sp} {o e : Expr} {es : List Expr} {ta : TE} {t : TA} {apos pos : Pos}
theorem pe_mtn {pl : Sem Bool} (c : Cls X.K C) (F : MtN X.prog X.w X.K X.mg X.base k C m ps sp) (hr : Room k X.A) (he : PE X o ta) (ha : PA X (e :: es) t)
    (hst : starEach (e :: es) X.env = (false, eval e X.env) :: starEach es X.env := by rfl) (hpl : (backTo pos (starEach es X.env)).any (·.1) = false := by rfl)
    (ht : eval (.Call (.Attribute o m apos) (e :: es) [] pos) X.env = (do
      let ov ← eval o X.env
      standAt apos.atName
      let (f, first) ← holding [ov] (getMethod ov m pl)
      callWith pos f first (backTo pos (starEach (e :: es) X.env)) (backToKw pos (keywordEach [] X.env))) := by rfl) : PE X (.Call (.Attribute o m apos) (e :: es) [] pos) (tMeth C m sp [] E0 ta t) := by
  obtain ⟨f, fd, G, b, M⟩ := F
  exact pe_meth he c M G hr b .nil pass0 ha hst hpl ht
theorem pe_ppn (c : Cls X.K C) (F : PpN X.prog X.w X.K X.mg X.base k C m sp) (hr : Room (k + 1) X.A) (he : PE X o ta) (hab : attributeBase o m X.env (eval o X.env) = eval o X.env := by rfl) : PE X (.Attribute o m pos) (tProp C sp [] E0 ta) := by
  obtain ⟨p, f, fd, G, b, M⟩ := F
  exact pe_prop he c M G hr b .nil pass0 hab
end
/-! ### what stays -/
/-- tuples and instances -/
def Stays (o : HO) : Prop := (∃ xs, o = .tup xs) ∨ ∃ C dx fs, o = .ins C dx fs
/-- tuples and instances stay, and dicts can be read as before -/
structure Kq (H H' : Hp) : Prop where
  st : ∀ b o, Stays o → H b = some o → H' b = some o
  dk : ∀ b kvs, Rd H b (.dK kvs) → Rd H' b (.dK kvs)
theorem Kq.refl (H : Hp) : Kq H H := ⟨fun _ _ _ h => h, fun _ _ h => h⟩
theorem Kq.trans {H H1 H2 : Hp} (a : Kq H H1) (b : Kq H1 H2) : Kq H H2 := ⟨fun c o n h => b.st c o n (a.st c o n h), fun c o h => b.dk c o (a.dk c o h)⟩
theorem Same.kq {H H' : Hp} (s : Same H H') : Kq H H' := ⟨fun b o _ h => s b o h, fun b o h => s.le.dk h⟩
theorem Kq.lock {H : Hp} {d : Addr} {kvs : List (Key × V)} {od : Obj} (h : H d = some (.dK kvs)) : Kq H (upd H d (.frz od (.dK kvs))) := by
  refine ⟨fun b o s e => ?_, fun b ks r => (Le.lock h trivial).dk r⟩
  rw [upd_ne]
  · exact e
  · rintro rfl
    rw [h] at e
    cases e
    rcases s with ⟨xs, z⟩ | ⟨_, _, _, z⟩ <;> cases z
theorem Kq.unlock {H : Hp} {d : Addr} {kvs : List (Key × V)} {od : Obj} (h : H d = some (.frz od (.dK kvs))) : Kq H (upd H d (.dK kvs)) := by
  refine ⟨fun b o s e => ?_, fun b ks r => ?_⟩
  · rw [upd_ne]
    · exact e
    · rintro rfl
      rw [h] at e
      cases e
      rcases s with ⟨xs, z⟩ | ⟨_, _, _, z⟩ <;> cases z
  · by_cases c : b = d
    · subst c
      rcases r with r | ⟨q, r⟩
      · rw [h] at r; cases r
      · rw [h] at r
        cases r
        exact .inl upd_same
    · rcases r with r | ⟨q, r⟩
      · exact .inl (by rw [upd_ne c]; exact r)
      · exact .inr ⟨q, by rw [upd_ne c]; exact r⟩
/-- a list may change -/
theorem Kq.lst {H : Hp} {d : Addr} {xs : List V} {o : HO} (h : H d = some (.lst xs)) : Kq H (upd H d o) := by
  refine ⟨fun b u s e => ?_, fun b ks r => ?_⟩
  · rw [upd_ne]
    · exact e
    · rintro rfl
      rw [h] at e
      cases e
      rcases s with ⟨xs, z⟩ | ⟨_, _, _, z⟩ <;> cases z
  · have c : b ≠ d := by
      rintro rfl
      rcases r with r | ⟨q, r⟩ <;> (rw [h] at r; cases r)
    rcases r with r | ⟨q, r⟩
    · exact .inl (by rw [upd_ne c]; exact r)
    · exact .inr ⟨q, by rw [upd_ne c]; exact r⟩
theorem Nr.kq {d : Addr} {H H' : Hp} (n : Nr d H H') (h : Dice H d) : Kq H H' := by
  obtain ⟨a, b, c, _, e⟩ := h
  refine ⟨fun x u s z => n x u (fun q => ?_) z, fun x ks r => ?_⟩
  · subst q
    rw [e] at z
    cases z
    rcases s with ⟨xs, z⟩ | ⟨_, _, _, z⟩ <;> cases z
  · have ne : x ≠ d := by
      rintro rfl
      rcases r with r | ⟨q, r⟩ <;> (rw [e] at r; cases r)
    rcases r with r | ⟨q, r⟩
    · exact .inl (n _ _ ne r)
    · exact .inr ⟨q, n _ _ ne r⟩
/-- what a dict holds may change, where nobody looks: d was not there before -/
theorem Kq.new {H0 H : Hp} {d : Addr} {o : HO} (k : Kq H0 H) (h : H0 d = none) : Kq H0 (upd H d o) := by
  refine ⟨fun b u s e => ?_, fun b ks r => ?_⟩
  · rw [upd_ne (ne_of_none e h)]
    exact k.st b u s e
  · have ne : b ≠ d := by
      rintro rfl
      rcases r with r | ⟨q, r⟩ <;> (rw [h] at r; cases r)
    rcases k.dk b ks r with r | ⟨q, r⟩
    · exact .inl (by rw [upd_ne ne]; exact r)
    · exact .inr ⟨q, by rw [upd_ne ne]; exact r⟩
theorem Kq.tup {H H' : Hp} (k : Kq H H') {a : Addr} {xs : List V} (h : H a = some (.tup xs)) : H' a = some (.tup xs) := k.st _ _ (.inl ⟨_, rfl⟩) h
theorem Kq.ins {H H' : Hp} (k : Kq H H') {a C dx : Addr} {fs : List (Str × V)} (h : H a = some (.ins C dx fs)) : H' a = some (.ins C dx fs) := k.st _ _ (.inr ⟨_, _, _, rfl⟩) h
/-! ### data of tracked tuples -/
mutual
inductive Tr (H : Hp) : V → PyData → Prop
  | non : Tr H .non .none
  | bl (b : Bool) : Tr H (.bl b) (.bool b)
  | int (i : Int) : Tr H (.int i) (.int i)
  | str (x : Str) : Tr H (.str x) (.str x)
  | tup {a : Addr} {xs : List V} {ds : List PyData} : H a = some (.tup xs) → TrAll H xs ds → Tr H (.ref a) (.tuple ds)
inductive TrAll (H : Hp) : List V → List PyData → Prop
  | nil : TrAll H [] []
  | cons {v : V} {vs : List V} {d : PyData} {ds : List PyData} : Tr H v d → TrAll H vs ds → TrAll H (v :: vs) (d :: ds)
end
/-- tuples stay -/
def Kt (H H' : Hp) : Prop := ∀ b xs, H b = some (.tup xs) → H' b = some (.tup xs)
theorem Kt.trans {H H1 H2 : Hp} (a : Kt H H1) (b : Kt H1 H2) : Kt H H2 := fun c xs h => b c xs (a c xs h)
theorem Kq.kt {H H' : Hp} (k : Kq H H') : Kt H H' := fun _ _ h => k.tup h
/-- a dict may change -/
theorem kt_dk {H : Hp} {d : Addr} {kvs : List (Key × V)} {o : HO} (h : H d = some (.dK kvs)) : Kt H (upd H d o) := fun b xs e => by
  rw [upd_ne]
  · exact e
  · rintro rfl
    rw [h] at e
    cases e
mutual
theorem Tr.kt {H H' : Hp} (k : Kt H H') : ∀ {v : V} {d : PyData}, Tr H v d → Tr H' v d
  | _, _, .non => .non
  | _, _, .bl b => .bl b
  | _, _, .int i => .int i
  | _, _, .str z => .str z
  | _, _, .tup h r => .tup (k _ _ h) (TrAll.kt k r)
theorem TrAll.kt {H H' : Hp} (k : Kt H H') : ∀ {xs : List V} {ds : List PyData}, TrAll H xs ds → TrAll H' xs ds
  | _, _, .nil => .nil
  | _, _, .cons h r => .cons (Tr.kt k h) (TrAll.kt k r)
end
mutual
theorem Tr.kq {H H' : Hp} (k : Kq H H') : ∀ {v : V} {d : PyData}, Tr H v d → Tr H' v d
  | _, _, .non => .non
  | _, _, .bl b => .bl b
  | _, _, .int i => .int i
  | _, _, .str z => .str z
  | _, _, .tup h r => .tup (k.tup h) (TrAll.kq k r)
theorem TrAll.kq {H H' : Hp} (k : Kq H H') : ∀ {xs : List V} {ds : List PyData}, TrAll H xs ds → TrAll H' xs ds
  | _, _, .nil => .nil
  | _, _, .cons h r => .cons (Tr.kq k h) (TrAll.kq k r)
end
mutual
theorem Tr.dp {K : PySem.W.Frag} {H : Hp} : ∀ {v : V} {d : PyData}, Tr H v d → Dp K H v d
  | _, _, .non => .non
  | _, _, .bl b => .bl b
  | _, _, .int i => .int i
  | _, _, .str z => .str z
  | _, _, .tup h r => .tup (tup_of h) (TrAll.dp r)
theorem TrAll.dp {K : PySem.W.Frag} {H : Hp} : ∀ {xs : List V} {ds : List PyData}, TrAll H xs ds → DpAll K H xs ds
  | _, _, .nil => .nil
  | _, _, .cons h r => .cons (Tr.dp h) (TrAll.dp r)
end
/-- v, of tracked tuples, stands for x -/
def Tt {α : Type} [DecidableEq α] [Datum α] (H : Hp) (v : V) (x : α) : Prop := Tr H v (Datum.toD x)
abbrev Tts {α : Type} [DecidableEq α] [Datum α] (H : Hp) (vs : List V) (xs : List α) : Prop := Paired (Tt H) vs xs
section
variable {α β : Type} [DecidableEq α] [Datum α] [DecidableEq β] [Datum β] {K : PySem.W.Frag} {H H' : Hp}
theorem Tt.dt {v : V} {x : α} (h : Tt H v x) : Dt K H v x := Tr.dp h
theorem Tt.kq {v : V} {x : α} (h : Tt H v x) (k : Kq H H') : Tt H' v x := Tr.kq k h
theorem Tt.kt {v : V} {x : α} (h : Tt H v x) (k : Kt H H') : Tt H' v x := Tr.kt k h
theorem Tts.kq {vs : List V} {xs : List α} (h : Tts H vs xs) (k : Kq H H') : Tts H' vs xs := Paired.mapP h fun _ _ d => Tt.kq d k
theorem Tts.dts {vs : List V} {xs : List α} (h : Tts H vs xs) : Dts K H vs xs := Paired.mapP h fun _ _ d => Tt.dt d
theorem Tts.all : ∀ {vs : List V} {xs : List α}, Tts H vs xs → TrAll H vs (xs.map Datum.toD)
  | _, _, .nil => .nil
  | _, _, .cons h r => .cons h (Tts.all r)
theorem Tts.of_all : ∀ {vs : List V} {xs : List α}, TrAll H vs (xs.map Datum.toD) → Tts H vs xs
  | [], [], _ => .nil
  | [], _ :: _, h => by cases h
  | _ :: _, [], h => by cases h
  | _ :: _, _ :: _, .cons h r => .cons h (Tts.of_all r)
theorem tt_tup {a : Addr} {vs : List V} {xs : List α} (h : H a = some (.tup vs)) (r : Tts H vs xs) : Tt H (.ref a) (Tup.mk xs) := .tup h r.all
theorem tt_pair {a : Addr} {v u : V} {x : α} {y : β} (h : H a = some (.tup [v, u])) (r : Tt H v x) (q : Tt H u y) : Tt H (.ref a) (x, y) := .tup h (.cons r (.cons q .nil))
theorem tt_str {z : Str} : Tt H (.str z) z := .str z
theorem tts_strs : ∀ zs : List Str, Tts H (zs.map V.str) zs
  | [] => .nil
  | z :: zs => .cons tt_str (tts_strs zs)
theorem Tt.str {v : V} {z : Str} (h : Tt H v z) : v = .str z := by
  have h' : Tr H v (.str z) := h
  cases h'
  rfl
theorem Tt.pair {v : V} {p : α × β} (h : Tt H v p) : ∃ a u w, v = .ref a ∧ H a = some (.tup [u, w]) ∧ Tt H u p.1 ∧ Tt H w p.2 := by
  have h' : Tr H v (.tuple [Datum.toD p.1, Datum.toD p.2]) := h
  cases h' with
  | tup h r =>
    cases r with
    | cons h1 r =>
      cases r with
      | cons h2 r =>
        cases r
        exact ⟨_, _, _, rfl, h, h1, h2⟩
theorem Tt.tup {v : V} {xs : Tup α} (h : Tt H v xs) : ∃ a vs, v = .ref a ∧ H a = some (.tup vs) ∧ Tts H vs xs.items := by
  have h' : Tr H v (.tuple (xs.items.map Datum.toD)) := h
  cases h' with
  | tup hs rs => exact ⟨_, _, rfl, hs, .of_all rs⟩
theorem Tts.strs : ∀ {vs : List V} {zs : List Str}, Tts H vs zs → vs = zs.map V.str
  | _, _, .nil => rfl
  | _, _, .cons h r => by rw [Tt.str h, Tts.strs r, List.map_cons]
theorem Tts.length {vs : List V} {xs : List α} (r : Tts H vs xs) : vs.length = xs.length := Paired.length r
theorem Tts.append : ∀ {vs us : List V} {xs ys : List α}, Tts H vs xs → Tts H us ys → Tts H (vs ++ us) (xs ++ ys)
  | _, _, _, _, .nil, q => q
  | _, _, _, _, .cons h r, q => .cons h (Tts.append r q)
theorem Tts.at {vs : List V} {xs : List α} (r : Tts H vs xs) {i : Nat} {v : V} (e : vs[i]? = some v) : ∃ x, xs[i]? = some x ∧ Tt H v x := paired_get r e
/-- the pairs of a text and a text, by their tuples -/
theorem Tts.refs {β : Type} [DecidableEq β] [Datum β] : ∀ {vs : List V} {xs : List (α × β)}, Tts H vs xs → ∃ zs : List (Addr × (α × β)), vs = zs.map (fun z => V.ref z.1) ∧ xs = zs.map (·.2) ∧ ∀ z ∈ zs, Tt H (.ref z.1) z.2
  | _, _, .nil => ⟨[], rfl, rfl, fun z hz => by cases hz⟩
  | _, _, .cons (b := x) h r => by
    obtain ⟨zs, e1, e2, e3⟩ := Tts.refs r
    obtain ⟨a, u, w, rfl, _⟩ := Tt.pair h
    refine ⟨(a, x) :: zs, by rw [e1]; rfl, by rw [e2]; rfl, fun z hz => ?_⟩
    rcases List.mem_cons.mp hz with rfl | hz
    · exact h
    · exact e3 z hz
theorem tts_of {zs : List (Addr × α)} (h : ∀ z ∈ zs, Tt H (.ref z.1) z.2) : Tts H (zs.map fun z => V.ref z.1) (zs.map (·.2)) := by
  induction zs with
  | nil => exact .nil
  | cons z zs ih => exact .cons (h z List.mem_cons_self) (ih fun y hy => h y (List.mem_cons_of_mem _ hy))
end
/-- tracked plain data -/
def Pd (H : Hp) (x : V) : Prop := ∃ d : PyData, Tr H x d ∧ d.plain = true ∧ d.depth ≤ 40
theorem Pd.kq {H H' : Hp} {x : V} (h : Pd H x) (k : Kq H H') : Pd H' x := by
  obtain ⟨d, h1, h2⟩ := h
  exact ⟨d, Tr.kq k h1, h2⟩
theorem Tt.pd {α : Type} [DecidableEq α] [Datum α] {H : Hp} {v : V} {x : α} (h : Tt H v x) (hz : Datum.depth α ≤ 40 := by decide) : Pd H v := ⟨_, h, Datum.plain x, Nat.le_trans (Datum.depth_le x) hz⟩
theorem pd_str {H : Hp} {z : Str} : Pd H (.str z) := (tt_str (z := z)).pd
theorem pd_all {H : Hp} : ∀ {xs : List V}, (∀ x ∈ xs, Pd H x) → ∃ ds, TrAll H xs ds ∧ PyData.plainAll ds = true ∧ ds.length = xs.length
  | [], _ => ⟨[], .nil, rfl, rfl⟩
  | x :: xs, h => by
    obtain ⟨ds, h1, h2, h3⟩ := pd_all (xs := xs) fun y hy => h y (List.mem_cons_of_mem _ hy)
    obtain ⟨d, k1, k2, _⟩ := h x List.mem_cons_self
    exact ⟨d :: ds, .cons k1 h1, by rw [PyData.plainAll, k2, h2]; rfl, by rw [List.length_cons, List.length_cons, h3]⟩
theorem eqv_nil (ds : List PyData) : PyData.eqv (.list ds) (.list []) = ds.isEmpty := by
  cases ds <;> simp [PyData.eqv, PyData.eqvAll]
/-- l != [], l == [] -/
theorem cmp_nil {K : PySem.W.Frag} {H : Hp} {p : Addr} {xs : List V} {R : VK} (neg : Bool) (hp : SqL K H p xs) (hx : ∀ x ∈ xs, Pd H x) (h : ∀ H', Same H H' → R (.bl (if neg then !xs.isEmpty else xs.isEmpty)) H') :
    0 ≤ sizeLine ∧ ∀ t, H t = none → rEqP K neg (.ref p) (.ref t) (upd H t (.lst [])) R := by
  refine ⟨Nat.zero_le _, fun t nt => ?_⟩
  obtain ⟨ds, h1, h2, h3⟩ := pd_all hx
  have s := same_new (o := .lst []) nt
  refine ⟨.list ds, .list [], .lst (s.sql hp) (DpAll.le s.le h1.dp), .lst (lst_of upd_same) .nil, by simp only [PyData.plain]; exact h2, rfl, ?_, ?_⟩
  · refine Nat.le_trans (Nat.min_le_right _ _) ?_
    decide
  · rw [eqv_nil]
    have e : ds.isEmpty = xs.isEmpty := by
      cases ds <;> cases xs <;> simp at h3 <;> rfl
    rw [e]
    exact h _ s
/-- a comprehension whose target is of any form: behind it the slots are τ a -/
theorem lc_ong {α : Type} {J : It} {n : Nat} {G : Hp → Prop} {xs : List α} {h : α → V} (w : Walk J n G (YAt (xs.map h))) (hn : n = xs.length) {g : TG} {tt : TT} {te : TE} {vs : List Nat} {σ : St} {H1 : Hp} {D : Addr} {Qd : Hp → Prop} (τ : α → St) (keep : α → Bool) (F : α → V) (nD : H1 D = none)
    (hG : ∀ H, Same H1 H → G H) (hlen : xs.length < 100000)
    (hg : ∀ a ∈ xs, ∀ H, Same H1 H → ∀ R : St → Hp → Prop, R (τ a) H → g (h a) (wipe σ vs) H R) (hτ : ∀ a ∈ xs, wipe (τ a) vs = wipe σ vs)
    (ht : ∀ a ∈ xs, ∀ H, Same H1 H → TTo tt (τ a) H (keep a))
    (he : ∀ a ∈ xs, keep a = true → ∀ H, Same H1 H → TEo te (τ a) H (F a))
    (hd : ∀ H, Same H1 H → H D = some (.lst ((xs.filter keep).map F)) → Qd H) :
    ∃ W : Nat → Nat → Hp → Prop, (∃ m, W 0 m (upd H1 D (.lst []))) ∧ ∀ j m H, W j m H →
      (J.stop j H ∧ Qd H) ∨ (J.go j H ∧ ∃ Nx : Hp → Prop, (∀ H', Nx H' → ∃ m', m' < m ∧ W (j + 1) m' H') ∧ ∀ x H', J.yld j H x H' → g x (wipe σ vs) H' fun σ2 H2 => wipe σ2 vs = wipe σ vs ∧ tt σ2 H2 fun b H3 =>
        if b = true then te σ2 H3 fun y H4 => ∃ acc, H4 D = some (.lst acc) ∧ acc.length < sizeLine ∧ Nx (upd H4 D (.lst (acc ++ [y]))) else Nx H3) := by
  subst hn
  refine lc_it w (fun j H => Same H1 H ∧ H D = some (.lst (((xs.take j).filter keep).map F))) ⟨same_new nD, by rw [upd_same]; rfl⟩ (fun j H _ p => hG H p.1) (fun j x H H' hj p y => ?_) fun H p => hd H p.1 (by rw [p.2, List.take_length])
  obtain ⟨s, eD⟩ := p
  obtain ⟨rfl, ex⟩ := y
  rw [List.getElem?_map, List.getElem?_eq_getElem hj] at ex
  have ex' : h xs[j] = x := Option.some.inj ex
  subst ex'
  have mem : xs[j] ∈ xs := List.getElem_mem hj
  have tk : xs.take (j + 1) = xs.take j ++ [xs[j]] := by rw [List.take_add_one, List.getElem?_eq_getElem hj]; rfl
  refine hg _ mem H' s _ ⟨hτ _ mem, ht _ mem H' s _ fun H3 s3 => ?_⟩
  cases hk : keep xs[j] with
  | false =>
    refine iteF ⟨s.trans s3, ?_⟩
    rw [s3 _ _ eD, tk, List.filter_append, List.filter_cons_of_neg (by rw [hk]; exact Bool.false_ne_true), List.filter_nil, List.append_nil]
  | true =>
    refine iteT (he _ mem hk H3 (s.trans s3) _ fun H4 s4 => ⟨_, s4 _ _ (s3 _ _ eD), ?_, ?_, ?_⟩)
    · have l1 := List.length_filter_le keep (xs.take j)
      rw [List.length_map]
      rw [List.length_take] at l1
      exact Nat.lt_of_le_of_lt (show _ ≤ 100000 by omega) (by decide)
    · exact (s.trans (s3.trans s4)).mut nD
    · rw [upd_same, tk, List.filter_append, List.filter_cons_of_pos hk, List.filter_nil, List.map_append]
      rfl
/-- the ways of an expression meet again -/
theorem pe_mid {X : Cx} {e : Expr} {t : TE} (h : PE X e t) : PE X e (fun σ H Q => ∃ J : VK, t σ H J ∧ ∀ v H', J v H' → Q v H') :=
  ⟨fun pins s σ H Q I ⟨J, h1, h2⟩ => thn (h.run pins s σ H J I h1) fun u s1 ⟨v, H', I', r, q⟩ => ⟨v, H', I', r, h2 v H' q⟩⟩
theorem walk_keysY {d : Addr} {o : Obj} {kvs : List (Key × V)} : Walk (Itk d o kvs) kvs.length (fun H => H d = some (.frz o (.dK kvs))) (YAt (kvs.map fun kv => kV kv.1)) :=
  walk_keys.mono (fun _ h => h) fun i H x H' hi _ ⟨e, k, v, h1, h2⟩ => ⟨e, by rw [List.getElem?_map, h1, h2]; rfl⟩
end L2

/-! mixed(dice, items): the items in a drawn order -/
namespace Tf
open PySem PySem.Spec PyProof.Rows L2
abbrev sMixed : Stmt := top 42
theorem scMixed : FnScope ["_law_dice_here", "_law_items", "_law_left", "_law_found"] ["_law_dice_here", "_law_items"] (defScope sMixed) := ⟨rfl, rfl, rfl, by decide +kernel, rfl, by decide +kernel, by decide +kernel⟩
def spMix (K : PySem.W.Frag) : Sp := fun vs H Q _ => ∃ (d l : Addr) (zs : List V), vs = [.ref d, .ref l] ∧ Dice H d ∧ (SqL K H l zs ∨ SqT K H l zs) ∧ (∀ z ∈ zs, Pd H z) ∧ zs.length < 1000 ∧
  ∀ (ys : List V) (p : Addr) (H' : Hp), ys.Perm zs → Nr d H H' → Dice H' d → H p = none → H' p = some (.lst ys) → Q (.ref p) H'
theorem perm_erase {α : Type} : ∀ (l : List α) (i : Nat) (y : α), l[i]? = some y → (y :: l.eraseIdx i).Perm l
  | [], i, y, h => by simp at h
  | x :: l, 0, y, h => by
    have e : x = y := Option.some.inj h
    subst e
    exact List.Perm.refl _
  | x :: l, i + 1, y, h => by
    have ih := perm_erase l i y h
    show (y :: x :: l.eraseIdx i).Perm (x :: l)
    exact (List.Perm.swap x y _).trans (ih.cons x)
theorem era_map {α β : Type} (f : α → β) : ∀ (xs : List α) (j : Nat), (xs.map f).eraseIdx j = (xs.eraseIdx j).map f
  | [], _ => rfl
  | _ :: _, 0 => rfl
  | x :: xs, j + 1 => by
    show f x :: (xs.map f).eraseIdx j = f x :: (xs.eraseIdx j).map f
    rw [era_map f xs j]
section
variable {P : Program} {w : World} {K : PySem.W.Frag} {mg : Str → Option Value} {base : Heap}
theorem ok_mix {f fR : Addr} {fd fdR : FuncData} {k : Nat} (F : Fun K "_law_mixed" "_law_mixed" sMixed f fd) (FR : Fun K "_law_roll" "_law_roll" sRoll fR fdR) (bR : Binds K fdR ["_law_dice_here", "_law_upto"] []) (gR : mg "_law_roll" = some (.ref fR)) (mi : mg "int" = none) (ml : mg "len" = none) (mL : mg "list" = none) : FnOk P w K mg base CX0 (k + 2) f fd ["_law_dice_here", "_law_items"] (spMix K) := by
  have GR : FnOk P w K mg base CX0 (k + 1) fR fdR ["_law_dice_here", "_law_upto"] spRoll := ok_roll FR mi
  refine F.ok scMixed (fun vs H Q E h => ?_) (fun cdv A outer s H vs Q E hr h => ?_)
  · obtain ⟨d, l, zs, rfl, _⟩ := h
    rfl
  · obtain ⟨d, l, zs, rfl, hd, hl, nz, z1, q⟩ := h
    have hu : (A.deeper (envOfC "_law_mixed" (defScope sMixed) s.heap.objs.size f cdv)).units + 64 < cLine := by have := hr.un; omega
    refine ⟨_, pss_cons (ps_par (i := 2) (j := 3) (by rfl) scMixed.nd rfl rfl (by decide) rfl rfl (pa_cons (pe_callTy call_list_of (by rfl) mL (by decide +kernel) (pa_cons (pv 1) pa_nil)) (pa_cons (pe_lst pa_nil) pa_nil)) (by rfl))
      (pss_cons (ps_while PassesOwn.never (pt_cmpR (op_neP hu) (pv 2) (pe_lst pa_nil) (nomark _))
        (pss_one (ps_expr (pe_bm PySem.F.plainAttrs_list PySem.F.slot_list_append PySem.F.type_list_append mt_append (pv 3)
          (pa_cons (pe_bm PySem.F.plainAttrs_list PySem.F.slot_list_pop PySem.F.type_list_pop mt_popAt (pv 2) (pa_cons (pe_call GR hr (by rfl) gR FR.kp bR .nil pass0 (pa_cons (pv 0) (pa_cons (pe_callB call_len_seq (by rfl) ml PySem.boot_len (pa_cons (pv 2) pa_nil)) pa_nil))) pa_nil)) pa_nil)))))
      (pss_one (ps_ret (pv 3)))), ?_⟩
    refine ⟨.ref l, rfl, l, zs, rfl, hl, fun pl npl => ⟨Nat.zero_le _, fun pf npf => ⟨_, _, rfl, ?_⟩⟩⟩
    have s1 : Same H (upd H pl (.lst zs)) := same_new npl
    have nf1 : H pf = none := s1.free npf
    have npp : pl ≠ pf := fun e => by rw [← e, upd_same] at npf; cases npf
    obtain ⟨a0, b0, c0, ha0, hd0⟩ := hd
    have ndl : pl ≠ d := (ne_of_none hd0 npl).symm
    have ndf : pf ≠ d := (ne_of_none hd0 nf1).symm
    refine ⟨fun m σ H3 => ∃ ls fs : List V, m = ls.length ∧ σ = [some (.ref d), some (.ref l), some (.ref pl), some (.ref pf)] ∧ (fs ++ ls).Perm zs ∧ (∀ b o, b ≠ d → H b = some o → H3 b = some o) ∧ Dice H3 d ∧ H3 pl = some (.lst ls) ∧ H3 pf = some (.lst fs),
      ⟨zs.length, zs, [], rfl, rfl, List.Perm.refl _, ?_, ?_, ?_, ?_⟩, ?_⟩
    · intro b o nb e
      rw [upd_ne (ne_of_none e nf1), upd_ne (ne_of_none e npl)]
      exact e
    · refine ⟨a0, b0, c0, ha0, ?_⟩
      rw [upd_ne ndf.symm, upd_ne ndl.symm]
      exact hd0
    · rw [upd_ne npp, upd_same]
    · rw [upd_same]
    · rintro m σ H3 ⟨ls, fs, rfl, rfl, pm, kp, dc, el, ef⟩
      have kq3 : Kq H H3 := (show Nr d H H3 from kp).kq ⟨a0, b0, c0, ha0, hd0⟩
      have nls : ∀ z ∈ ls, Pd H3 z := fun z hz => (nz z (pm.mem_iff.mp (List.mem_append_right _ hz))).kq kq3
      have lenp := pm.length_eq
      rw [List.length_append] at lenp
      refine ⟨.ref pl, rfl, cmp_nil true (lst_of el) nls fun H4 st => ?_⟩
      have dc2 : Dice H4 d := dc.same st
      have el2 := st _ _ el
      have ef2 := st _ _ ef
      have kp2 : ∀ b o, b ≠ d → H b = some o → H4 b = some o := fun b o nb e => st _ _ (kp b o nb e)
      cases ls with
      | nil =>
        refine ⟨false, rfl, ?_⟩
        refine ⟨.ref pf, rfl, q fs pf H4 (by simpa using pm) kp2 dc2 nf1 ef2⟩
      | cons z ls =>
        have lz : (z :: ls).length = ls.length + 1 := rfl
        refine ⟨true, rfl, fun σ' H' => ∃ ls' fs' : List V, ls'.length < (z :: ls).length ∧ σ' = [some (.ref d), some (.ref l), some (.ref pl), some (.ref pf)] ∧ (fs' ++ ls').Perm zs ∧ (∀ b o, b ≠ d → H b = some o → H' b = some o) ∧ Dice H' d ∧ H' pl = some (.lst ls') ∧ H' pf = some (.lst fs'), fun σ' H' ⟨ls', fs', h1, h2, h3⟩ => ⟨ls'.length, h1, ls', fs', rfl, h2, h3⟩, ?_⟩
        refine ⟨.ref pf, rfl, .inl ⟨rfl, _, lst_of ef2⟩, .ref pl, rfl, .inl ⟨rfl, _, lst_of el2⟩, .ref d, rfl, .ref pl, rfl, pl, _, rfl, .inl (lst_of el2), d, _, rfl, dc2, ?_, ?_, fun r H5 r0 r1 nr dc5 => ?_⟩
        · rw [lz]; omega
        · rw [lz]
          have : (z :: ls).length = ls.length + 1 := rfl
          omega
        · rw [lz] at r1
          have el5 := nr pl _ ndl el2
          have ef5 := nr pf _ ndf ef2
          have hi : r.toNat < (z :: ls).length := by show r.toNat < ls.length + 1; omega
          have gi : (z :: ls)[r.toNat]? = some (z :: ls)[r.toNat] := List.getElem?_eq_getElem hi
          have pe := perm_erase (z :: ls) r.toNat _ (List.getElem?_eq_getElem hi)
          refine ⟨pl, _, r, r.toNat, _, rfl, rfl, el5, by omega, by omega, ?_, gi, ?_⟩
          · exact PySem.seqIndex_of r0 (by rw [lz]; exact r1)
          · refine ⟨pf, _, _, rfl, rfl, by rw [upd_ne npp.symm]; exact ef5, ?_, ?_⟩
            · exact small1000 (by omega)
            · refine ⟨(z :: ls).eraseIdx r.toNat, fs ++ [(z :: ls)[r.toNat]], ?_, rfl, ?_, ?_, ?_, ?_, ?_⟩
              · have := pe.length_eq
                rw [List.length_cons] at this
                omega
              · rw [List.append_assoc]
                exact (pe.append_left fs).trans pm
              · intro b o nb e
                have nbp : b ≠ pl := fun z => by rw [z, npl] at e; cases e
                have nbf : b ≠ pf := fun z => by rw [z, nf1] at e; cases e
                rw [upd_ne nbf, upd_ne nbp]
                exact nr b o nb (kp2 b o nb e)
              · obtain ⟨a5, b5, c5, h5, e5⟩ := dc5
                exact ⟨a5, b5, c5, h5, by rw [upd_ne ndf.symm, upd_ne ndl.symm]; exact e5⟩
              · rw [upd_ne npp, upd_same]
              · rw [upd_same]
end
end Tf

/-! the law's draws: words, languages -/
namespace L2
open PySem PySem.Spec PyProof.Rows
theorem cut_to (xs : List V) (c : Nat) : cutV xs none (some (c : Int)) = xs.take c := by
  unfold cutV
  rw [HT.sIx_none, HT.sIx_nat, List.drop_zero, Nat.sub_zero]
  rcases Nat.le_total c xs.length with h | h
  · rw [Nat.min_eq_left h]
  · rw [Nat.min_eq_right h, List.take_of_length_le h, List.take_of_length_le (Nat.le_refl _)]
theorem cut_from (xs : List V) (c : Nat) : cutV xs (some (c : Int)) none = xs.drop c := by
  unfold cutV
  rw [HT.sIx_none, HT.sIx_nat]
  rcases Nat.le_total c xs.length with h | h
  · rw [Nat.min_eq_left h, List.take_of_length_le]
    rw [List.length_drop]
    exact Nat.le_refl _
  · rw [Nat.min_eq_right h, Nat.sub_self, List.take_zero, List.drop_eq_nil_of_le h]
theorem cut_in (xs : List V) {a b : Nat} (h : b ≤ xs.length) (k : a ≤ b) : cutV xs (some (a : Int)) (some (b : Int)) = (xs.drop a).take (b - a) := by
  unfold cutV
  rw [HT.sIx_nat, HT.sIx_nat, Nat.min_eq_left h, Nat.min_eq_left (Nat.le_trans k h)]
end L2
namespace Tf
open PySem PySem.Spec PyProof.Rows L2 PySem.W
abbrev sWords : Stmt := top 43
abbrev sLg : Stmt := top 44
theorem scWords : FnScope ["_law_dice_here", "_law_upto", "_law_some"] ["_law_dice_here", "_law_upto"] (defScope sWords) := ⟨rfl, rfl, rfl, by decide +kernel, rfl, by decide +kernel, by decide +kernel⟩
theorem scLg : FnScope ["_law_dice_here", "_law_marks", "_law_sorts", "_law_names", "_law_total"] ["_law_dice_here", "_law_marks", "_law_sorts"] (defScope sLg) := ⟨rfl, rfl, rfl, by decide +kernel, rfl, by decide +kernel, by decide +kernel⟩
def words : List Str := ["a", "aa", "ab", "abc", "b", "ba", "by", "c", "language", "new", "of", "self", "x", "y", "z", "zzzzzzzz"]
theorem words_nd : words.Nodup := by decide +kernel
theorem words_ok : ∀ z ∈ words, nameB z = true := by decide +kernel
theorem words_len : words.length = 16 := rfl
/-- so many different words -/
def spWords : Sp := fun vs H Q _ => ∃ (d : Addr) (n : Nat), vs = [.ref d, .int n] ∧ Dice H d ∧ n ≤ 16 ∧
  ∀ (zs : List Str) (p : Addr) (H' : Hp), zs.Nodup → (∀ z ∈ zs, z ∈ words) → zs.length = n → Nr d H H' → Dice H' d → H p = none → H' p = some (.lst (zs.map V.str)) → Q (.ref p) H'
/-- a plain language with at most m marks and s kinds -/
structure PLg (m s : Nat) (ms ks : List Str) : Prop where
  wm : ∀ z ∈ ms, z ∈ words
  wk : ∀ z ∈ ks, z ∈ words
  cm : canon ms = ms
  ck : canon ks = ks
  lm : ms.length ≤ m
  l1 : 1 ≤ ks.length
  lk : ks.length ≤ s
  off : ∀ z ∈ ks, z ∉ ms
def spLg : Sp := fun vs H Q _ => ∃ (d : Addr) (m s : Nat), vs = [.ref d, .int m, .int s] ∧ Dice H d ∧ 1 ≤ s ∧ m + s ≤ 16 ∧
  ∀ (p pm pk : Addr) (ms ks : List Str) (H' : Hp), Nr d H H' → Dice H' d → H p = none → H pm = none → H pk = none → H' p = some (.tup [.ref pm, .ref pk]) → H' pm = some (.tup (ms.map V.str)) → H' pk = some (.tup (ks.map V.str)) → PLg m s ms ks → Q (.ref p) H'
theorem strs_back {ys : List V} {zs : List Str} (p : ys.Perm (zs.map V.str)) : ∃ us : List Str, ys = us.map V.str ∧ us.Perm zs := by
  obtain ⟨M, h1, h2⟩ := L2.perm_back V.str ys zs p
  exact ⟨M, h2, h1⟩
theorem dice_ne {H : Hp} {d p : Addr} (h : Dice H d) (n : H p = none) : d ≠ p := by
  obtain ⟨_, _, _, _, e⟩ := h
  exact ne_of_none e n
theorem nr_free {H H' : Hp} {d p : Addr} (n : Nr d H H') (h : Dice H' d) (e : H' p = none) : H p = none := by
  have q : p ≠ d := (dice_ne h e).symm
  cases c : H p with
  | none => rfl
  | some o =>
    rw [n p o q c] at e
    cases e
section
variable {P : Program} {w : World} {K : PySem.W.Frag} {mg : Str → Option Value} {base : Heap}
theorem ok_words {f : Addr} {fd : FuncData} {k : Nat} (F : Fun K "_law_words" "_law_words" sWords f fd) (GM : CdN P w K mg base k "_law_mixed" ["_law_dice_here", "_law_items"] (spMix K)) : FnOk P w K mg base CX0 (k + 1) f fd ["_law_dice_here", "_law_upto"] spWords := by
  refine F.ok scWords (fun vs H Q E h => ?_) (fun cdv A outer s H vs Q E hr h => ?_)
  · obtain ⟨d, n, rfl, _⟩ := h
    rfl
  · obtain ⟨d, n, rfl, hd, hn, q⟩ := h
    refine ⟨_, pss_cons (ps_set (i := 2) scWords.nd rfl (.inl rfl) (pe_lst (pa_cons pe_str (pa_cons pe_str (pa_cons pe_str (pa_cons pe_str (pa_cons pe_str (pa_cons pe_str (pa_cons pe_str (pa_cons pe_str (pa_cons pe_str (pa_cons pe_str (pa_cons pe_str (pa_cons pe_str (pa_cons pe_str (pa_cons pe_str (pa_cons pe_str (pa_cons pe_str pa_nil)))))))))))))))))) (pss_one (ps_ret (pe_slice sl_list (pe_cdn GM hr (pa_cons (pv 0) (pa_cons (pv 2) pa_nil))) po_none (po_some (pv 1))))), ?_⟩
    refine ⟨(by show 16 ≤ sizeLine; decide), fun l0 n0 => ?_⟩
    have s0 : Same H (upd H l0 (.lst (words.map V.str))) := same_new n0
    refine ⟨.ref d, rfl, .ref l0, rfl, d, l0, words.map V.str, rfl, hd.same s0, .inl (lst_of upd_same), fun z hz => ?_, by decide, fun ys p0 H1 pm nr1 dc1 np0 ep0 => ?_⟩
    · obtain ⟨y, _, rfl⟩ := List.mem_map.mp hz
      exact pd_str
    obtain ⟨us, rfl, pu⟩ := strs_back pm
    have nrA : Nr d H H1 := s0.nr.trans nr1
    refine ⟨.int n, rfl, n, rfl, p0, _, rfl, lst_of ep0, fun p1 n1 => ?_⟩
    rw [cut_to, ← List.map_take]
    have s1 := same_new (o := .lst ((us.take n).map V.str)) n1
    refine q (us.take n) p1 _ ((pu.nodup_iff.mpr words_nd).sublist (List.take_sublist _ _)) (fun z hz => pu.mem_iff.mp (List.mem_of_mem_take hz)) ?_ (nrA.trans s1.nr) (dc1.same s1) (nr_free nrA dc1 n1) upd_same
    rw [List.length_take, pu.length_eq, words_len]
    omega
theorem ok_lg {f : Addr} {fd : FuncData} {k : Nat} (F : Fun K "_law_language" "_law_language" sLg f fd) (GW : CdN P w K mg base k "_law_words" ["_law_dice_here", "_law_upto"] spWords) (GR : CdN P w K mg base k "_law_roll" ["_law_dice_here", "_law_upto"] spRoll) (mT : mg "tuple" = none) (mS : mg "sorted" = none) : FnOk P w K mg base CX0 (k + 1) f fd ["_law_dice_here", "_law_marks", "_law_sorts"] spLg := by
  refine F.ok scLg (fun vs H Q E h => ?_) (fun cdv A outer s H vs Q E hr h => ?_)
  · obtain ⟨d, m, n, rfl, _⟩ := h
    rfl
  · obtain ⟨d, m, n, rfl, hd, n1, mn, q⟩ := h
    refine ⟨_, pss_cons (ps_par (i := 3) (j := 4) (by rfl) scLg.nd rfl rfl (by decide) rfl rfl (pa_cons (pe_cdn GW hr (pa_cons (pv 0) (pa_cons (pe_op op_add (pv 1) (pv 2)) pa_nil))) (pa_cons (pe_cdn GR hr (pa_cons (pv 0) (pa_cons (pe_op op_add (pv 1) pe_int) pa_nil))) pa_nil)) (by rfl))
      (pss_one (ps_ret (pe_tup (pa_cons (pe_callTy call_tuple_of (by rfl) mT (by decide +kernel) (pa_cons (pe_callB cr_sortedS (by rfl) mS (by decide +kernel) (pa_cons (pe_slice sl_list (pv 3) po_none (po_some (pv 4))) pa_nil)) pa_nil)) (pa_cons (pe_callTy call_tuple_of (by rfl) mT (by decide +kernel) (pa_cons (pe_callB cr_sortedS (by rfl) mS (by decide +kernel) (pa_cons (pe_slice sl_list (pv 3) (po_some (pv 1)) (po_some (pe_op op_add (pe_op op_add (pv 1) pe_int) (pe_cdn GR hr (pa_cons (pv 0) (pa_cons (pv 2) pa_nil)))))) pa_nil)) pa_nil)) pa_nil))))), ?_⟩
    refine ⟨.ref d, rfl, .int m, rfl, .int n, rfl, m, n, rfl, rfl, d, m + n, (by rw [Int.natCast_add] <;> rfl), hd, mn, fun zs p0 H1 nd mz lz nr1 dc1 np0 e0 => ?_⟩
    have d0 : d ≠ p0 := dice_ne hd np0
    refine ⟨.ref d, rfl, .int m, rfl, m, 1, rfl, rfl, d, (m : Int) + 1, rfl, dc1, by omega, by omega, fun r H2 r0 r1 nr2 dc2 => ⟨_, _, rfl, ?_⟩⟩
    obtain ⟨c, rfl⟩ : ∃ c : Nat, r = (c : Int) := ⟨r.toNat, by omega⟩
    have e2 := nr2 _ _ d0.symm e0
    have nrA : Nr d H H2 := nr1.trans nr2
    refine ⟨.ref p0, rfl, .int c, rfl, c, rfl, p0, _, rfl, lst_of e2, fun p2 n2 => ?_⟩
    rw [cut_to, ← List.map_take]
    have e3 : (upd H2 p2 (.lst ((zs.take c).map V.str))) p2 = some (.lst ((zs.take c).map V.str)) := upd_same
    have s3 : Same H2 (upd H2 p2 (.lst ((zs.take c).map V.str))) := same_new n2
    generalize upd H2 p2 (.lst ((zs.take c).map V.str)) = H3 at *
    refine ⟨p2, zs.take c, rfl, lst_of e3, by rw [List.length_take]; omega, fun ms p3 pm sm n4 => ?_⟩
    have e4 : (upd H3 p3 (.lst (ms.map V.str))) p3 = some (.lst (ms.map V.str)) := upd_same
    have s4 : Same H3 (upd H3 p3 (.lst (ms.map V.str))) := same_new n4
    generalize upd H3 p3 (.lst (ms.map V.str)) = H4 at *
    refine ⟨p3, _, rfl, .inl ⟨lst_of e4, fun p4 n5 => ?_⟩⟩
    have f4 : H p4 = none := nr_free nrA dc2 ((s3.trans s4).free n5)
    have e5 : (upd H4 p4 (.tup (ms.map V.str))) p4 = some (.tup (ms.map V.str)) := upd_same
    have s5 : Same H4 (upd H4 p4 (.tup (ms.map V.str))) := same_new n5
    generalize upd H4 p4 (.tup (ms.map V.str)) = H5 at *
    have S5 : Same H2 H5 := s3.trans (s4.trans s5)
    refine ⟨.ref p0, rfl, .int m, rfl, m, rfl, .int m, rfl, m, 1, rfl, rfl, .ref d, rfl, .int n, rfl, d, n, rfl, dc2.same S5, by omega, by omega, fun r H6 r0 r1 nr6 dc6 => ⟨(m : Int) + 1, r, rfl, rfl, _, rfl, p0, _, rfl, lst_of (nr6 _ _ d0.symm (S5 _ _ e2)), fun p7 n7 => ?_⟩⟩
    obtain ⟨g, rfl⟩ : ∃ g : Nat, r = (g : Int) := ⟨r.toNat, by omega⟩
    have d4 : d ≠ p4 := dice_ne hd f4
    have e6 := nr6 _ _ d4.symm e5
    have nrB : Nr d H H6 := nrA.trans (S5.nr.trans nr6)
    rw [show (m : Int) + 1 + (g : Int) = ((m + (1 + g) : Nat) : Int) by omega, cut_in _ (by rw [List.length_map, lz]; omega) (by omega), Nat.add_sub_cancel_left, ← List.map_drop, ← List.map_take]
    have e7 : (upd H6 p7 (.lst (((zs.drop m).take (1 + g)).map V.str))) p7 = some (.lst (((zs.drop m).take (1 + g)).map V.str)) := upd_same
    have s7 : Same H6 (upd H6 p7 (.lst (((zs.drop m).take (1 + g)).map V.str))) := same_new n7
    generalize upd H6 p7 (.lst (((zs.drop m).take (1 + g)).map V.str)) = H7 at *
    refine ⟨p7, (zs.drop m).take (1 + g), rfl, lst_of e7, by rw [List.length_take]; omega, fun ks p8 pk sk n8 => ?_⟩
    have e8 : (upd H7 p8 (.lst (ks.map V.str))) p8 = some (.lst (ks.map V.str)) := upd_same
    have s8 : Same H7 (upd H7 p8 (.lst (ks.map V.str))) := same_new n8
    generalize upd H7 p8 (.lst (ks.map V.str)) = H8 at *
    refine ⟨p8, _, rfl, .inl ⟨lst_of e8, fun p9 n9 => ?_⟩⟩
    have f9 : H p9 = none := nr_free nrB dc6 ((s7.trans s8).free n9)
    have e9 : (upd H8 p9 (.tup (ks.map V.str))) p9 = some (.tup (ks.map V.str)) := upd_same
    have s9 : Same H8 (upd H8 p9 (.tup (ks.map V.str))) := same_new n9
    generalize upd H8 p9 (.tup (ks.map V.str)) = H9 at *
    refine ⟨by show 2 ≤ sizeLine; decide, fun pa na => ?_⟩
    have fa : H pa = none := nr_free nrB dc6 ((s7.trans (s8.trans s9)).free na)
    have ea : (upd H9 pa (.tup [.ref p4, .ref p9])) pa = some (.tup [.ref p4, .ref p9]) := upd_same
    have sa : Same H9 (upd H9 pa (.tup [.ref p4, .ref p9])) := same_new na
    generalize upd H9 pa (.tup [.ref p4, .ref p9]) = Ha at *
    have SA : Same H6 Ha := s7.trans (s8.trans (s9.trans sa))
    have inm : ∀ z ∈ ms, z ∈ zs.take c := fun z hz => pm.mem_iff.mp hz
    have ink : ∀ z ∈ ks, z ∈ zs.drop m := fun z hz => List.mem_of_mem_take (pk.mem_iff.mp hz)
    refine q pa p4 p9 ms ks Ha (nrB.trans SA.nr) (dc6.same SA) fa f4 f9 ea (SA _ _ e6) (sa _ _ e9) ⟨fun z hz => mz z (List.mem_of_mem_take (inm z hz)), fun z hz => mz z (List.mem_of_mem_drop (ink z hz)), canon_self (pm.nodup_iff.mpr (nd.sublist (List.take_sublist _ _))) (sortedS_pw sm), canon_self (pk.nodup_iff.mpr ((nd.sublist (List.drop_sublist _ _)).sublist (List.take_sublist _ _))) (sortedS_pw sk), ?_, ?_, ?_, ?_⟩
    · rw [pm.length_eq, List.length_take]
      omega
    · rw [pk.length_eq, List.length_take, List.length_drop, lz]
      omega
    · rw [pk.length_eq, List.length_take]
      omega
    · intro z hk hm
      have nd2 : (zs.take m ++ zs.drop m).Nodup := by rw [List.take_append_drop]; exact nd
      have hm2 : z ∈ zs.take m := by
        have z1 := inm z hm
        rw [show zs.take c = (zs.take m).take c by rw [List.take_take, Nat.min_eq_left (by omega)]] at z1
        exact List.mem_of_mem_take z1
      exact (List.nodup_append.mp nd2).2.2 z hm2 z (ink z hk) rfl
end
end Tf

/-! the law's draws: links -/
namespace Tf
open PySem PySem.Spec PyProof.Rows L2 PySem.W
abbrev sLk : Stmt := top 45
theorem scLk : FnScope ["_law_dice_here", "_law_language_here", "_law_names", "_law_at", "_law_way", "_law_sorts", "_law_found", "_law_far", "_law_turn"] ["_law_dice_here", "_law_language_here", "_law_names", "_law_at", "_law_way"] (defScope sLk) := ⟨rfl, rfl, rfl, by decide +kernel, rfl, by decide +kernel, by decide +kernel⟩
def spLk : Sp := fun vs H Q _ => ∃ (d pg pk l : Addr) (v0 : V) (ks zs : List Str) (at_ way : Nat), vs = [.ref d, .ref pg, .ref l, .int at_, .int way] ∧ Dice H d ∧ H pg = some (.tup [v0, .ref pk]) ∧ H pk = some (.tup (ks.map V.str)) ∧ H l = some (.lst (zs.map V.str)) ∧ d ≠ l ∧ 1 ≤ ks.length ∧ ks.length ≤ 60 ∧ at_ < zs.length ∧ zs.length ≤ 60 ∧ way < 4 ∧
  ∀ (p : Addr) (ls : List (Str × Str)) (H' : Hp), Nr d H H' → Dice H' d → H p = none → Tt H' (.ref p) (Tup.mk ls) → setO ls = ls → ls.length ≤ 4 → (∀ e ∈ ls, e.1 ∈ ks ∧ e.2 ∈ zs) → Q (.ref p) H'
/-- the links found so far -/
structure Fnd (H0 H : Hp) (d pf : Addr) (ks zs : List Str) (ws : List (Addr × (Str × Str))) : Prop where
  kp : ∀ b o, b ≠ d → b ≠ pf → H0 b = some o → H b = some o
  dc : Dice H d
  at_ : H pf = some (.lst (ws.map fun z => .ref z.1))
  tt : ∀ z ∈ ws, Tt H (.ref z.1) z.2
  mem : ∀ z ∈ ws, z.2.1 ∈ ks ∧ z.2.2 ∈ zs
theorem Fnd.same {H0 H H' : Hp} {d pf : Addr} {ks zs : List Str} {ws : List (Addr × (Str × Str))} (f : Fnd H0 H d pf ks zs ws) (s : Same H H') : Fnd H0 H' d pf ks zs ws := ⟨fun b o h1 h2 e => s _ _ (f.kp b o h1 h2 e), f.dc.same s, s _ _ f.at_, fun z hz => (f.tt z hz).kq s.kq, f.mem⟩
theorem Fnd.nr {H0 H H' : Hp} {d pf : Addr} {ks zs : List Str} {ws : List (Addr × (Str × Str))} (f : Fnd H0 H d pf ks zs ws) (n : Nr d H H') (dc : Dice H' d) (ne : d ≠ pf) : Fnd H0 H' d pf ks zs ws := ⟨fun b o h1 h2 e => n _ _ h1 (f.kp b o h1 h2 e), dc, n _ _ ne.symm f.at_, fun z hz => (f.tt z hz).kq (n.kq f.dc), f.mem⟩
theorem Fnd.add {H0 H : Hp} {d pf t : Addr} {ks zs : List Str} {ws : List (Addr × (Str × Str))} {x y : Str} (f : Fnd H0 H d pf ks zs ws) (ne : d ≠ pf) (ht : H t = some (.tup [.str x, .str y])) (hx : x ∈ ks) (hy : y ∈ zs) : Fnd H0 (upd H pf (.lst ((ws.map fun z => V.ref z.1) ++ [.ref t]))) d pf ks zs (ws ++ [(t, (x, y))]) := by
  have kq : Kq H (upd H pf (.lst ((ws.map fun z => V.ref z.1) ++ [.ref t]))) := Kq.lst f.at_
  refine ⟨fun b o h1 h2 e => by rw [upd_ne h2]; exact f.kp b o h1 h2 e, ?_, by rw [upd_same, List.map_append]; rfl, fun z hz => ?_, fun z hz => ?_⟩
  · obtain ⟨a, b, c, h, e⟩ := f.dc
    exact ⟨a, b, c, h, by rw [upd_ne ne]; exact e⟩
  · rcases List.mem_append.mp hz with hz | hz
    · exact (f.tt z hz).kq kq
    · rw [List.mem_singleton.mp hz]
      exact tt_pair (kq.tup ht) tt_str tt_str
  · rcases List.mem_append.mp hz with hz | hz
    · exact f.mem z hz
    · rw [List.mem_singleton.mp hz]
      exact ⟨hx, hy⟩
theorem pd_strs {H : Hp} (zs : List Str) : ∀ x ∈ zs.map V.str, Pd H x := fun x hx => by
  obtain ⟨z, _, rfl⟩ := List.mem_map.mp hx
  exact pd_str
section
variable {P : Program} {w : World} {K : PySem.W.Frag} {mg : Str → Option Value} {base : Heap}
theorem ok_lk {f : Addr} {fd : FuncData} {k : Nat} (F : Fun K "_law_links" "_law_links" sLk f fd) (GP : CdN P w K mg base k "_law_pick" ["_law_dice_here", "_law_items"] (spPick K)) (GR : CdN P w K mg base k "_law_roll" ["_law_dice_here", "_law_upto"] spRoll)
    (mT : mg "tuple" = none) (mS : mg "sorted" = none) (mR : mg "range" = none) (mL : mg "list" = none) (mI : mg "int" = none) (mN : mg "len" = none) (mE : mg "set" = none) : FnOk P w K mg base CX0 (k + 1) f fd ["_law_dice_here", "_law_language_here", "_law_names", "_law_at", "_law_way"] spLk := by
  refine F.ok scLk (fun vs H Q E h => ?_) (fun cdv A outer s H vs Q E hr h => ?_)
  · obtain ⟨d, pg, pk, l, v0, ks, zs, at_, way, rfl, _⟩ := h
    rfl
  · obtain ⟨d, pg, pk, l, v0, ks, zs, at_, way, rfl, hd, hg, hk, hl, ndl, k1, k2, z1, z2, w4, q⟩ := h
    have hu : (A.deeper (envOfC "_law_links" (defScope sLk) s.heap.objs.size f cdv)).units + 70 < cLine := by have := hr.un; omega
    have hu64 : (A.deeper (envOfC "_law_links" (defScope sLk) s.heap.objs.size f cdv)).units + 64 < cLine := by omega
    have hu20 : (A.deeper (envOfC "_law_links" (defScope sLk) s.heap.objs.size f cdv)).units + 20 < cLine := by omega
    refine ⟨_, pss_cons (ps_par (i := 5) (j := 6) (by rfl) scLk.nd rfl rfl (by decide) rfl rfl (pa_cons (pe_ix ix_tup (pv 1) pe_int (fun _ _ => rfl)) (pa_cons (pe_lst pa_nil) pa_nil)) (by rfl))
      (pss_cons (ps_mid (ps_set (i := 7) scLk.nd rfl (.inl rfl) (pe_ifExp (pt_cmpR op_eq (pv 4) pe_int (nomark _)) (pe_slice sl_list (pv 2) (po_some (pe_op op_add (pv 3) pe_int)) po_none) (pv 2))))
      (pss_cons (ps_for PassesOwn.never rfl (pi_range1 rfl mR (pa_cons (pe_cdn GR hr (pa_cons (pv 0) (pa_cons (pe_mid (pe_ifExp (pt_cmpR op_eq (pv 4) pe_int (nomark _)) pe_int pe_int)) pa_nil))) pa_nil)) (pg_name (i := 8) scLk.nd rfl (.inl rfl))
        (pss_one (ps_if (pt_cmpR (op_neP hu64) (pv 7) (pe_lst pa_nil) (nomark _))
          (pss_one (ps_expr (pe_bm PySem.F.plainAttrs_list PySem.F.slot_list_append PySem.F.type_list_append mt_append (pv 6) (pa_cons (pe_tup (pa_cons (pe_cdn GP hr (pa_cons (pv 0) (pa_cons (pe_callTy call_list_of (by rfl) mL (by decide +kernel) (pa_cons (pv 5) pa_nil)) pa_nil))) (pa_cons (pe_cdn GP hr (pa_cons (pv 0) (pa_cons (pv 7) pa_nil))) pa_nil))) pa_nil)))) pss_nil)))
      (pss_cons (ps_mid (ps_if (pt_cmpR op_eq (pv 4) pe_int (nomark _)) (pss_one (ps_expr (pe_bm PySem.F.plainAttrs_list PySem.F.slot_list_append PySem.F.type_list_append mt_append (pv 6) (pa_cons (pe_tup (pa_cons (pe_ix ix_tup (pv 5) pe_int (fun _ _ => rfl)) (pa_cons (pe_ix ix_list (pv 2) (pe_op op_modN (pe_callTy call_int1 (by rfl) mI (by decide +kernel) (pa_cons (pe_op op_add (pv 3) pe_int) pa_nil)) (pe_callB call_len_seq (by rfl) mN PySem.boot_len (pa_cons (pv 2) pa_nil))) (fun _ _ => rfl)) pa_nil))) pa_nil)))) pss_nil))
      (pss_one (ps_ret (pe_callTy call_tuple_of (by rfl) mT (by decide +kernel) (pa_cons (pe_callB (cr_sortN (α := Str × Str) rfl hu) (by rfl) mS (by decide +kernel) (pa_cons (pe_callTy (cr_setN (α := Str × Str) rfl hu20) (by rfl) mE (by decide +kernel) (pa_cons (pv 6) pa_nil)) pa_nil)) pa_nil))))))), ?_⟩
    refine ⟨.ref pg, rfl, pg, _, 1, .ref pk, rfl, rfl, tup_of hg, rfl, Nat.zero_le _, fun pf nf => ⟨_, _, rfl, ?_⟩⟩
    have e1 : (upd H pf (.lst [])) pf = some (.lst []) := upd_same
    have s1 : Same H (upd H pf (.lst [])) := same_new nf
    generalize upd H pf (.lst []) = H1 at *
    have dc1 := hd.same s1
    have ndf : d ≠ pf := dice_ne hd nf
    have nfl : l ≠ pf := ne_of_none hl nf
    have npk : pk ≠ pf := ne_of_none hk nf
    have hdk : pk ≠ d := by
      obtain ⟨_, _, _, _, e⟩ := hd
      exact ne_of hk e (fun z => nomatch z)
    -- far
    refine ⟨fun σ H2 => ∃ (fa : Addr) (fz : List Str), σ = [some (.ref d), some (.ref pg), some (.ref l), some (.int at_), some (.int way), some (.ref pk), some (.ref pf), some (.ref fa), none] ∧ Same H1 H2 ∧ H2 fa = some (.lst (fz.map V.str)) ∧ fa ≠ d ∧ fa ≠ pf ∧ (∀ z ∈ fz, z ∈ zs) ∧ fz.length ≤ 60, ?_, ?_⟩
    · refine ⟨_, rfl, rfl, _, rfl, ite2 (fun c => ?_) (fun c => ?_)⟩
      · refine ⟨.ref l, rfl, _, rfl, at_, 1, rfl, rfl, _, rfl, l, _, rfl, lst_of (s1 _ _ hl), fun p np => ?_⟩
        rw [show (at_ : Int) + 1 = ((at_ + 1 : Nat) : Int) by omega, cut_from, ← List.map_drop]
        have s2 := same_new (o := .lst ((zs.drop (at_ + 1)).map V.str)) np
        exact ⟨p, zs.drop (at_ + 1), rfl, s2, upd_same, (dice_ne dc1 np).symm, (ne_of_none e1 np).symm, fun z hz => List.mem_of_mem_drop hz, by rw [List.length_drop]; omega⟩
      · exact ⟨.ref l, rfl, l, zs, rfl, Same.refl _, s1 _ _ hl, ndl.symm, nfl, fun z hz => hz, z2⟩
    rintro σ H2 ⟨fa, fz, rfl, s2, e2, nfd, nff, mf, lf⟩
    have dc2 := dc1.same s2
    -- the draws
    have start : Fnd H2 H2 d pf ks zs [] := ⟨fun _ _ _ _ e => e, dc2, s2 _ _ e1, fun z hz => (by cases hz), fun z hz => (by cases hz)⟩
    refine ⟨.ref d, rfl, fun v H' => H2 = H' ∧ ∃ m : Int, v = .int m ∧ 1 ≤ m ∧ m ≤ 4, ⟨_, rfl, rfl, _, rfl, ite2 (fun c => ⟨rfl, 2, rfl, by decide, by decide⟩) (fun c => ⟨rfl, 4, rfl, by decide, by decide⟩)⟩, ?_⟩
    rintro v H'' ⟨e'', m, rfl, m1, m4⟩
    subst e''
    refine ⟨d, m, rfl, dc2, by omega, by omega, fun r H3 r0 r1 nr3 dc3 => ?_⟩
    refine ⟨r, rfl, by omega, by omega, for_range (n := r.toNat) (fun i σ H' => ∃ (o8 : Option V) (ws : List (Addr × (Str × Str))), σ = [some (.ref d), some (.ref pg), some (.ref l), some (.int at_), some (.int way), some (.ref pk), some (.ref pf), some (.ref fa), o8] ∧ Fnd H2 H' d pf ks zs ws ∧ ws.length ≤ i) ⟨_, [], rfl, start.nr nr3 dc3 ndf, Nat.le_refl _⟩ ?_ ?_⟩
    · rintro i σ H4 hi ⟨o8, ws, rfl, fn, lw⟩
      have ef := fn.kp fa _ nfd nff e2
      refine ⟨.ref fa, rfl, cmp_nil true (lst_of ef) (pd_strs fz) fun H5 s5 => ?_⟩
      have fn5 := fn.same s5
      cases fz with
      | nil => exact ⟨false, rfl, iteF ⟨_, ws, rfl, fn5, Nat.le_succ_of_le lw⟩⟩
      | cons y0 fz =>
        refine ⟨true, rfl, iteT ?_⟩
        refine ⟨.ref pf, rfl, .inl ⟨rfl, _, lst_of fn5.at_⟩, .ref d, rfl, .ref pk, rfl, pk, _, rfl, .inr (tup_of (s5 _ _ (fn.kp pk _ hdk npk (s2 _ _ (s1 _ _ hk))))), fun l6 n6 => ?_⟩
        have e6 : (upd H5 l6 (.lst (ks.map V.str))) l6 = some (.lst (ks.map V.str)) := upd_same
        have s6 : Same H5 (upd H5 l6 (.lst (ks.map V.str))) := same_new n6
        generalize upd H5 l6 (.lst (ks.map V.str)) = H6 at *
        have fn6 := fn5.same s6
        refine ⟨d, l6, _, rfl, fn6.dc, e6, dice_ne fn5.dc n6, fun z => ?_, by rw [List.length_map]; omega, fun x H7 hx nr7 dc7 => ?_⟩
        · rw [List.map_eq_nil_iff] at z
          rw [z] at k1
          simp at k1
        obtain ⟨x', mx, rfl⟩ := List.mem_map.mp hx
        have fn7 := fn6.nr nr7 dc7 ndf
        refine ⟨.ref d, rfl, .ref fa, rfl, d, fa, _, rfl, dc7, fn7.kp fa _ nfd nff e2, nfd.symm, List.cons_ne_nil _ _, by rw [List.length_map]; omega, fun y H8 hy nr8 dc8 => ?_⟩
        obtain ⟨y', my, rfl⟩ := List.mem_map.mp hy
        have fn8 := fn7.nr nr8 dc8 ndf
        refine ⟨by show 2 ≤ sizeLine; decide, fun t nt => ?_⟩
        have e9 : (upd H8 t (.tup [.str x', .str y'])) t = some (.tup [.str x', .str y']) := upd_same
        have s9 : Same H8 (upd H8 t (.tup [.str x', .str y'])) := same_new nt
        generalize upd H8 t (.tup [.str x', .str y']) = H9 at *
        have fn9 := fn8.same s9
        refine ⟨pf, _, _, rfl, rfl, fn9.at_, by rw [List.length_map]; exact small1000 (by omega), ?_⟩
        exact ⟨_, _, rfl, fn9.add ndf e9 mx (mf y' my), by rw [List.length_append, List.length_singleton]; omega⟩
    rintro σ H4 ⟨o8, ws, rfl, fn, lw⟩
    have lw3 : ws.length ≤ 3 := by omega
    -- round
    refine ⟨fun σ H5 => ∃ ws : List (Addr × (Str × Str)), σ = [some (.ref d), some (.ref pg), some (.ref l), some (.int at_), some (.int way), some (.ref pk), some (.ref pf), some (.ref fa), o8] ∧ Fnd H2 H5 d pf ks zs ws ∧ ws.length ≤ 4, ?_, ?_⟩
    · refine ⟨_, rfl, rfl, _, rfl, ite2 (fun c => ?_) (fun c => ⟨ws, rfl, fn, by omega⟩)⟩
      have el := fn.kp l _ ndl.symm nfl (s2 _ _ (s1 _ _ hl))
      have ek := fn.kp pk _ hdk npk (s2 _ _ (s1 _ _ hk))
      have kpos : 0 < ks.length := k1
      have zpos : (0 : Int) < (zs.length : Int) := by omega
      have j0 := Int.fmod_nonneg_of_pos ((at_ : Int) + 1) zpos
      have j1 := Int.fmod_lt_of_pos ((at_ : Int) + 1) zpos
      obtain ⟨j, ej⟩ : ∃ j : Nat, ((at_ : Int) + 1).fmod (zs.length : Int) = (j : Int) := ⟨_, (Int.toNat_of_nonneg j0).symm⟩
      have jl : j < zs.length := by omega
      refine ⟨.ref pf, rfl, .inl ⟨rfl, _, lst_of fn.at_⟩, .ref pk, rfl, pk, _, 0, .str ks[0], rfl, rfl, tup_of ek, at_of (j := 0) rfl (by rw [List.getElem?_map, List.getElem?_eq_getElem kpos]; rfl), ?_⟩
      refine ⟨.ref l, rfl, _, rfl, at_, 1, rfl, rfl, .inl ⟨_, rfl, .ref l, rfl, l, _, rfl, .inl (lst_of el), _, _, rfl, rfl, ?_, ?_⟩⟩
      · rw [List.length_map]
        omega
      refine ⟨l, _, _, .str zs[j], rfl, rfl, lst_of el, at_of (j := j) (by rw [List.length_map]; omega) (by rw [List.getElem?_map, List.getElem?_eq_getElem jl]; rfl), ?_⟩
      refine ⟨by show 2 ≤ sizeLine; decide, fun t nt => ?_⟩
      have e9 : (upd H4 t (.tup [.str ks[0], .str zs[j]])) t = some (.tup [.str ks[0], .str zs[j]]) := upd_same
      have s9 : Same H4 (upd H4 t (.tup [.str ks[0], .str zs[j]])) := same_new nt
      generalize upd H4 t (.tup [.str ks[0], .str zs[j]]) = H9 at *
      have fn9 := fn.same s9
      refine ⟨pf, _, _, rfl, rfl, fn9.at_, by rw [List.length_map]; exact small1000 (by omega), ?_⟩
      exact ⟨_, rfl, fn9.add ndf e9 (List.getElem_mem kpos) (List.getElem_mem jl), by rw [List.length_append, List.length_singleton]; omega⟩
    rintro σ H5 ⟨ws, rfl, fn5, lw4⟩
    refine ⟨.ref pf, rfl, pf, ws, rfl, lst_of fn5.at_, fun z hz => (fn5.tt z hz).dt, by omega, fun p6 o6 n6 h6 => ?_⟩
    have e6 : (upd H5 p6 (o6)) p6 = some (o6) := upd_same
    have s6 : Same H5 (upd H5 p6 (o6)) := same_new n6
    generalize upd H5 p6 (o6) = H6 at *
    have fn6 := fn5.same s6
    refine ⟨p6, ws, o6, rfl, e6, h6, fun z hz => (fn6.tt z hz).dt, by omega, fun cs p7 mc ec n7 => ?_⟩
    have e7 : (upd H6 p7 (.lst (cs.map fun c => .ref c.1))) p7 = some (.lst (cs.map fun c => .ref c.1)) := upd_same
    have s7 : Same H6 (upd H6 p7 (.lst (cs.map fun c => .ref c.1))) := same_new n7
    generalize upd H6 p7 (.lst (cs.map fun c => .ref c.1)) = H7 at *
    have fn7 := fn6.same s7
    refine ⟨p7, _, rfl, .inl ⟨lst_of e7, fun p8 n8 => ?_⟩⟩
    have nrA : Nr d H H7 := fun b o nb e => by
      have h1 : b ≠ pf := ne_of_none e nf
      exact fn7.kp b o nb h1 (s2 _ _ (s1 _ _ e))
    have f8 : H p8 = none := nr_free nrA fn7.dc n8
    have e8 : (upd H7 p8 (.tup (cs.map fun c => .ref c.1))) p8 = some (.tup (cs.map fun c => .ref c.1)) := upd_same
    have s8 : Same H7 (upd H7 p8 (.tup (cs.map fun c => .ref c.1))) := same_new n8
    generalize upd H7 p8 (.tup (cs.map fun c => .ref c.1)) = H8 at *
    have fn8 := fn7.same s8
    refine q p8 (cs.map (·.2)) H8 (nrA.trans s8.nr) fn8.dc f8 (tt_tup e8 (tts_of fun z hz => fn8.tt z (mc z hz))) ?_ ?_ fun e he => ?_
    · rw [ec, setO_setO]
    · rw [ec]
      exact Nat.le_trans (setO_len _) (by rw [List.length_map]; exact lw4)
    · obtain ⟨z, hz, rfl⟩ := List.mem_map.mp he
      exact fn5.mem z (mc z hz)
end
end Tf

/-! the law's draws: stores -/
namespace Tf
open PySem PySem.Spec PyProof.Rows L2 PySem.W
abbrev sSto : Stmt := top 46
abbrev nSto : List Str := ["_law_dice_here", "_law_language_here", "_law_most", "_law_names", "_law_way", "_law_found", "_law_at", "_law_name", "_law_marks", "_law_mark"]
theorem scSto : FnScope nSto ["_law_dice_here", "_law_language_here", "_law_most"] (defScope sSto) := ⟨rfl, rfl, rfl, by decide +kernel, rfl, by decide +kernel, by decide +kernel⟩
/-- marks and links of a thing -/
abbrev Pr := Tup Str × Tup (Str × Str)
/-- the things of a store, in the order of a dict -/
abbrev Ps := List (Str × Pr)
/-- the entries of a dict are these things -/
abbrev PsR (H : Hp) (kvs : List (Key × V)) (ps : Ps) : Prop := Paired (fun kv x => kv.1 = Sum.inr x.1 ∧ Tt H kv.2 x.2) kvs ps
theorem PsR.kq {H H' : Hp} {kvs : List (Key × V)} {ps : Ps} (h : PsR H kvs ps) (k : Kq H H') : PsR H' kvs ps := Paired.mapP h fun _ _ z => ⟨z.1, Tt.kq z.2 k⟩
theorem PsR.kt {H H' : Hp} {kvs : List (Key × V)} {ps : Ps} (h : PsR H kvs ps) (k : Kt H H') : PsR H' kvs ps := Paired.mapP h fun _ _ z => ⟨z.1, Tt.kt z.2 k⟩
theorem PsR.dk {K : PySem.W.Frag} {H : Hp} {kvs : List (Key × V)} {ps : Ps} {d : Addr} (h : PsR H kvs ps) (hd : Rd H d (.dK kvs)) : Dk K H d ps := ⟨kvs, hd, Paired.mapP h fun _ _ z => ⟨z.1, Tt.dt z.2⟩⟩
theorem PsR.append : ∀ {H : Hp} {ks ls : List (Key × V)} {ps qs : Ps}, PsR H ks ps → PsR H ls qs → PsR H (ks ++ ls) (ps ++ qs)
  | _, _, _, _, _, .nil, q => q
  | _, _, _, _, _, .cons h r, q => .cons h (PsR.append r q)
theorem PsR.keys : ∀ {H : Hp} {kvs : List (Key × V)} {ps : Ps}, PsR H kvs ps → kvs.map (·.1) = ps.map fun x => Sum.inr x.1
  | _, _, _, .nil => rfl
  | _, _, _, .cons h r => by rw [List.map_cons, List.map_cons, h.1, PsR.keys r]
theorem PsR.miss {H : Hp} {kvs : List (Key × V)} {ps : Ps} {z : Str} (h : PsR H kvs ps) (n : z ∉ ps.map (·.1)) : valV kvs (Sum.inr z) = none := by
  induction h with
  | nil => rfl
  | @cons kv x kvs ps h r ih =>
    have n1 : ¬ x.1 = z := fun e => n (by rw [← e]; exact List.mem_cons_self)
    rw [valV_neg (by rw [h.1]; exact fun e => n1 (Sum.inr.inj e))]
    exact ih fun m => n (List.mem_cons_of_mem _ m)
theorem PsR.hit {H : Hp} {kvs : List (Key × V)} {ps : Ps} {z : Str} (h : PsR H kvs ps) (m : z ∈ ps.map (·.1)) : ∃ v x, valV kvs (Sum.inr z) = some v ∧ (z, x) ∈ ps ∧ Tt H v x := by
  induction h with
  | nil => cases m
  | @cons kv x kvs ps h r ih =>
    by_cases e : x.1 = z
    · exact ⟨kv.2, x.2, valV_pos (by rw [h.1, e]), by rw [← e]; exact List.mem_cons_self, h.2⟩
    · rw [valV_neg (by rw [h.1]; exact fun q => e (Sum.inr.inj q))]
      rcases List.mem_cons.mp m with c | c
      · exact absurd c.symm e
      · obtain ⟨v, x', h1, h2, h3⟩ := ih c
        exact ⟨v, x', h1, List.mem_cons_of_mem _ h2, h3⟩
/-- a thing's marks and links: each once, ascending, of the language and the things -/
structure PTh (ms ks names : List Str) (p : Pr) : Prop where
  cm : canon p.1.items = p.1.items
  mm : ∀ z ∈ p.1.items, z ∈ ms
  cl : setO p.2.items = p.2.items
  ml : ∀ e ∈ p.2.items, e.1 ∈ ks ∧ e.2 ∈ names
  l1 : p.1.items.length ≤ 60
  l2 : p.2.items.length ≤ 4
/-- a plain store -/
structure PSt (ms ks : List Str) (ps : Ps) : Prop where
  nd : (ps.map (·.1)).Nodup
  wd : ∀ z ∈ ps.map (·.1), nameB z = true
  th : ∀ p ∈ ps, PTh ms ks (ps.map (·.1)) p.2
  len : ps.length ≤ 60
theorem PTh.more {ms ks ns ns' : List Str} {p : Pr} (h : PTh ms ks ns p) (s : ∀ z ∈ ns, z ∈ ns') : PTh ms ks ns' p := ⟨h.cm, h.mm, h.cl, fun e he => ⟨(h.ml e he).1, s _ (h.ml e he).2⟩, h.l1, h.l2⟩
def spSto : Sp := fun vs H Q _ => ∃ (d pg pm pk : Addr) (ms ks : List Str) (most : Nat), vs = [.ref d, .ref pg, .int most] ∧ Dice H d ∧ H pg = some (.tup [.ref pm, .ref pk]) ∧ H pm = some (.tup (ms.map V.str)) ∧ H pk = some (.tup (ks.map V.str)) ∧ canon ms = ms ∧ ms.length ≤ 60 ∧ 1 ≤ ks.length ∧ ks.length ≤ 60 ∧ 1 ≤ most ∧ most ≤ 16 ∧
  ∀ (p : Addr) (kvs : List (Key × V)) (ps : Ps) (H' : Hp), Nr d H H' → Dice H' d → H p = none → H' p = some (.dK kvs) → PsR H' kvs ps → PSt ms ks ps → (∀ z ∈ ps.map (·.1), z ∈ words) → 1 ≤ ps.length → ps.length ≤ most → Q (.ref p) H'
/-- marks of the language, each drawn or left out: the comprehension -/
theorem lc_draw {K : PySem.W.Frag} {a d D : Addr} {zs : List Str} {tt : TT} {te : TE} {i : Nat} {σ : L2.St} {H1 : Hp} {Qd : Hp → Prop} (hd : Dice H1 d) (nD : H1 D = none) (ha : H1 a = some (.tup (zs.map V.str))) (lz : zs.length ≤ 60)
    (ht : ∀ z ∈ zs, ∀ H, Nr d H1 H → Dice H d → ∀ R : Bool → Hp → Prop, (∀ b H', Nr d H H' → Dice H' d → R b H') → tt ((wipe σ [i]).set i (some (.str z))) H R)
    (he : ∀ z H (R : VK), R (.str z) H → te ((wipe σ [i]).set i (some (.str z))) H R)
    (hq : ∀ (H : Hp) (ys : List Str), Nr d H1 H → Dice H d → ys.Sublist zs → H D = some (.lst (ys.map V.str)) → Qd H) :
    ∃ W : Nat → Nat → Hp → Prop, (∃ m, W 0 m (upd H1 D (.lst []))) ∧ ∀ j m H, W j m H →
      ((Itt K a).stop j H ∧ Qd H) ∨ ((Itt K a).go j H ∧ ∃ Nx : Hp → Prop, (∀ H', Nx H' → ∃ m', m' < m ∧ W (j + 1) m' H') ∧ ∀ x H', (Itt K a).yld j H x H' → gName i x (wipe σ [i]) H' fun σ2 H2 => wipe σ2 [i] = wipe σ [i] ∧ tt σ2 H2 fun b H3 =>
        if b = true then te σ2 H3 fun y H4 => ∃ acc, H4 D = some (.lst acc) ∧ acc.length < sizeLine ∧ Nx (upd H4 D (.lst (acc ++ [y]))) else Nx H3) := by
  have dD : d ≠ D := dice_ne hd nD
  have da : a ≠ d := by
    obtain ⟨_, _, _, _, e⟩ := hd
    exact ne_of ha e (fun z => nomatch z)
  refine lc_it (walk_tup (xs := zs.map V.str)) (fun j H => Nr d H1 H ∧ Dice H d ∧ ∃ ys : List Str, ys.Sublist (zs.take j) ∧ H D = some (.lst (ys.map V.str))) ⟨(same_new nD).nr, hd.same (same_new nD), [], List.nil_sublist _, upd_same⟩ (fun j H _ p => tup_of (p.1 a _ da ha)) (fun j x H H' hj p y => ?_) fun H p => ?_
  · obtain ⟨nr, dc, ys, sub, eD⟩ := p
    obtain ⟨rfl, ex⟩ := y
    rw [List.length_map] at hj
    rw [List.getElem?_map, List.getElem?_eq_getElem hj] at ex
    have ex' : V.str zs[j] = x := Option.some.inj ex
    subst ex'
    have tk : zs.take (j + 1) = zs.take j ++ [zs[j]] := by rw [List.take_add_one, List.getElem?_eq_getElem hj]; rfl
    refine ⟨by simp [wipe], ht _ (List.getElem_mem hj) H' nr dc _ fun b H3 n3 dc3 => ?_⟩
    have eD3 := n3 D _ dD.symm eD
    cases b with
    | false => exact iteF ⟨nr.trans n3, dc3, ys, by rw [tk]; exact sub.trans (List.sublist_append_left _ _), eD3⟩
    | true =>
      refine iteT (he _ _ _ ⟨_, eD3, ?_, ?_, ?_, ys ++ [zs[j]], by rw [tk]; exact sub.append (List.Sublist.refl _), by rw [upd_same, List.map_append]; rfl⟩)
      · have := sub.length_le
        rw [List.length_map]
        rw [List.length_take] at this
        exact small1000 (by omega)
      · intro b o nb e
        rw [upd_ne (ne_of_none e nD)]
        exact n3 b o nb (nr b o nb e)
      · obtain ⟨x1, x2, x3, x4, x5⟩ := dc3
        exact ⟨x1, x2, x3, x4, by rw [upd_ne dD]; exact x5⟩
  · obtain ⟨nr, dc, ys, sub, eD⟩ := p
    rw [List.length_map, List.take_length] at sub
    exact hq H ys nr dc sub eD
theorem canon_sub {ms ys : List Str} (c : canon ms = ms) (s : ys.Sublist ms) : canon ys = ys := by
  rw [← c] at s
  exact canon_self ((nodup_canon ms).sublist s) ((canon_pw ms).sublist s)
section
variable {P : Program} {w : World} {K : PySem.W.Frag} {mg : Str → Option Value} {base : Heap}
theorem ok_sto {f : Addr} {fd : FuncData} {k : Nat} (F : Fun K "_law_store" "_law_store" sSto f fd) (GW : CdN P w K mg base k "_law_words" ["_law_dice_here", "_law_upto"] spWords) (GR : CdN P w K mg base k "_law_roll" ["_law_dice_here", "_law_upto"] spRoll) (GL : CdN P w K mg base k "_law_links" ["_law_dice_here", "_law_language_here", "_law_names", "_law_at", "_law_way"] spLk)
    (mT : mg "tuple" = none) (mE : mg "enumerate" = none) : FnOk P w K mg base CX0 (k + 1) f fd ["_law_dice_here", "_law_language_here", "_law_most"] spSto := by
  refine F.ok scSto (fun vs H Q E h => ?_) (fun cdv A outer s H vs Q E hr h => ?_)
  · obtain ⟨d, pg, pm, pk, ms, ks, most, rfl, _⟩ := h
    rfl
  · obtain ⟨d, pg, pm, pk, ms, ks, most, rfl, hd, hg, hm, hk, cms, lms, k1, k2, mo1, mo2, q⟩ := h
    have hu : (A.deeper (envOfC "_law_store" (defScope sSto) s.heap.objs.size f cdv)).units + 1 < cLine := by have := hr.un; omega
    refine ⟨_, pss_cons (ps_par3 (i := 3) (j := 4) (l := 5) (by rfl) scSto.nd rfl rfl rfl (by decide) (by decide) (by decide) rfl rfl rfl (pa_cons (pe_cdn GW hr (pa_cons (pv 0) (pa_cons (pe_op op_add pe_int (pe_cdn GR hr (pa_cons (pv 0) (pa_cons (pv 2) pa_nil)))) pa_nil))) (pa_cons (pe_cdn GR hr (pa_cons (pv 0) (pa_cons pe_int pa_nil))) (pa_cons pe_dnewK pa_nil))) (by rfl))
      (pss_cons (ps_for PassesOwn.never rfl (pi_enum rfl mE (pa_cons (pv 3) pa_nil)) (pg_tup (by rfl) (pgs_cons (pg_name (i := 6) scSto.nd rfl (.inl rfl)) (pgs_cons (pg_name (i := 7) scSto.nd rfl (.inl rfl)) pgs_nil)))
        (pss_cons (ps_setLc (i := 8) (own := [("_law_mark", 9)]) (g := gName 9) (te := tVar 9) (by rfl) scSto.nd rfl (by rfl) (by rfl) (pi_tup (pe_ix ix_tup (pv 1) pe_int (fun _ _ => rfl))) (blkOk_by (own := [("_law_mark", 9)]) (N := nSto) (sc := defScope sSto) (by decide +kernel)) (fun _ _ _ _ _ => pg_name (i := 9) scSto.nd rfl (Or.inl rfl)) (fun _ _ _ _ _ => pts_one (pt_cmpR op_eq (pe_cdn GR hr (pa_cons (pv 0) (pa_cons pe_int pa_nil))) pe_int (nomark _))) (fun _ _ _ _ _ => pv 9))
        (pss_one (ps_dput hu (pv 5) (pv 7) (pe_tup (pa_cons (pe_callTy call_tuple_of (by rfl) mT (by decide +kernel) (pa_cons (pv 8) pa_nil)) (pa_cons (pe_cdn GL hr (pa_cons (pv 0) (pa_cons (pv 1) (pa_cons (pv 3) (pa_cons (pv 6) (pa_cons (pv 4) pa_nil)))))) pa_nil))) rfl))))
      (pss_one (ps_ret (pv 5)))), ?_⟩
    refine ⟨.ref d, rfl, .ref d, rfl, .int most, rfl, d, most, rfl, hd, by omega, by omega, fun r H1 r0 r1 nr1 dc1 => ?_⟩
    obtain ⟨g, rfl⟩ : ∃ g : Nat, r = (g : Int) := ⟨r.toNat, by omega⟩
    refine ⟨1, g, rfl, rfl, d, 1 + g, (by rw [Int.natCast_add] <;> rfl), dc1, by omega, fun zs p0 H2 nd mz lz nr2 dc2 np0 e0 => ?_⟩
    have nrA : Nr d H H2 := nr1.trans nr2
    refine ⟨.ref d, rfl, d, 4, rfl, dc2, by decide, by decide, fun r H3 r0 r1 nr3 dc3 => ?_⟩
    obtain ⟨way, rfl⟩ : ∃ g : Nat, r = (g : Int) := ⟨r.toNat, by omega⟩
    have nrB : Nr d H H3 := nrA.trans nr3
    have d0 : d ≠ p0 := dice_ne dc1 np0
    have e3 := nr3 _ _ d0.symm e0
    intro pf nf
    have nfH : H pf = none := nr_free nrB dc3 nf
    refine ⟨_, _, _, rfl, ?_⟩
    have e4 : (upd H3 pf (.dK [])) pf = some (.dK []) := upd_same
    have s4 : Same H3 (upd H3 pf (.dK [])) := same_new nf
    generalize upd H3 pf (.dK []) = H4 at *
    have ndf : d ≠ pf := dice_ne dc3 nf
    have n0f : p0 ≠ pf := ne_of_none e3 nf
    have dpg : pg ≠ d := by
      obtain ⟨_, _, _, _, e⟩ := hd
      exact ne_of hg e (fun z => nomatch z)
    have dpm : pm ≠ d := by
      obtain ⟨_, _, _, _, e⟩ := hd
      exact ne_of hm e (fun z => nomatch z)
    have dpk : pk ≠ d := by
      obtain ⟨_, _, _, _, e⟩ := hd
      exact ne_of hk e (fun z => nomatch z)
    refine ⟨.ref p0, rfl, p0, _, rfl, lst_of (s4 _ _ e3), for_it (walk_enum (xs := zs.map V.str)) (fun i σ H' => ∃ (o6 o7 o8 : Option V) (kvs : List (Key × V)) (ps : Ps), σ = [some (.ref d), some (.ref pg), some (.int most), some (.ref p0), some (.int way), some (.ref pf), o6, o7, o8, none] ∧ Nr d H H' ∧ Dice H' d ∧ H' p0 = some (.lst (zs.map V.str)) ∧ H' pf = some (.dK kvs) ∧ PsR H' kvs ps ∧ ps.map (·.1) = zs.take i ∧ ∀ p ∈ ps, PTh ms ks zs p.2)
      ⟨none, none, none, [], [], rfl, nrB.trans s4.nr, dc3.same s4, s4 _ _ e3, e4, .nil, rfl, fun p hp => (by cases hp)⟩ (fun i σ H' _ ⟨_, _, _, _, _, _, _, _, e, _⟩ => lst_of e) ?_ ?_⟩
    · rintro i x σ G G' hi ⟨o6, o7, o8, kvs, ps, rfl, nrG, dcG, eG, fG, rG, kG, tG⟩ ⟨t, x1, y, rfl, nt, rfl, ex1, ey⟩
      have ex2 : x1 = .int (i : Nat) := (Option.some.inj ex1).symm
      subst ex2
      have hi' : i < zs.length := by simpa using hi
      have ey : (zs.map V.str)[i]? = some y := ey
      rw [List.getElem?_map, List.getElem?_eq_getElem hi'] at ey
      have ey' : V.str zs[i] = y := Option.some.inj ey
      subst ey'
      have g1 : (upd G t (.tup [.int (i : Nat), .str zs[i]])) t = some (.tup [.int (i : Nat), .str zs[i]]) := upd_same
      have s1 : Same G (upd G t (.tup [.int (i : Nat), .str zs[i]])) := same_new nt
      generalize upd G t (.tup [.int (i : Nat), .str zs[i]]) = G1 at *
      have nrG1 : Nr d H G1 := nrG.trans s1.nr
      have dcG1 := dcG.same s1
      refine ⟨t, _, rfl, tup_of g1, rfl, _, _, rfl, _, _, rfl, rfl, ?_⟩
      refine ⟨.ref pg, rfl, pg, _, 0, .ref pm, rfl, rfl, tup_of (nrG1 _ _ dpg hg), rfl, pm, rfl, ⟨_, tup_of (nrG1 _ _ dpm hm)⟩, fun D nD => lc_draw (d := d) dcG1 nD (nrG1 _ _ dpm hm) lms (fun z _ H' nr' dc' R hR => ?_) (fun z H' R h => ⟨_, rfl, h⟩) fun G2 ys nr2 dc2 sub e2 => ?_⟩
      · exact ⟨.ref d, rfl, d, 2, rfl, dc', by decide, by decide, fun r H'' r0 r1 nr'' dc'' => ⟨rfl, _, rfl, hR _ H'' nr'' dc''⟩⟩
      have f2 : G2 pf = some (.dK kvs) := nr2 _ _ ndf.symm (s1 _ _ fG)
      have r2 : PsR G2 kvs ps := (rG.kq s1.kq).kq (nr2.kq dcG1)
      have nrG2 : Nr d H G2 := nrG1.trans nr2
      refine ⟨.ref D, rfl, D, _, rfl, .inl ⟨lst_of e2, fun pa na => ?_⟩⟩
      have g3 : (upd G2 pa (.tup (ys.map V.str))) pa = some (.tup (ys.map V.str)) := upd_same
      have s3 : Same G2 (upd G2 pa (.tup (ys.map V.str))) := same_new na
      generalize upd G2 pa (.tup (ys.map V.str)) = G3 at *
      have dcG3 := dc2.same s3
      have nrG3 : Nr d H G3 := nrG2.trans s3.nr
      refine ⟨.ref d, rfl, .ref pg, rfl, .ref p0, rfl, .int (i : Nat), rfl, .int way, rfl, d, pg, pk, p0, .ref pm, ks, zs, i, way, rfl, dcG3, nrG3 _ _ dpg hg, nrG3 _ _ dpk hk, s3 _ _ (nr2 _ _ d0.symm (s1 _ _ eG)), d0, k1, k2, hi', by omega, by omega, fun pb ls G4 nr4 dc4 nb tb sl ll ml => ?_⟩
      have kq4 : Kq G3 G4 := nr4.kq dcG3
      refine ⟨by show 2 ≤ sizeLine; decide, fun pc nc => ?_⟩
      have g5 : (upd G4 pc (.tup [.ref pa, .ref pb])) pc = some (.tup [.ref pa, .ref pb]) := upd_same
      have s5 : Same G4 (upd G4 pc (.tup [.ref pa, .ref pb])) := same_new nc
      generalize upd G4 pc (.tup [.ref pa, .ref pb]) = G5 at *
      have kq5 : Kq G2 G5 := (s3.kq.trans kq4).trans s5.kq
      have f5 : G5 pf = some (.dK kvs) := s5 _ _ (nr4 _ _ ndf.symm (s3 _ _ f2))
      have lk := Paired.length rG
      have lp : ps.length = i := by
        have z := congrArg List.length kG
        rw [List.length_map, List.length_take] at z
        omega
      refine ⟨.ref pf, rfl, .str zs[i], rfl, pf, _, rfl, DPut.k (k := Sum.inr zs[i]) f5 (by rw [lk]; exact small1000 (by omega)), ?_⟩
      have miss : valV kvs (Sum.inr zs[i]) = none := rG.miss (by
        rw [kG]
        intro hm'
        obtain ⟨j, hj, e⟩ := List.getElem_of_mem hm'
        rw [List.getElem_take] at e
        rw [List.length_take] at hj
        have e2 := (List.getElem_inj nd).mp e
        omega)
      rw [putK_new _ miss]
      have nrG5 : Nr d H G5 := nrG3.trans (nr4.trans s5.nr)
      have dc5 := dc4.same s5
      have kt6 : Kt G5 (upd G5 pf (.dK (kvs ++ [(Sum.inr zs[i], .ref pc)]))) := kt_dk f5
      have tkn : zs.take (i + 1) = zs.take i ++ [zs[i]] := by rw [List.take_add_one, List.getElem?_eq_getElem hi']; rfl
      refine ⟨_, _, _, kvs ++ [(Sum.inr zs[i], .ref pc)], ps ++ [(zs[i], (Tup.mk ys, Tup.mk ls))], rfl, fun b o nb e => ?_, ?_, ?_, upd_same, ?_, ?_, fun p hp => ?_⟩
      · rw [upd_ne (ne_of_none e nfH)]
        exact nrG5 b o nb e
      · obtain ⟨x1, x2, x3, x4, x5⟩ := dc5
        exact ⟨x1, x2, x3, x4, by rw [upd_ne ndf]; exact x5⟩
      · rw [upd_ne n0f]
        exact s5 _ _ (nr4 _ _ d0.symm (s3 _ _ (nr2 _ _ d0.symm (s1 _ _ eG))))
      · refine PsR.append ((r2.kq kq5).kt kt6) (.cons ⟨rfl, ?_⟩ .nil)
        have ta : Tt G5 (.ref pa) (Tup.mk ys) := tt_tup (s5 _ _ (kq4.tup g3)) (tts_strs ys)
        exact Tt.kt (tt_pair g5 ta (tb.kq s5.kq)) kt6
      · rw [List.map_append, kG, tkn]
        rfl
      · rcases List.mem_append.mp hp with hp | hp
        · exact tG p hp
        · rw [List.mem_singleton.mp hp]
          exact ⟨canon_sub cms sub, fun z hz => sub.subset hz, sl, ml, Nat.le_trans sub.length_le lms, Nat.le_trans ll (by decide)⟩
    · rintro σ G ⟨o6, o7, o8, kvs, ps, rfl, nrG, dcG, eG, fG, rG, kG, tG⟩
      rw [List.length_map, List.take_length] at kG
      have lp : ps.length = zs.length := by
        have z := congrArg List.length kG
        rw [List.length_map] at z
        exact z
      refine ⟨.ref pf, rfl, q pf kvs ps G nrG dcG nfH fG rG ⟨by rw [kG]; exact nd, fun z hz => words_ok z (mz z (by rw [← kG]; exact hz)), fun p hp => by rw [kG]; exact tG p hp, by omega⟩ (fun z hz => mz z (by rw [← kG]; exact hz)) (by omega) (by omega)⟩
end
end Tf

/-! languages, where nothing is refused -/
namespace Tf
open PySem PySem.Spec PyProof.Rows L2
def Nms (zs : List Str) : Prop := ∀ z ∈ zs, nameB z = true
theorem Nms.canon {zs : List Str} (h : Nms zs) : Nms (L2.canon zs) := fun z hz => h z (mem_canon.mp hz)
theorem ty_tup {K : PySem.W.Frag} {H : Hp} {a : Addr} {xs : List V} (h : SqT K H a xs) : TyX K H (.ref a) (.type "tuple") := by
  rcases h with (h | ⟨o, h⟩) | h
  · exact .base (.tup h)
  · exact .fTuple h
  · obtain ⟨o, its, n, h1, h2, h3, h4⟩ := h
    exact .kTuple h1 h2
theorem flat_strs (zs : List Str) : (zs.map V.str).all flatV = true := by
  rw [List.all_map]
  exact List.all_eq_true.mpr fun _ _ => rfl
theorem inV_strs (z : Str) (zs : List Str) : inV (.str z) (zs.map V.str) = decide (z ∈ zs) := by
  unfold inV
  rw [List.any_map]
  by_cases h : z ∈ zs
  · rw [decide_eq_true h]
    exact List.any_eq_true.mpr ⟨z, h, show (z == z) = true by simp⟩
  · rw [decide_eq_false h]
    refine List.any_eq_false.mpr fun y hy e => h ?_
    have e' : (y == z) = true := e
    rw [← beq_iff_eq.mp e']
    exact hy
/-! ### different_names -/
abbrev sDn : Stmt := top 17
theorem scDn : FnScope ["values", "value"] ["values"] (defScope sDn) := ⟨rfl, rfl, rfl, by decide +kernel, rfl, by decide +kernel, by decide +kernel⟩
def spDn (K : PySem.W.Frag) : Sp := fun vs H Q _ => ∃ (a : Addr) (zs : List Str), vs = [.ref a] ∧ SqT K H a (zs.map V.str) ∧ Nms zs ∧ zs.length ≤ 60 ∧ ∀ (p : Addr) (H' : Hp), Same H H' → H p = none → H' p = some (.tup ((canon zs).map V.str)) → Q (.ref p) H'
/-! ### the class -/
abbrev sLang : Stmt := top 19
abbrev sLin : Stmt := inClass sLang 0
abbrev sLof : Stmt := inClass sLang 1
abbrev sLmk : Stmt := inClass sLang 2
abbrev sLki : Stmt := inClass sLang 3
abbrev sLeq : Stmt := inClass sLang 10
theorem scLin : FnScope ["self", "kinds", "marks", "kind"] ["self", "kinds", "marks"] (defScope sLin) := ⟨rfl, rfl, rfl, by decide +kernel, rfl, by decide +kernel, by decide +kernel⟩
theorem scLof : FnScope ["cls", "marks", "kinds"] ["cls", "marks", "kinds"] (defScope sLof) := ⟨rfl, rfl, rfl, by decide +kernel, rfl, by decide +kernel, by decide +kernel⟩
theorem scLmk : FnScope ["self"] ["self"] (defScope sLmk) := ⟨rfl, rfl, rfl, by decide +kernel, rfl, by decide +kernel, by decide +kernel⟩
theorem scLki : FnScope ["self"] ["self"] (defScope sLki) := ⟨rfl, rfl, rfl, by decide +kernel, rfl, by decide +kernel, by decide +kernel⟩
theorem scLeq : FnScope ["self", "other"] ["self", "other"] (defScope sLeq) := ⟨rfl, rfl, rfl, by decide +kernel, rfl, by decide +kernel, by decide +kernel⟩
/-- a language stands at a: its marks and kinds -/
def LangAt (C : Addr) (H : Hp) (a : Addr) (ms ks : List Str) : Prop := ∃ dx fs pm pk, H a = some (.ins C dx fs) ∧ fs.lookup ("own_marks" : Str) = some (.ref pm) ∧ fs.lookup ("own_kinds" : Str) = some (.ref pk) ∧ H pm = some (.tup (ms.map V.str)) ∧ H pk = some (.tup (ks.map V.str)) ∧ fs.map (·.1) = [("own_marks" : Str), "own_kinds"]
theorem LangAt.kq {C : Addr} {H H' : Hp} {a : Addr} {ms ks : List Str} (h : LangAt C H a ms ks) (k : Kq H H') : LangAt C H' a ms ks := by
  obtain ⟨dx, fs, pm, pk, h1, h2, h3, h4, h5, h6⟩ := h
  exact ⟨dx, fs, pm, pk, k.ins h1, h2, h3, k.tup h4, k.tup h5, h6⟩
/-- whether these marks and kinds make a language -/
def langOk (ms ks : List Str) : Bool := (decide ((canon ms).length ≤ 8) && (decide (1 ≤ (canon ks).length) && decide ((canon ks).length ≤ 4))) && !(canon ks).any fun k => decide (k ∈ canon ms)
theorem ok_parts {ms ks : List Str} (h : langOk ms ks = true) : (canon ms).length ≤ 8 ∧ 1 ≤ (canon ks).length ∧ (canon ks).length ≤ 4 ∧ ∀ z ∈ canon ks, z ∉ canon ms := by
  unfold langOk at h
  rw [Bool.and_eq_true, Bool.and_eq_true, Bool.and_eq_true, Bool.not_eq_true'] at h
  refine ⟨of_decide_eq_true h.1.1, of_decide_eq_true h.1.2.1, of_decide_eq_true h.1.2.2, fun z hz hm => ?_⟩
  exact (List.any_eq_false.mp h.2 z hz) (decide_eq_true hm)
theorem ok_of_parts {ms ks : List Str} (h1 : (canon ms).length ≤ 8) (h2 : 1 ≤ (canon ks).length) (h3 : (canon ks).length ≤ 4) (h4 : ∀ z ∈ canon ks, z ∉ canon ms) : langOk ms ks = true := by
  unfold langOk
  rw [Bool.and_eq_true, Bool.and_eq_true, Bool.and_eq_true, Bool.not_eq_true']
  refine ⟨⟨decide_eq_true h1, decide_eq_true h2, decide_eq_true h3⟩, List.any_eq_false.mpr fun z hz c => h4 z hz (of_decide_eq_true c)⟩
/-- what of the class Language the written part tells -/
structure LCls (K : PySem.W.Frag) (C : Addr) : Prop where
  cl : Cls K C
  nm : NoAttr K C "own_marks"
  nk : NoAttr K C "own_kinds"
/-- what isinstance sees of languages -/
structure LIs (K : PySem.W.Frag) (C : Addr) : Prop where
  ha : PySem.W.findIn K (.ref C) "__class__" = some (some (.builtin "object.__class__"))
  hn : PySem.W.specialIn K (.builtin "object.__class__") "__get__" = some (some (.builtin "getset_descriptor.__get__"))
  ht : PySem.W.takesIn K (.builtin "object.__class__") = some true
  hm : PySem.W.mroIn K C (.type "object") = some true
  me : PySem.W.kitOne K (.ref C) (.ref C) = some true
/-- Language(*ms, kinds = kv), self made -/
def spLin (K : PySem.W.Frag) (C : Addr) : SpK := fun vs zs H Q _ => ∃ (H0 : Hp) (x dx b : Addr) (ms ks : List Str), vs = .ref x :: ms.map V.str ∧ zs = [.ref b] ∧ H = upd (upd H0 dx (.own x)) x (.ins C dx []) ∧ H0 x = none ∧ H0 dx = none ∧ dx ≠ x ∧ SqT K H0 b (ks.map V.str) ∧ Nms ms ∧ Nms ks ∧ ms.length ≤ 60 ∧ ks.length ≤ 60 ∧ langOk ms ks = true ∧
  ∀ H', Same H0 H' → LangAt C H' x (canon ms) (canon ks) → Q .non H'
def spLbody (K : PySem.W.Frag) (C : Addr) : Sp := fun vs H Q _ => ∃ (x pm dx b : Addr) (ms ks : List Str) (H0 : Hp), vs = [.ref x, .ref b, .ref pm] ∧ Same H0 H ∧ H0 x = none ∧ H x = some (.ins C dx []) ∧ H pm = some (.tup (ms.map V.str)) ∧ SqT K H0 b (ks.map V.str) ∧ Nms ms ∧ Nms ks ∧ ms.length ≤ 60 ∧ ks.length ≤ 60 ∧ langOk ms ks = true ∧
  ∀ H', Same H0 H' → LangAt C H' x (canon ms) (canon ks) → Q .non H'
def spLof (K : PySem.W.Frag) (C : Addr) : Sp := fun vs H Q _ => ∃ (a b : Addr) (ms ks : List Str), vs = [.ref C, .ref a, .ref b] ∧ SqT K H a (ms.map V.str) ∧ SqT K H b (ks.map V.str) ∧ Nms ms ∧ Nms ks ∧ ms.length ≤ 60 ∧ ks.length ≤ 60 ∧ langOk ms ks = true ∧
  ∀ (x : Addr) (H' : Hp), Same H H' → H x = none → LangAt C H' x (canon ms) (canon ks) → Q (.ref x) H'
def spLmk (C : Addr) (b : Bool) : Sp := fun vs H Q _ => ∃ (a : Addr) (ms ks : List Str), vs = [.ref a] ∧ LangAt C H a ms ks ∧ ∀ p, H p = some (.tup ((if b then ms else ks).map V.str)) → Q (.ref p) H
/-- a value of a type that is no language -/
def NoLang (K : PySem.W.Frag) (C : Addr) (H : Hp) (y : V) : Prop := ∃ t : String, TyX K H y (.type t) ∧ PySem.W.kitOne K (.type t) (.ref C) = some false
def spLeq (K : PySem.W.Frag) (C : Addr) : Sp := fun vs H Q _ => ∃ (a : Addr) (y : V) (ms ks : List Str), vs = [.ref a, y] ∧ LangAt C H a ms ks ∧
  ((NoLang K C H y ∧ Q (.bl false) H) ∨ ∃ (b : Addr) (ms' ks' : List Str), y = .ref b ∧ LangAt C H b ms' ks' ∧ Q (.bl (decide (ms = ms') && decide (ks = ks'))) H)
section
variable {P : Program} {w : World} {K : PySem.W.Frag} {mg : Str → Option Value} {base : Heap}
theorem ok_dn {f : Addr} {fd : FuncData} {k : Nat} (F : Fun K "different_names" "different_names" sDn f fd) (GN : CdN P w K mg base k "is_name" ["value"] (spName K)) (mI : mg "isinstance" = none) (mT : mg "tuple" = none) (mA : mg "all" = none) (mS : mg "sorted" = none) (mL : mg "list" = none) : FnOk P w K mg base CX0 (k + 1) f fd ["values"] (spDn K) := by
  refine F.ok scDn (fun vs H Q E h => ?_) (fun cdv A outer s H vs Q E hr h => ?_)
  · obtain ⟨a, zs, rfl, _⟩ := h
    rfl
  · obtain ⟨a, zs, rfl, hS, nz, hl, q⟩ := h
    refine ⟨_, pss_cons (ps_if (PW.pt (pw_or (pt_not (pt_val (pe_callB call_isi (by rfl) mI (by decide +kernel) (pa_cons (pv 0) (pa_cons (pe_bltn (v := .ty "tuple") (by rfl) mT (by decide +kernel) rfl) pa_nil)))))
          (pw_or1 (pt_not (pt_val (pe_callB (cr_all rfl) (by rfl) mA (by decide +kernel) (pa_cons (pe_lc (own := [("value", 1)]) (g := gName 1) (tt := tYes) (by rfl) scDn.nd (pi_tup (pv 0)) (blkOk_by (own := [("value", 1)]) (N := ["values", "value"]) (sc := defScope sDn) (by decide +kernel)) (fun _ _ _ _ _ => pg_name (i := 1) scDn.nd rfl (Or.inl rfl)) (fun _ _ _ _ _ => pts_nil)
            (fun _ _ _ _ _ => pe_cdn GN hr (pa_cons (pv 1) pa_nil))) pa_nil)))))))
        (pss_one ps_off) pss_nil)
      (pss_one (ps_ret (pe_callTy call_tuple_of (by rfl) mT (by decide +kernel) (pa_cons (pe_callB cr_sortedS (by rfl) mS (by decide +kernel) (pa_cons (pe_callTy (call_list_dK rfl) (by rfl) mL (by decide +kernel) (pa_cons
        (pe_dc (own := [("value", 1)]) (g := gName 1) (tt := tYes) (by rfl) scDn.nd (pi_tup (pv 0)) (blkOk_by (own := [("value", 1)]) (N := ["values", "value"]) (sc := defScope sDn) (by decide +kernel)) (fun _ _ _ _ _ => pg_name (i := 1) scDn.nd rfl (Or.inl rfl)) (fun _ _ _ _ _ => pts_nil) (fun _ _ _ _ _ => pv 1) (fun _ _ _ _ _ => pe_bl)) pa_nil)) pa_nil)) pa_nil)))), ?_⟩
    refine ⟨.ref a, rfl, .ref a, .ty "tuple", .type "tuple", .type "tuple", true, rfl, .ty _, ty_tup hS, kit_ty (by decide +kernel), true, rfl, iteF ?_⟩
    refine ⟨.ref a, rfl, a, rfl, ⟨_, hS⟩, fun D nD => lc_map (h := V.str) (xs := zs) (by have := walk_tup (K := K) (a := a) (xs := zs.map V.str); rw [List.length_map] at this; exact this) rfl (fun _ => .bl true) nD (fun H2 s2 => s2.tup hS) (by omega) (fun x hx H2 s2 Q' q' => ?_) fun H2 s2 e2 => ?_⟩
    · refine ⟨_, rfl, _, rfl, .inl ⟨x, rfl, ?_⟩, .inl ⟨x, rfl⟩, fun H3 s3 => ?_⟩
      · have := nameB_len (nz x hx)
        omega
      · have e : isN (.str x) = true := nz x hx
        rw [e]
        exact q' H3 s3
    refine ⟨D, zs.map fun _ => true, rfl, lst_of (by rw [e2, List.map_map]; rfl), ?_⟩
    have e : (zs.map fun _ => true).all id = true := by
      rw [List.all_map]
      exact List.all_eq_true.mpr fun _ _ => rfl
    rw [e]
    refine ⟨true, rfl, iteF ?_⟩
    have hS2 := s2.tup hS
    refine ⟨.ref a, rfl, a, rfl, ⟨_, hS2⟩, fun D3 nD3 => dc_tup (xs := zs.map V.str) (fun i H3 => Same H2 H3 ∧ H3 D3 = some (.dK ((firsts (zs.take i)).map keyT))) ⟨same_new nD3, by rw [upd_same]; rfl⟩ (fun i H3 _ p => p.1.tup hS2) (fun i x H3 hx p => ?_) fun H3 p => ?_⟩
    · obtain ⟨s3, e3⟩ := p
      rw [List.getElem?_map] at hx
      cases hz : zs[i]? with
      | none => rw [hz] at hx; cases hx
      | some z =>
        rw [hz] at hx
        have ex : V.str z = x := Option.some.inj hx
        subst ex
        have hi : i < zs.length := (List.getElem?_eq_some_iff.mp hz).1
        have tk : zs.take (i + 1) = zs.take i ++ [z] := by rw [List.take_add_one, hz]; rfl
        refine ⟨by simp [wipe], ?_⟩
        unfold tYes
        simp only [↓reduceIte]
        refine ⟨_, rfl, _, Sum.inr z, rfl, e3, ?_, ?_, ?_⟩
        · have := firsts_len (zs.take i)
          rw [List.length_map]
          rw [List.length_take] at this
          exact small1000 (by omega)
        · exact s3.mut nD3
        · rw [upd_same, put_keyT, ← firsts_snoc, ← tk]
    · obtain ⟨s3, e3⟩ := p
      rw [List.length_map, List.take_length] at e3
      refine ⟨D3, _, rfl, e3, fun p4 n4 => ?_⟩
      have fl := firsts_len zs
      refine ⟨p4, firsts zs, rfl, lst_of ?_, by omega, fun ys p5 pm so n5 => ?_⟩
      · rw [upd_same, List.map_map]
        rfl
      · have ey : ys = canon zs := canon_is pm so
        subst ey
        refine ⟨p5, _, rfl, .inl ⟨lst_of upd_same, fun p6 n6 => ?_⟩⟩
        have s6 := ((s2.trans s3).new n4 |>.new n5).new (o := .tup ((canon zs).map V.str)) n6
        exact q p6 _ s6 (((s2.trans s3).new n4 |>.new n5).free n6) upd_same
theorem body_lin {f C : Addr} {k : Nat} {t8 t4 : Tok} (L : LCls K C) (GD : CdN P w K mg base k "different_names" ["values"] (spDn K)) (mL : mg "len" = none) (mA : mg "any" = none) (g8 : mg "MAX_MARKS" = some (.int 8 t8)) (g4 : mg "MAX_KINDS" = some (.int 4 t4))
    (cdv : Value) (A : Around) (outer : List Env) (s : Shared) (H : Hp) (vs : List V) (Q : VK) (E : XK) (hr : Room k (A.deeper (envOfC "Language.__init__" (defScope sLin) s.heap.objs.size f cdv))) (h : spLbody K C vs H Q E) :
    ∃ t, PSs (cxOf CX0 P w K mg base ["self", "kinds", "marks", "kind"] "Language.__init__" (defScope sLin) f cdv A outer s H E).nox (defBody sLin) t ∧ t { nx := fun _ H' => Q .non H', rt := Q } (start ["self", "kinds", "marks", "kind"] vs) H := by
  obtain ⟨x, pm, dx, b, ms, ks, H0, rfl, s0, nx, hx, hpm, hb, nm, nk, lm, lk, ok, q⟩ := h
  obtain ⟨o1, o2, o3, o4⟩ := ok_parts ok
  refine ⟨_, pss_cons (ps_fld (pv 0) (pe_cdn GD hr (pa_cons (pv 2) pa_nil)) rfl)
    (pss_cons (ps_fld (pv 0) (pe_cdn GD hr (pa_cons (pv 1) pa_nil)) rfl)
    (pss_cons (ps_if (PW.pt (pw_or (pt_cmpR op_gt (pe_callB call_len_seq (by rfl) mL PySem.boot_len (pa_cons (pe_fld (pv 0) rfl) pa_nil)) (pe_glob (v := .int 8) rfl g8 ⟨_, rfl⟩) (nomark _))
        (pw_or1 (pt_not (pt_chain op_le op_le pe_int (pe_callB call_len_seq (by rfl) mL PySem.boot_len (pa_cons (pe_fld (pv 0) rfl) pa_nil)) (pe_glob (v := .int 4) rfl g4 ⟨_, rfl⟩))))))
      (pss_one ps_off) pss_nil)
    (pss_one (ps_if (pt_val (pe_callB (cr_any rfl) (by rfl) mA (by decide +kernel) (pa_cons (pe_lc (own := [("kind", 3)]) (g := gName 3) (tt := tYes) (te := tOp (rIn K false) (tVar 3) (tFld K (tVar 0) "own_marks")) (by rfl) scLin.nd (pi_tup (pe_fld (pv 0) (by rfl))) (blkOk_by (own := [("kind", 3)]) (N := ["self", "kinds", "marks", "kind"]) (sc := defScope sLin) (by decide +kernel)) (fun _ _ _ _ _ => pg_name (i := 3) scLin.nd rfl (Or.inl rfl)) (fun _ _ _ _ _ => pts_nil)
          (fun _ _ _ _ _ => pe_cmpR op_in_seq (pv 3) (pe_fld (pv 0) (by rfl)) (by rfl))) pa_nil)))
      (pss_one ps_off) pss_nil)))), ?_⟩
  refine ⟨.ref pm, rfl, pm, ms, rfl, tup_of hpm, nm, lm, fun p H1 s1 np e1 => ?_⟩
  have npx : p ≠ x := (ne_of_none hx np).symm
  refine ⟨.ref x, rfl, x, C, dx, [], rfl, s1 _ _ hx, L.cl, L.nm, by decide, ?_⟩
  have s2 : Same H0 (upd H1 x (.ins C dx (putF "own_marks" (.ref p) []))) := (s0.trans s1).mut nx
  have x2 : (upd H1 x (.ins C dx (putF "own_marks" (.ref p) []))) x = some (.ins C dx [(("own_marks" : Str), .ref p)]) := upd_same
  have p2 : (upd H1 x (.ins C dx (putF "own_marks" (.ref p) []))) p = some (.tup ((canon ms).map V.str)) := by rw [upd_ne npx]; exact e1
  generalize upd H1 x (.ins C dx (putF "own_marks" (.ref p) [])) = H2 at s2 x2 p2 ⊢
  refine ⟨.ref b, rfl, b, ks, rfl, s2.tup hb, nk, lk, fun pk H3 s3 npk e3 => ?_⟩
  have nkx : pk ≠ x := (ne_of_none x2 npk).symm
  refine ⟨.ref x, rfl, x, C, dx, _, rfl, s3 _ _ x2, L.cl, L.nk, (show 1 < 1000 by decide), ?_⟩
  have s4 : Same H0 (upd H3 x (.ins C dx (putF "own_kinds" (.ref pk) [(("own_marks" : Str), .ref p)]))) := (s2.trans s3).mut nx
  have x4 : (upd H3 x (.ins C dx (putF "own_kinds" (.ref pk) [(("own_marks" : Str), .ref p)]))) x = some (.ins C dx [(("own_marks" : Str), .ref p), (("own_kinds" : Str), .ref pk)]) := upd_same
  have p4 : (upd H3 x (.ins C dx (putF "own_kinds" (.ref pk) [(("own_marks" : Str), .ref p)]))) p = some (.tup ((canon ms).map V.str)) := by rw [upd_ne npx]; exact s3 _ _ p2
  have k4 : (upd H3 x (.ins C dx (putF "own_kinds" (.ref pk) [(("own_marks" : Str), .ref p)]))) pk = some (.tup ((canon ks).map V.str)) := by rw [upd_ne nkx]; exact e3
  generalize upd H3 x (.ins C dx (putF "own_kinds" (.ref pk) [(("own_marks" : Str), .ref p)])) = H4 at s4 x4 p4 k4 ⊢
  refine ⟨.ref x, rfl, x, C, dx, _, .ref p, rfl, x4, L.cl, L.nm, rfl, p, _, rfl, .inr (tup_of p4), _, 8, rfl, rfl, _, rfl, ?_⟩
  rw [List.length_map, decide_eq_false (show ¬ ((canon ms).length : Int) > 8 by omega)]
  refine iteF ⟨.ref x, rfl, x, C, dx, _, .ref pk, rfl, x4, L.cl, L.nk, rfl, pk, _, rfl, .inr (tup_of k4), 1, _, rfl, rfl, _, rfl, ?_⟩
  rw [List.length_map, decide_eq_true (show (1 : Int) ≤ ((canon ks).length : Int) by omega)]
  refine iteT ⟨_, 4, rfl, rfl, _, rfl, ?_⟩
  rw [decide_eq_true (show ((canon ks).length : Int) ≤ 4 by omega)]
  refine iteF ?_
  refine ⟨.ref x, rfl, x, C, dx, _, .ref pk, rfl, x4, L.cl, L.nk, rfl, pk, rfl, ⟨_, tup_of k4⟩, fun D nD => lc_map (h := V.str) (xs := canon ks) (by have := walk_tup (K := K) (a := pk) (xs := (canon ks).map V.str); rw [List.length_map] at this; exact this) rfl (fun _ => .bl false) nD (fun H5 s5 => tup_of (s5 _ _ k4)) (by omega) (fun z hz H5 s5 Q' q' => ?_) fun H5 s5 e5 => ?_⟩
  · refine ⟨_, rfl, .ref x, rfl, x, C, dx, _, .ref p, rfl, s5 _ _ x4, L.cl, L.nm, rfl, p, _, rfl, .inr (tup_of (s5 _ _ p4)), rfl, flat_strs _, ?_⟩
    rw [if_neg Bool.false_ne_true, inV_strs, decide_eq_false (o4 z hz)]
    exact q' H5 (Same.refl H5)
  · refine ⟨D, (canon ks).map fun _ => false, rfl, lst_of (by rw [e5, List.map_map]; rfl), ?_⟩
    have e : ((canon ks).map fun _ => false).any id = false := by
      rw [List.any_map]
      exact List.any_eq_false.mpr fun _ _ c => by cases c
    rw [e]
    exact ⟨false, rfl, iteF (q H5 (s4.trans s5) ⟨dx, _, p, pk, s5 _ _ x4, rfl, rfl, s5 _ _ p4, s5 _ _ k4, rfl⟩)⟩
theorem fnA_imp {CX : CXT} {k : Nat} {f : Addr} {ks : List Str} {sp sp' : SpK} (F : FnA P w K mg base CX k f ks sp) (h : ∀ vs zs H Q E, sp' vs zs H Q E → sp vs zs H Q E) : FnA P w K mg base CX k f ks sp' :=
  fun A outer s H us ws vs zs Q E hr e0 r rz hs => F A outer s H us ws vs zs Q E hr e0 r rz (h _ _ _ _ _ hs)
end
end Tf

/-! languages, where nothing is refused: made, read, compared -/
namespace Tf
open PySem PySem.Spec PyProof.Rows L2
section
variable {P : Program} {w : World} {K : PySem.W.Frag} {mg : Str → Option Value} {base : Heap}
theorem ok_lin {f C : Addr} {fd : FuncData} {k : Nat} {t8 t4 : Tok} (F : Fun K "__init__" "Language.__init__" sLin f fd) (L : LCls K C) (GD : CdN P w K mg base k "different_names" ["values"] (spDn K)) (mL : mg "len" = none) (mA : mg "any" = none) (g8 : mg "MAX_MARKS" = some (.int 8 t8)) (g4 : mg "MAX_KINDS" = some (.int 4 t4)) : FnA P w K mg base CX0 (k + 1) f ["kinds"] (spLin K C) := by
  obtain ⟨oc, od, kV, doc, pm, an, cdv, ct, osl, rfl, lk, hcd⟩ := F.ex
  refine fnA_imp (fn_starK (CX := CX0) (pa := "self") (pk := "kinds") (pv := "marks") (sp := spLbody K C) lk hcd scLin StX.cxUp_none (fun a rest b => ?_) (fun A outer s H vs Q E hr h => ?_)) ?_
  · cases rest with
    | nil => rfl
    | cons r rs => rfl
  · obtain ⟨t, h1, h2⟩ := body_lin L GD mL mA g8 g4 cdv A outer s H vs Q E hr h
    exact ⟨t, h1.nox, h2⟩
  · rintro vs zs H Q E ⟨H0, x, dx, b, ms, ks, rfl, rfl, rfl, nx, nd, ne, hb, nm, nk, lm, lk', ok, q⟩
    refine ⟨.ref x, ms.map V.str, .ref b, rfl, rfl, by rw [List.length_map]; exact small1k (by omega), fun p np => ?_⟩
    have sx : Same H0 (upd (upd H0 dx (.own x)) x (.ins C dx [])) := (same_new nd).mut nx
    have px : p ≠ x := fun e => by rw [e, upd_same] at np; cases np
    exact ⟨x, p, dx, b, ms, ks, H0, rfl, sx.new np, nx, by rw [upd_ne px.symm]; exact upd_same, upd_same, hb, nm, nk, lm, lk', ok, q⟩
theorem ok_lof {f fN C : Addr} {fd : FuncData} {k : Nat} (F : Fun K "of" "Language.of" sLof f fd) (M : Mk K C fN) (GI : FnA P w K mg base CX0 k fN ["kinds"] (spLin K C)) (mI : mg "isinstance" = none) (mT : mg "tuple" = none) : FnOk P w K mg base CX0 (k + 2) f fd ["cls", "marks", "kinds"] (spLof K C) := by
  refine F.ok scLof (fun vs H Q E h => ?_) (fun cdv A outer s H vs Q E hr h => ?_)
  · obtain ⟨a, b, ms, ks, rfl, _⟩ := h
    rfl
  · obtain ⟨a, b, ms, ks, rfl, ha, hb, nm, nk, lm, lk, ok, q⟩ := h
    refine ⟨_, pss_cons (ps_if (pt_not (pt_val (pe_callB call_isi (by rfl) mI (by decide +kernel) (pa_cons (pv 1) (pa_cons (pe_bltn (v := .ty "tuple") (by rfl) mT (by decide +kernel) rfl) pa_nil)))))
        (pss_one ps_off) pss_nil)
      (pss_one (ps_ret (pe_makeSK M GI hr pass0 (pv 0) (pv 1) (pk_cons (pv 2) pk_nil)))), ?_⟩
    refine ⟨.ref a, rfl, .ref a, .ty "tuple", .type "tuple", .type "tuple", true, rfl, .ty _, ty_tup ha, kit_ty (by decide +kernel), true, rfl, iteF ?_⟩
    refine ⟨.ref C, rfl, rfl, .ref a, rfl, .ref b, rfl, a, _, rfl, .inl ha, rfl, fun x dx nx nd ne => ?_⟩
    exact ⟨H, x, dx, b, ms, ks, rfl, rfl, rfl, nx, nd, ne, hb, nm, nk, lm, lk, ok, fun H' s' l' => ⟨rfl, q x H' s' nx l'⟩⟩
theorem ok_lmk {f C : Addr} {fd : FuncData} {k : Nat} (F : Fun K "marks" "Language.marks" sLmk f fd) (L : LCls K C) : FnOk P w K mg base CX0 (k + 1) f fd ["self"] (spLmk C true) := by
  refine F.ok scLmk (fun vs H Q E h => ?_) (fun cdv A outer s H vs Q E hr h => ?_)
  · obtain ⟨a, ms, ks, rfl, _⟩ := h
    rfl
  · obtain ⟨a, ms, ks, rfl, ⟨dx, fs, pm, pk, h1, h2, h3, h4, h5, h6⟩, q⟩ := h
    exact ⟨_, pss_one (ps_ret (pe_fld (pv 0) rfl)), .ref a, rfl, a, C, dx, fs, .ref pm, rfl, h1, L.cl, L.nm, h2, q pm h4⟩
theorem ok_lki {f C : Addr} {fd : FuncData} {k : Nat} (F : Fun K "kinds" "Language.kinds" sLki f fd) (L : LCls K C) : FnOk P w K mg base CX0 (k + 1) f fd ["self"] (spLmk C false) := by
  refine F.ok scLki (fun vs H Q E h => ?_) (fun cdv A outer s H vs Q E hr h => ?_)
  · obtain ⟨a, ms, ks, rfl, _⟩ := h
    rfl
  · obtain ⟨a, ms, ks, rfl, ⟨dx, fs, pm, pk, h1, h2, h3, h4, h5, h6⟩, q⟩ := h
    exact ⟨_, pss_one (ps_ret (pe_fld (pv 0) rfl)), .ref a, rfl, a, C, dx, fs, .ref pk, rfl, h1, L.cl, L.nk, h3, q pk h5⟩
theorem ok_leq {f C : Addr} {fd : FuncData} {k : Nat} (F : Fun K "__eq__" "Language.__eq__" sLeq f fd) (L : LCls K C) (I : LIs K C) (gL : mg "Language" = some (.ref C)) (mI : mg "isinstance" = none) : FnOk P w K mg base CX0 (k + 1) f fd ["self", "other"] (spLeq K C) := by
  refine F.ok scLeq (fun vs H Q E h => ?_) (fun cdv A outer s H vs Q E hr h => ?_)
  · obtain ⟨a, y, ms, ks, rfl, _⟩ := h
    rfl
  · obtain ⟨a, y, ms, ks, rfl, ⟨dx, fs, pm, pk, h1, h2, h3, h4, h5, h6⟩, h⟩ := h
    have hu : (A.deeper (envOfC "Language.__eq__" (defScope sLeq) s.heap.objs.size f cdv)).units + 64 < cLine := by have := hr.un; omega
    refine ⟨_, pss_cons (ps_if (pt_not (pt_val (pe_callB call_isi (by rfl) mI (by decide +kernel) (pa_cons (pv 1) (pa_cons (pe_glob (v := .ref C) rfl gL rfl) pa_nil))))) (pss_one (ps_ret pe_bl)) pss_nil)
      (pss_one (ps_ret (pe_and (pe_cmpR (op_eqP hu) (pe_fld (pv 0) (by rfl)) (pe_fld (pv 1) (by rfl)) (nomark _)) (pe_one (pe_cmpR (op_eqP hu) (pe_fld (pv 0) (by rfl)) (pe_fld (pv 1) (by rfl)) (nomark _)))))), ?_⟩
    rcases h with ⟨⟨t, ht, kt⟩, q⟩ | ⟨b, ms', ks', rfl, ⟨dx', fs', pm', pk', g1, g2, g3, g4, g5, g6⟩, q⟩
    · exact ⟨y, rfl, y, .ref C, .type t, .ref C, false, rfl, .own C, ht, kt, false, rfl, iteT q⟩
    · refine ⟨.ref b, rfl, .ref b, .ref C, .ref C, .ref C, true, rfl, .own C, .base (.ins g1 L.cl I.ha I.hn I.ht I.hm), I.me, true, rfl, iteF ?_⟩
      have dm : Dt K H (.ref pm) (PySem.W.Tup.mk ms) := dt_tup (tup_of h4) (dts_strs ms)
      have dk : Dt K H (.ref pk) (PySem.W.Tup.mk ks) := dt_tup (tup_of h5) (dts_strs ks)
      have dm' : Dt K H (.ref pm') (PySem.W.Tup.mk ms') := dt_tup (tup_of g4) (dts_strs ms')
      have dk' : Dt K H (.ref pk') (PySem.W.Tup.mk ks') := dt_tup (tup_of g5) (dts_strs ks')
      have e1 : decide (PySem.W.Tup.mk ms = PySem.W.Tup.mk ms') = decide (ms = ms') := decide_eq_decide.mpr ⟨fun z => by injection z, fun z => by rw [z]⟩
      have e2 : decide (PySem.W.Tup.mk ks = PySem.W.Tup.mk ks') = decide (ks = ks') := decide_eq_decide.mpr ⟨fun z => by injection z, fun z => by rw [z]⟩
      refine ⟨.ref a, rfl, a, C, dx, fs, .ref pm, rfl, h1, L.cl, L.nm, h2, .ref b, rfl, b, C, dx', fs', .ref pm', rfl, g1, L.cl, L.nm, g2, eq_t dm dm' ⟨_, rfl, ?_⟩⟩
      rw [e1]
      by_cases c : ms = ms'
      · rw [decide_eq_true c] at q ⊢
        refine ⟨.ref a, rfl, a, C, dx, fs, .ref pk, rfl, h1, L.cl, L.nk, h3, .ref b, rfl, b, C, dx', fs', .ref pk', rfl, g1, L.cl, L.nk, g3, eq_t dk dk' ?_⟩
        rw [e2]
        exact q
      · rw [decide_eq_false c] at q ⊢
        exact q
end
end Tf

/-! stores: the looks at what is passed, different_items -/
namespace L2
open PySem PySem.Spec PyProof.Rows
def rLenS (K : PySem.W.Frag) : List V → Hp → VK → Prop := fun xs H Q => ∃ p ys, xs = [.ref p] ∧ (SqL K H p ys ∨ SqT K H p ys) ∧ Q (.int ys.length) H
theorem call_lenS {X : Cx} : CallR X (.builtin "len") (rLenS X.K) := call_len_seq
end L2
namespace Tf
open PySem PySem.Spec PyProof.Rows L2 PySem.W
abbrev sRl : Stmt := top 14
abbrev sRp : Stmt := top 24
abbrev sDi : Stmt := top 25
abbrev nRp : List Str := ["language", "things", "pair", "marks", "links", "mark", "link", "kind", "end"]
theorem scRl : FnScope ["language"] ["language"] (defScope sRl) := ⟨rfl, rfl, rfl, by decide +kernel, rfl, by decide +kernel, by decide +kernel⟩
theorem scRp : FnScope nRp ["language", "things", "pair"] (defScope sRp) := ⟨rfl, rfl, rfl, by decide +kernel, rfl, by decide +kernel, by decide +kernel⟩
theorem scDi : FnScope ["items", "item"] ["items"] (defScope sDi) := ⟨rfl, rfl, rfl, by decide +kernel, rfl, by decide +kernel, by decide +kernel⟩
def spRl (C : Addr) : Sp := fun vs H Q _ => ∃ (a : Addr) (ms ks : List Str), vs = [.ref a] ∧ LangAt C H a ms ks ∧ Q .non H
/-- marks of the language, links of its kinds to things: in any order, also repeated -/
structure PIn (ms ks names : List Str) (p : Pr) : Prop where
  mm : ∀ z ∈ p.1.items, z ∈ ms
  ml : ∀ e ∈ p.2.items, e.1 ∈ ks ∧ e.2 ∈ names
  l1 : p.1.items.length ≤ 60
  l2 : p.2.items.length ≤ 60
theorem PTh.inp {ms ks ns : List Str} {p : Pr} (h : PTh ms ks ns p) : PIn ms ks ns p := ⟨h.mm, h.ml, h.l1, Nat.le_trans h.l2 (by decide)⟩
def spRp (C : Addr) : Sp := fun vs H Q _ => ∃ (a t : Addr) (v : V) (ms ks : List Str) (kvs : List (Key × V)) (ps : Ps) (p : Pr), vs = [.ref a, .ref t, v] ∧ LangAt C H a ms ks ∧ Rd H t (.dK kvs) ∧ PsR H kvs ps ∧ Tt H v p ∧ PIn ms ks (ps.map (·.1)) p ∧ ∀ H', Same H H' → Q .non H'
def spDiS : Sp := fun vs H Q _ => ∃ (a : Addr) (zs : List Str), vs = [.ref a] ∧ H a = some (.tup (zs.map V.str)) ∧ zs.length ≤ 60 ∧ ∀ (p : Addr) (H' : Hp), Same H H' → H p = none → H' p = some (.tup ((canon zs).map V.str)) → Q (.ref p) H'
def spDiP : Sp := fun vs H Q _ => ∃ (v : V) (ls : List (Str × Str)), vs = [v] ∧ Tt H v (Tup.mk ls) ∧ ls.length ≤ 60 ∧ ∀ (p : Addr) (H' : Hp), Same H H' → H p = none → Tt H' (.ref p) (Tup.mk (setO ls)) → Q (.ref p) H'
theorem keyP (x y : Str) : ([Sum.inr x, Sum.inr y] : List Key).map kV = [.str x, .str y] := rfl
abbrev kP (e : Str × Str) : List Key := [Sum.inr e.1, Sum.inr e.2]
theorem kP_inj {a b : Str × Str} (h : kP a = kP b) : a = b := by
  injection h with h1 h2
  injection h2 with h2 _
  exact Prod.ext (Sum.inr.inj h1) (Sum.inr.inj h2)
abbrev keyU (e : Str × Str) : List Key × V := (kP e, .bl true)
theorem put_keyU (L : List (Str × Str)) (x : Str × Str) : putK (L.map keyU) (kP x) (.bl true) = (if x ∈ L then L else L ++ [x]).map keyU := by
  unfold putK
  by_cases h : x ∈ L
  · have e : ((L.map keyU).any fun kv => decide (kv.1 = kP x)) = true := List.any_eq_true.mpr ⟨keyU x, List.mem_map.mpr ⟨x, h, rfl⟩, decide_eq_true rfl⟩
    rw [if_pos e, if_pos h, List.map_map]
    refine List.map_congr_left fun z _ => ?_
    show (if kP z = kP x then (kP z, V.bl true) else keyU z) = keyU z
    split <;> rfl
  · have e : ¬ (((L.map keyU).any fun kv => decide (kv.1 = kP x)) = true) := fun z => by
      obtain ⟨kv, hm, hk⟩ := List.any_eq_true.mp z
      obtain ⟨y, hy, rfl⟩ := List.mem_map.mp hm
      have ey : kP y = kP x := of_decide_eq_true hk
      exact h (by rw [← kP_inj ey]; exact hy)
    rw [if_neg e, if_neg h, List.map_append]
    rfl
theorem keys_back {H : Hp} : ∀ {L : List (Str × Str)} {bs : List Addr}, IsKeys H (L.map keyU) bs → ∃ zs : List (Addr × (Str × Str)), bs = zs.map (·.1) ∧ L = zs.map (·.2) ∧ ∀ z ∈ zs, Tt H (.ref z.1) z.2
  | [], _, .nil => ⟨[], rfl, rfl, fun z hz => by cases hz⟩
  | e :: L, _, .cons (b := b) h r => by
    obtain ⟨zs, e1, e2, e3⟩ := keys_back r
    refine ⟨(b, e) :: zs, by rw [e1]; rfl, by rw [e2]; rfl, fun z hz => ?_⟩
    rcases List.mem_cons.mp hz with rfl | hz
    · exact tt_pair h tt_str tt_str
    · exact e3 z hz
section
variable {P : Program} {w : World} {K : PySem.W.Frag} {mg : Str → Option Value} {base : Heap}
theorem ok_rl {f C : Addr} {fd : FuncData} {k : Nat} (F : Fun K "require_language" "require_language" sRl f fd) (L : LCls K C) (I : LIs K C) (gC : mg "Language" = some (.ref C)) (mI : mg "isinstance" = none) : FnOk P w K mg base CX0 (k + 1) f fd ["language"] (spRl C) := by
  refine F.ok scRl (fun vs H Q E h => ?_) (fun cdv A outer s H vs Q E hr h => ?_)
  · obtain ⟨a, ms, ks, rfl, _⟩ := h
    rfl
  · obtain ⟨a, ms, ks, rfl, ⟨dx, fs, pm, pk, h1, _⟩, q⟩ := h
    exact ⟨_, pss_one (ps_if (pt_not (pt_val (pe_callB call_isi (by rfl) mI (by decide +kernel) (pa_cons (pv 0) (pa_cons (pe_glob (v := .ref C) rfl gC rfl) pa_nil))))) (pss_one ps_off) pss_nil),
      .ref a, rfl, .ref a, .ref C, .ref C, .ref C, true, rfl, .own C, .base (.ins h1 L.cl I.ha I.hn I.ht I.hm), I.me, true, rfl, iteF q⟩
theorem ok_dis {f : Addr} {fd : FuncData} {k : Nat} (F : Fun K "different_items" "different_items" sDi f fd) (mT : mg "tuple" = none) (mS : mg "sorted" = none) (mL : mg "list" = none) : FnOk P w K mg base CX0 (k + 1) f fd ["items"] spDiS := by
  refine F.ok scDi (fun vs H Q E h => ?_) (fun cdv A outer s H vs Q E hr h => ?_)
  · obtain ⟨a, zs, rfl, _⟩ := h
    rfl
  · obtain ⟨a, zs, rfl, ha, hl, q⟩ := h
    have hS : SqT K H a (zs.map V.str) := tup_of ha
    refine ⟨_, pss_one (ps_ret (pe_callTy call_tuple_of (by rfl) mT (by decide +kernel) (pa_cons (pe_callB cr_sortedS (by rfl) mS (by decide +kernel) (pa_cons (pe_callTy (call_list_dK rfl) (by rfl) mL (by decide +kernel) (pa_cons
        (pe_dc (own := [("item", 1)]) (g := gName 1) (tt := tYes) (by rfl) scDi.nd (pi_tup (pv 0)) (blkOk_by (own := [("item", 1)]) (N := ["items", "item"]) (sc := defScope sDi) (by decide +kernel)) (fun _ _ _ _ _ => pg_name (i := 1) scDi.nd rfl (Or.inl rfl)) (fun _ _ _ _ _ => pts_nil) (fun _ _ _ _ _ => pv 1) (fun _ _ _ _ _ => pe_bl)) pa_nil)) pa_nil)) pa_nil))), ?_⟩
    refine ⟨.ref a, rfl, a, rfl, ⟨_, hS⟩, fun D3 nD3 => dc_tup (xs := zs.map V.str) (fun i H3 => Same H H3 ∧ H3 D3 = some (.dK ((firsts (zs.take i)).map keyT))) ⟨same_new nD3, by rw [upd_same]; rfl⟩ (fun i H3 _ p => p.1.tup hS) (fun i x H3 hx p => ?_) fun H3 p => ?_⟩
    · obtain ⟨s3, e3⟩ := p
      rw [List.getElem?_map] at hx
      cases hz : zs[i]? with
      | none => rw [hz] at hx; cases hx
      | some z =>
        rw [hz] at hx
        have ex : V.str z = x := Option.some.inj hx
        subst ex
        have hi : i < zs.length := (List.getElem?_eq_some_iff.mp hz).1
        have tk : zs.take (i + 1) = zs.take i ++ [z] := by rw [List.take_add_one, hz]; rfl
        refine ⟨by simp [wipe], ?_⟩
        unfold tYes
        simp only [↓reduceIte]
        refine ⟨_, rfl, _, Sum.inr z, rfl, e3, ?_, ?_, ?_⟩
        · have := firsts_len (zs.take i)
          rw [List.length_map]
          rw [List.length_take] at this
          exact small1000 (by omega)
        · exact s3.mut nD3
        · rw [upd_same, put_keyT, ← firsts_snoc, ← tk]
    · obtain ⟨s3, e3⟩ := p
      rw [List.length_map, List.take_length] at e3
      refine ⟨D3, _, rfl, e3, fun p4 n4 => ?_⟩
      have fl := firsts_len zs
      refine ⟨p4, firsts zs, rfl, lst_of ?_, by omega, fun ys p5 pm so n5 => ?_⟩
      · rw [upd_same, List.map_map]
        rfl
      · have ey : ys = canon zs := canon_is pm so
        subst ey
        refine ⟨p5, _, rfl, .inl ⟨lst_of upd_same, fun p6 n6 => ?_⟩⟩
        have s6 := (s3.new n4 |>.new n5).new (o := .tup ((canon zs).map V.str)) n6
        exact q p6 _ s6 ((s3.new n4 |>.new n5).free n6) upd_same
theorem ok_dip {f : Addr} {fd : FuncData} {k : Nat} (F : Fun K "different_items" "different_items" sDi f fd) (mT : mg "tuple" = none) (mS : mg "sorted" = none) (mL : mg "list" = none) : FnOk P w K mg base CX0 (k + 1) f fd ["items"] spDiP := by
  refine F.ok scDi (fun vs H Q E h => ?_) (fun cdv A outer s H vs Q E hr h => ?_)
  · obtain ⟨v, ls, rfl, _⟩ := h
    rfl
  · obtain ⟨v, ls, rfl, hv, hl, q⟩ := h
    have hu : (A.deeper (envOfC "different_items" (defScope sDi) s.heap.objs.size f cdv)).units + 70 < cLine := by have := hr.un; omega
    have hu1 : (A.deeper (envOfC "different_items" (defScope sDi) s.heap.objs.size f cdv)).units + 1 < cLine := by omega
    obtain ⟨a, us, rfl, ha, tu⟩ := hv.tup
    obtain ⟨zs, rfl, rfl, tz⟩ := Tts.refs tu
    have hS : SqT K H a (zs.map fun z => V.ref z.1) := tup_of ha
    refine ⟨_, pss_one (ps_ret (pe_callTy call_tuple_of (by rfl) mT (by decide +kernel) (pa_cons (pe_callB (cr_sortA (α := Str × Str) hu) (by rfl) mS (by decide +kernel) (pa_cons (pe_callTy (call_list_dT rfl) (by rfl) mL (by decide +kernel) (pa_cons
        (TfG2.pe_dg (k := TfG2.kT) (own := [("item", 1)]) (g := gName 1) (tt := tYes) TfG2.kT_ok hu1 (by rfl) scDi.nd (pi_tup (pv 0)) (blkOk_by (own := [("item", 1)]) (N := ["items", "item"]) (sc := defScope sDi) (by decide +kernel)) (fun _ _ _ _ _ => pg_name (i := 1) scDi.nd rfl (Or.inl rfl)) (fun _ _ _ _ _ => pts_nil) (fun _ _ _ _ _ => pv 1) (fun _ _ _ _ _ => pe_bl)) pa_nil)) pa_nil)) pa_nil))), ?_⟩
    rw [List.length_map] at hl
    refine ⟨.ref a, rfl, a, rfl, ⟨_, hS⟩, fun D nD => ?_⟩
    refine ⟨fun i m H3 => m = zs.length - i ∧ i ≤ zs.length ∧ Same H H3 ∧ H3 D = some (.dT ((onceO ((zs.take i).map (·.2))).map keyU)), ⟨zs.length, by simp, Nat.zero_le _, same_new nD, upd_same⟩, ?_⟩
    rintro i m H3 ⟨rfl, hi, s3, e3⟩
    by_cases lt : i < zs.length
    · refine .inr ⟨⟨_, .ref zs[i].1, s3.tup hS, by rw [List.getElem?_map, List.getElem?_eq_getElem lt]; rfl⟩, fun H4 => Same H H4 ∧ H4 D = some (.dT ((onceO ((zs.take (i + 1)).map (·.2))).map keyU)), fun H4 ⟨s4, e4⟩ => ⟨zs.length - (i + 1), by omega, rfl, lt, s4, e4⟩, fun x H4 y => ?_⟩
      obtain ⟨rfl, y⟩ := y
      have ex := y _ (s3.tup hS)
      rw [List.getElem?_map, List.getElem?_eq_getElem lt] at ex
      have ex' : V.ref zs[i].1 = x := Option.some.inj ex
      subst ex'
      have tk : zs.take (i + 1) = zs.take i ++ [zs[i]] := by rw [List.take_add_one, List.getElem?_eq_getElem lt]; rfl
      refine ⟨by simp [wipe], ?_⟩
      unfold tYes
      simp only [↓reduceIte]
      obtain ⟨b, u1, u2, eb, hb, t1, t2⟩ := (tz zs[i] (List.getElem_mem lt)).pair
      have eb' : zs[i].1 = b := by injection eb
      subst eb'
      rw [t1.str, t2.str] at hb
      refine ⟨_, rfl, _, ⟨_, kP zs[i].2, zs[i].1, rfl, e3, s3 _ _ hb, ?_, rfl⟩, s3.mut nD, ?_⟩
      · have := onceO_len ((zs.take i).map (·.2))
        rw [List.length_map]
        rw [List.length_map, List.length_take] at this
        exact small1000 (by omega)
      · rw [upd_same, put_keyU, tk, List.map_append, List.map_singleton, onceO_snoc]
        by_cases hm : zs[i].2 ∈ onceO ((zs.take i).map (·.2))
        · rw [if_pos hm, if_pos hm]
        · rw [if_neg hm, if_neg hm]
    · have e : i = zs.length := by omega
      subst e
      rw [List.take_length] at e3
      refine .inl ⟨⟨_, s3.tup hS, by rw [List.length_map]; exact Nat.le_refl _⟩, ?_⟩
      refine ⟨D, _, rfl, .inl e3, fun p4 bs n4 kb => ?_⟩
      obtain ⟨ws, rfl, ew, tw⟩ := keys_back kb
      have lw : ws.length ≤ 60 := by
        have z := congrArg List.length ew
        have := onceO_len (zs.map (·.2))
        rw [List.length_map] at z this
        omega
      rw [List.map_map]
      have e4 : (upd H3 p4 (.lst (ws.map (V.ref ∘ fun x => x.1)))) p4 = some (.lst (ws.map (V.ref ∘ fun x => x.1))) := upd_same
      have s4 : Same H3 (upd H3 p4 (.lst (ws.map (V.ref ∘ fun x => x.1)))) := same_new n4
      generalize upd H3 p4 (.lst (ws.map (V.ref ∘ fun x => x.1))) = H4 at *
      refine ⟨p4, ws.map fun z => (V.ref z.1, z.2), rfl, lst_of (by rw [e4, List.map_map]; rfl), fun b hb => ?_, by rw [List.length_map]; omega, fun cs p5 pm so n5 => ?_⟩
      · obtain ⟨z, hz, rfl⟩ := List.mem_map.mp hb
        exact ((tw z hz).kq s4.kq).dt
      have e5 : (upd H4 p5 (.lst (cs.map (·.1)))) p5 = some (.lst (cs.map (·.1))) := upd_same
      have s5 : Same H4 (upd H4 p5 (.lst (cs.map (·.1)))) := same_new n5
      generalize upd H4 p5 (.lst (cs.map (·.1))) = H5 at *
      refine ⟨p5, _, rfl, .inl ⟨lst_of e5, fun p6 n6 => ?_⟩⟩
      have f6 : H p6 = none := (s3.trans (s4.trans s5)).free n6
      have e6 : (upd H5 p6 (.tup (cs.map (·.1)))) p6 = some (.tup (cs.map (·.1))) := upd_same
      have s6 : Same H5 (upd H5 p6 (.tup (cs.map (·.1)))) := same_new n6
      generalize upd H5 p6 (.tup (cs.map (·.1))) = H6 at *
      refine q p6 H6 (s3.trans (s4.trans (s5.trans s6))) f6 ?_
      have ec : cs.map (·.2) = setO (zs.map (·.2)) := by
        rw [so, List.map_map]
        show sortO (ws.map (·.2)) = _
        rw [← ew]
        rfl
      rw [← ec]
      refine tt_tup e6 ?_
      have all : ∀ c ∈ cs, Tt H6 c.1 c.2 := fun c hc => by
        obtain ⟨z, hz, rfl⟩ := List.mem_map.mp (pm.mem_iff.mp hc)
        exact (tw z hz).kq (s4.trans (s5.trans s6)).kq
      clear e5 e6 so ec pm
      induction cs with
      | nil => exact .nil
      | cons c cs ih => exact .cons (all c List.mem_cons_self) (ih fun d hd => all d (List.mem_cons_of_mem _ hd))
end
end Tf

/-! stores: require_pair -/
namespace Tf
open PySem PySem.Spec PyProof.Rows L2 PySem.W
section
variable {P : Program} {w : World} {K : PySem.W.Frag} {mg : Str → Option Value} {base : Heap}
abbrev tIsa (K : PySem.W.Frag) (i : Nat) (ty : String) : TE := tCB (rIsi K) (tCons (tVar i) (tCons (tC (.ty ty)) tNil))
theorem all_true {α : Type} (xs : List α) : (xs.map fun _ => true).all id = true := by
  rw [List.all_map]
  exact List.all_eq_true.mpr fun _ _ => rfl
theorem ok_rp {f C : Addr} {fd : FuncData} {k : Nat} (F : Fun K "require_pair" "require_pair" sRp f fd) (L : LCls K C) (PM : PpN P w K mg base k C "marks" (spLmk C true)) (PK : PpN P w K mg base k C "kinds" (spLmk C false))
    (mI : mg "isinstance" = none) (mT : mg "tuple" = none) (mN : mg "len" = none) (mA : mg "all" = none) (mS : mg "str" = none) : FnOk P w K mg base CX0 (k + 2) f fd ["language", "things", "pair"] (spRp C) := by
  refine F.ok scRp (fun vs H Q E h => ?_) (fun cdv A outer s H vs Q E hr h => ?_)
  · obtain ⟨a, t, v, ms, ks, kvs, ps, p, rfl, _⟩ := h
    rfl
  · obtain ⟨a, t, v, ms, ks, kvs, ps, p, rfl, hL, ht, hps, hv, hp, q⟩ := h
    have hu : (A.deeper (envOfC "require_pair" (defScope sRp) s.heap.objs.size f cdv)).units + 1 < cLine := by have := hr.un; omega
    refine ⟨_, pss_cons (ps_if (PW.pt (pw_or (pt_not (pt_val (pe_callB call_isi (by rfl) mI (by decide +kernel) (pa_cons (pv 2) (pa_cons (pe_bltn (v := .ty "tuple") (by rfl) mT (by decide +kernel) rfl) pa_nil))))) (pw_or1 (pt_cmpR op_ne (pe_callB call_lenS (by rfl) mN PySem.boot_len (pa_cons (pv 2) pa_nil)) pe_int (nomark _))))) (pss_one ps_off) pss_nil)
      (pss_cons (ps_asg (pv 2) (pg_tup (by rfl) (pgs_cons (pg_name (i := 3) scRp.nd rfl (.inl rfl)) (pgs_cons (pg_name (i := 4) scRp.nd rfl (.inl rfl)) pgs_nil))))
      (pss_cons (ps_if (PW.pt (pw_or (pt_not (pt_val (pe_callB call_isi (by rfl) mI (by decide +kernel) (pa_cons (pv 3) (pa_cons (pe_bltn (v := .ty "tuple") (by rfl) mT (by decide +kernel) rfl) pa_nil))))) (pw_or1 (pt_not (pt_val (pe_callB (cr_all rfl) (by rfl) mA (by decide +kernel) (pa_cons
          (pe_lc (own := [("mark", 5)]) (g := gName 5) (tt := tYes) (te := tOp (rIn K false) (tVar 5) (tProp C (spLmk C true) [] E0 (tVar 0))) (by rfl) scRp.nd (pi_tup (pv 3)) (blkOk_by (own := [("mark", 5)]) (N := nRp) (sc := defScope sRp) (by decide +kernel)) (fun _ _ _ _ _ => pg_name (i := 5) scRp.nd rfl (Or.inl rfl)) (fun _ _ _ _ _ => pts_nil)
            (fun _ _ _ _ _ => pe_cmpR op_in_seq (pv 5) (pe_ppn L.cl PM hr (pv 0)) (by rfl))) pa_nil))))))) (pss_one ps_off) pss_nil)
      (pss_cons (ps_if (PW.pt (pw_or (pt_not (pt_val (pe_callB call_isi (by rfl) mI (by decide +kernel) (pa_cons (pv 4) (pa_cons (pe_bltn (v := .ty "tuple") (by rfl) mT (by decide +kernel) rfl) pa_nil))))) (pw_or1 (pt_not (pt_val (pe_callB (cr_all rfl) (by rfl) mA (by decide +kernel) (pa_cons
          (pe_lc (own := [("link", 6)]) (g := gName 6) (tt := tYes) (te := tAndV (tIsa K 6 "tuple") (tOp rEq (tCB (rLenS K) (tCons (tVar 6) tNil)) (tC (.int 2)))) (by rfl) scRp.nd (pi_tup (pv 4)) (blkOk_by (own := [("link", 6)]) (N := nRp) (sc := defScope sRp) (by decide +kernel)) (fun _ _ _ _ _ => pg_name (i := 6) scRp.nd rfl (Or.inl rfl)) (fun _ _ _ _ _ => pts_nil)
            (fun _ _ _ _ _ => pe_and (pe_callB call_isi (by rfl) mI (by decide +kernel) (pa_cons (pv 6) (pa_cons (pe_bltn (v := .ty "tuple") (by rfl) mT (by decide +kernel) rfl) pa_nil))) (pe_one (pe_cmpR op_eq (pe_callB call_lenS (by rfl) mN PySem.boot_len (pa_cons (pv 6) pa_nil)) pe_int (nomark _))))) pa_nil))))))) (pss_one ps_off) pss_nil)
      (pss_one (ps_if (pt_not (pt_val (pe_callB (cr_all rfl) (by rfl) mA (by decide +kernel) (pa_cons
          (pe_lc (own := [("kind", 7), ("end", 8)]) (g := gTup K 2 (gCons (gName 7) (gCons (gName 8) gNil))) (tt := tYes) (te := tAndV (tOp (rIn K false) (tVar 7) (tProp C (spLmk C false) [] E0 (tVar 0))) (tAndV (tIsa K 8 "str") (tDIn (tVar 8) (tVar 1)))) (by rfl) scRp.nd (pi_tup (pv 4)) (blkOk_by (own := [("kind", 7), ("end", 8)]) (N := nRp) (sc := defScope sRp) (by decide +kernel)) (fun _ _ _ _ _ => pg_tup (by rfl) (pgs_cons (pg_name (i := 7) scRp.nd rfl (Or.inl rfl)) (pgs_cons (pg_name (i := 8) scRp.nd rfl (Or.inl rfl)) pgs_nil))) (fun _ _ _ _ _ => pts_nil)
            (fun _ _ _ _ _ => pe_and (pe_cmpR op_in_seq (pv 7) (pe_ppn L.cl PK hr (pv 0)) (by rfl)) (pe_and (pe_callB call_isi (by rfl) mI (by decide +kernel) (pa_cons (pv 8) (pa_cons (pe_bltn (v := .ty "str") (by rfl) mS (by decide +kernel) rfl) pa_nil))) (pe_one (pe_cmp (pc_din hu (pv 8) (pv 1)) (by rfl)))))) pa_nil)))) (pss_one ps_off) pss_nil))))), ?_⟩
    obtain ⟨b, u1, u2, rfl, hb, t1, t2⟩ := hv.pair
    obtain ⟨am, vm, rfl, ham, tm⟩ := t1.tup
    obtain ⟨al, vl, rfl, hal, tl⟩ := t2.tup
    have em := Tts.strs tm
    subst em
    obtain ⟨zl, rfl, el, tz⟩ := Tts.refs tl
    -- a pair
    refine ⟨.ref b, rfl, .ref b, .ty "tuple", .type "tuple", .type "tuple", true, rfl, .ty _, ty_tup (tup_of hb), kit_ty (by decide +kernel), true, rfl, iteF ?_⟩
    refine ⟨.ref b, rfl, b, _, rfl, .inr (tup_of hb), rfl, false, rfl, iteF ?_⟩
    refine ⟨.ref b, rfl, b, _, rfl, tup_of hb, rfl, _, _, rfl, _, _, rfl, rfl, ?_⟩
    -- its marks
    refine ⟨.ref am, rfl, .ref am, .ty "tuple", .type "tuple", .type "tuple", true, rfl, .ty _, ty_tup (tup_of ham), kit_ty (by decide +kernel), true, rfl, iteF ?_⟩
    refine ⟨.ref am, rfl, am, rfl, ⟨_, tup_of ham⟩, fun D nD => lc_map (h := V.str) (xs := p.1.items) (by have := walk_tup (K := K) (a := am) (xs := p.1.items.map V.str); rw [List.length_map] at this; exact this) rfl (fun _ => .bl true) nD (fun H2 s2 => tup_of (s2 _ _ ham)) (by have := hp.l1; omega) (fun z hz H2 s2 Q' q' => ?_) fun H2 s2 e2 => ?_⟩
    · obtain ⟨dx, fs, pm, pk, h1, h2, h3, h4, h5, h6⟩ := hL
      refine ⟨_, rfl, .ref a, rfl, a, dx, fs, rfl, s2 _ _ h1, a, ms, ks, rfl, ⟨dx, fs, pm, pk, s2 _ _ h1, h2, h3, s2 _ _ h4, s2 _ _ h5, h6⟩, fun p' hp' => ⟨p', _, rfl, .inr (tup_of hp'), rfl, flat_strs _, ?_⟩⟩
      rw [if_pos rfl, inV_strs, decide_eq_true (hp.mm z hz)]
      exact q' H2 (Same.refl H2)
    refine ⟨D, p.1.items.map fun _ => true, rfl, lst_of (by rw [e2, List.map_map]; rfl), ?_⟩
    rw [all_true]
    refine ⟨true, rfl, iteF ?_⟩
    have hal2 := s2 _ _ hal
    -- its links are pairs
    refine ⟨.ref al, rfl, .ref al, .ty "tuple", .type "tuple", .type "tuple", true, rfl, .ty _, ty_tup (tup_of hal2), kit_ty (by decide +kernel), true, rfl, iteF ?_⟩
    have lz : zl.length ≤ 60 := by
      have z := hp.l2
      rw [el, List.length_map] at z
      exact z
    refine ⟨.ref al, rfl, al, rfl, ⟨_, tup_of hal2⟩, fun D3 nD3 => lc_map (h := fun z : Addr × (Str × Str) => V.ref z.1) (xs := zl) (by have := walk_tup (K := K) (a := al) (xs := zl.map fun z => V.ref z.1); rw [List.length_map] at this; exact this) rfl (fun _ => .bl true) nD3 (fun H3 s3 => tup_of (s3 _ _ hal2)) (by omega) (fun z hz H3 s3 Q' q' => ?_) fun H3 s3 e3 => ?_⟩
    · obtain ⟨c, x1, x2, ec, hc, _, _⟩ := (tz z hz).pair
      have ec' : z.1 = c := by injection ec
      subst ec'
      have hc3 := s3 _ _ (s2 _ _ hc)
      exact ⟨_, rfl, _, .ty "tuple", .type "tuple", .type "tuple", true, rfl, .ty _, ty_tup (tup_of hc3), kit_ty (by decide +kernel), true, rfl, iteT ⟨_, rfl, z.1, _, rfl, .inr (tup_of hc3), rfl, q' H3 (Same.refl H3)⟩⟩
    refine ⟨D3, zl.map fun _ => true, rfl, lst_of (by rw [e3, List.map_map]; rfl), ?_⟩
    rw [all_true]
    refine ⟨true, rfl, iteF ?_⟩
    have s23 := s2.trans s3
    have hal3 := s3 _ _ hal2
    -- of the language, to things
    refine ⟨.ref al, rfl, al, rfl, ⟨_, tup_of hal3⟩, fun D4 nD4 => lc_ong (h := fun z : Addr × (Str × Str) => V.ref z.1) (xs := zl) (vs := [7, 8]) (by have := walk_tup (K := K) (a := al) (xs := zl.map fun z => V.ref z.1); rw [List.length_map] at this; exact this) rfl (fun z => [some (.ref a), some (.ref t), some (.ref b), some (.ref am), some (.ref al), none, none, some (.str z.2.1), some (.str z.2.2)]) (fun _ => true) (fun _ => .bl true) nD4 (fun H4 s4 => tup_of (s4 _ _ hal3)) (by omega) (fun z hz H4 s4 R hR => ?_) (fun z hz => rfl) (fun z hz H4 s4 => tto_yes) (fun z hz _ H4 s4 Q' q' => ?_) fun H4 s4 e4 => ?_⟩
    · obtain ⟨c, x1, x2, ec, hc, y1, y2⟩ := (tz z hz).pair
      have ec' : z.1 = c := by injection ec
      subst ec'
      rw [y1.str, y2.str] at hc
      exact ⟨z.1, _, rfl, tup_of (s4 _ _ (s23 _ _ hc)), rfl, _, _, rfl, _, _, rfl, rfl, hR⟩
    · obtain ⟨dx, fs, pm, pk, h1, h2, h3, h4, h5, h6⟩ := hL
      have S := s23.trans s4
      have mz : z.2 ∈ p.2.items := by
        rw [el]
        exact List.mem_map.mpr ⟨z, hz, rfl⟩
      obtain ⟨m1, m2⟩ := hp.ml _ mz
      refine ⟨_, rfl, .ref a, rfl, a, dx, fs, rfl, S _ _ h1, a, ms, ks, rfl, ⟨dx, fs, pm, pk, S _ _ h1, h2, h3, S _ _ h4, S _ _ h5, h6⟩, fun p' hp' => ⟨p', _, rfl, .inr (tup_of hp'), rfl, flat_strs _, ?_⟩⟩
      rw [if_neg Bool.false_ne_true, if_neg Bool.false_ne_true, inV_strs, decide_eq_true m1]
      refine ⟨true, rfl, iteT ⟨_, rfl, _, .ty "str", .type "str", .type "str", true, rfl, .ty _, .base (.str _), kit_ty (by decide +kernel), true, rfl, iteT ?_⟩⟩
      obtain ⟨v', x', hv', _, _⟩ := hps.hit m2
      refine ⟨_, rfl, .ref t, rfl, t, _, rfl, .inl ⟨kvs, Sum.inr z.2.2, S.le.dk ht, rfl, rfl⟩, ?_⟩
      rw [hv']
      exact q' H4 (Same.refl H4)
    refine ⟨D4, zl.map fun _ => true, rfl, lst_of (by rw [e4, fil_true, List.map_map]; rfl), ?_⟩
    rw [all_true]
    exact ⟨true, rfl, iteF (q H4 (s23.trans s4))⟩
end
end Tf

/-! stores: checked_things, Store.of -/
namespace Tf
open PySem PySem.Spec PyProof.Rows L2 PySem.W
abbrev sCk : Stmt := top 26
abbrev nCk : List Str := ["language", "things", "thing", "found", "marks", "links"]
theorem scCk : FnScope nCk ["language", "things"] (defScope sCk) := ⟨rfl, rfl, rfl, by decide +kernel, rfl, by decide +kernel, by decide +kernel⟩
/-- marks and links, each once, ascending -/
def normP (p : Pr) : Pr := (⟨canon p.1.items⟩, ⟨setO p.2.items⟩)
def getP (ps : Ps) (z : Str) : Pr := (look ps z).getD (⟨[]⟩, ⟨[]⟩)
/-- the things ascending -/
def normS (ps : Ps) : Ps := (canon (ps.map (·.1))).map fun z => (z, normP (getP ps z))
/-- what may be passed as a store -/
structure SIn (ms ks : List Str) (ps : Ps) : Prop where
  nd : (ps.map (·.1)).Nodup
  wd : ∀ z ∈ ps.map (·.1), nameB z = true
  th : ∀ p ∈ ps, PIn ms ks (ps.map (·.1)) p.2
  len : ps.length ≤ 60
theorem PSt.sin {ms ks : List Str} {ps : Ps} (h : PSt ms ks ps) : SIn ms ks ps := ⟨h.nd, h.wd, fun p hp => (h.th p hp).inp, h.len⟩
theorem look_mem {ps : Ps} (nd : (ps.map (·.1)).Nodup) {z : Str} {x : Pr} (h : (z, x) ∈ ps) : look ps z = some x := by
  induction ps with
  | nil => cases h
  | cons p ps ih =>
    rw [List.map_cons, List.nodup_cons] at nd
    unfold look
    by_cases e : p.1 = z
    · rw [List.find?_cons_of_pos (by exact decide_eq_true e)]
      rcases List.mem_cons.mp h with c | c
      · rw [← c]; rfl
      · exact absurd (by rw [e]; exact List.mem_map.mpr ⟨_, c, rfl⟩) nd.1
    · rw [List.find?_cons_of_neg (by rw [decide_eq_true_eq]; exact e)]
      rcases List.mem_cons.mp h with c | c
      · exact absurd (by rw [← c]) e
      · exact ih nd.2 c
theorem getP_mem {ps : Ps} (nd : (ps.map (·.1)).Nodup) {z : Str} {x : Pr} (h : (z, x) ∈ ps) : getP ps z = x := by
  unfold getP
  rw [look_mem nd h]
  rfl
/-- what stands in the dict at z -/
theorem PsR.get {H : Hp} {kvs : List (Key × V)} {ps : Ps} {z : Str} (h : PsR H kvs ps) (nd : (ps.map (·.1)).Nodup) (m : z ∈ ps.map (·.1)) : ∃ v, valV kvs (Sum.inr z) = some v ∧ Tt H v (getP ps z) ∧ (z, getP ps z) ∈ ps := by
  obtain ⟨v, x, h1, h2, h3⟩ := h.hit m
  rw [← getP_mem nd h2] at h3 h2
  exact ⟨v, h1, h3, h2⟩
theorem normS_names (ps : Ps) : (normS ps).map (·.1) = canon (ps.map (·.1)) := by
  unfold normS
  rw [List.map_map]
  exact List.map_id' _
def spCk (C : Addr) : Sp := fun vs H Q _ => ∃ (a t : Addr) (ms ks : List Str) (kvs : List (Key × V)) (ps : Ps), vs = [.ref a, .ref t] ∧ LangAt C H a ms ks ∧ H t = some (.dK kvs) ∧ PsR H kvs ps ∧ SIn ms ks ps ∧
  ∀ (p : Addr) (kvs' : List (Key × V)) (H' : Hp), Same H H' → H p = none → H' p = some (.dK kvs') → PsR H' kvs' (normS ps) → Q (.ref p) H'
theorem ps_keys {H : Hp} {kvs : List (Key × V)} {ps : Ps} (h : PsR H kvs ps) : (kvs.map fun kv => kV kv.1) = (ps.map (·.1)).map V.str := by
  have e := congrArg (List.map kV) h.keys
  rw [List.map_map, List.map_map] at e
  rw [List.map_map]
  exact e
section
variable {P : Program} {w : World} {K : PySem.W.Frag} {mg : Str → Option Value} {base : Heap}
theorem ok_ck {f C : Addr} {fd : FuncData} {k : Nat} {t4 : Tok} (F : Fun K "checked_things" "checked_things" sCk f fd) (GN : CdN P w K mg base k "is_name" ["value"] (spName K)) (GP : CdN P w K mg base k "require_pair" ["language", "things", "pair"] (spRp C)) (GS : CdN P w K mg base k "different_items" ["items"] spDiS) (GL : CdN P w K mg base k "different_items" ["items"] spDiP)
    (mI : mg "isinstance" = none) (mD : mg "dict" = none) (mA : mg "all" = none) (mN : mg "len" = none) (mS : mg "sorted" = none) (mL : mg "list" = none) (g4 : mg "MAX_THINGS" = some (.int 400 t4)) : FnOk P w K mg base CX0 (k + 1) f fd ["language", "things"] (spCk C) := by
  refine F.ok scCk (fun vs H Q E h => ?_) (fun cdv A outer s H vs Q E hr h => ?_)
  · obtain ⟨a, t, ms, ks, kvs, ps, rfl, _⟩ := h
    rfl
  · obtain ⟨a, t, ms, ks, kvs, ps, rfl, hL, ht, hps, si, q⟩ := h
    have hu : (A.deeper (envOfC "checked_things" (defScope sCk) s.heap.objs.size f cdv)).units + 1 < cLine := by have := hr.un; omega
    refine ⟨_, pss_cons (ps_if (PW.pt (pw_or (pt_not (pt_val (pe_callB call_isi (by rfl) mI (by decide +kernel) (pa_cons (pv 1) (pa_cons (pe_bltn (v := .ty "dict") (by rfl) mD (by decide +kernel) rfl) pa_nil))))) (pw_or1 (pt_not (pt_val (pe_callB (cr_all rfl) (by rfl) mA (by decide +kernel) (pa_cons (pe_lock (pe_lc (own := [("thing", 2)]) (g := gName 2) (tt := tYes) (te := tCall (spName K) [] E0 (tCons (tVar 2) tNil)) (by rfl) scCk.nd (pi_keys (pv 1)) (blkOk_by (own := [("thing", 2)]) (N := nCk) (sc := defScope sCk) (by decide +kernel)) (fun _ _ _ _ _ => pg_name (i := 2) scCk.nd rfl (Or.inl rfl)) (fun _ _ _ _ _ => pts_nil) (fun _ _ _ _ _ => pe_cdn GN hr (pa_cons (pv 2) pa_nil)))) pa_nil)))))))
        (pss_one ps_off) pss_nil)
      (pss_cons (ps_lock (ps_for PassesOwn.never rfl (pi_keys (pv 1)) (pg_name (i := 2) scCk.nd rfl (Or.inl rfl)) (pss_one (ps_expr (pe_cdn GP hr (pa_cons (pv 0) (pa_cons (pv 1) (pa_cons (pe_dget hu (pv 1) (pv 2) (fun _ _ => rfl)) pa_nil))))))))
      (pss_cons (ps_if (pt_cmpR op_gt (pe_callB call_lenD (by rfl) mN PySem.boot_len (pa_cons (pv 1) pa_nil)) (pe_glob (v := .int 400) rfl g4 ⟨_, rfl⟩) (nomark _)) (pss_one ps_off) pss_nil)
      (pss_cons (ps_set (i := 3) scCk.nd rfl (.inl rfl) pe_dnewK)
      (pss_cons (ps_for PassesOwn.never rfl (pi_list (pe_callB cr_sortedS (by rfl) mS (by decide +kernel) (pa_cons (pe_callTy (call_list_dK rfl) (by rfl) mL (by decide +kernel) (pa_cons (pv 1) pa_nil)) pa_nil))) (pg_name (i := 2) scCk.nd rfl (Or.inl rfl))
        (pss_cons (ps_asg (pe_dget hu (pv 1) (pv 2) (fun _ _ => rfl)) (pg_tup (by rfl) (pgs_cons (pg_name (i := 4) scCk.nd rfl (.inl rfl)) (pgs_cons (pg_name (i := 5) scCk.nd rfl (.inl rfl)) pgs_nil))))
        (pss_one (ps_dput hu (pv 3) (pv 2) (pe_tup (pa_cons (pe_cdn GS hr (pa_cons (pv 4) pa_nil)) (pa_cons (pe_cdn GL hr (pa_cons (pv 5) pa_nil)) pa_nil))) rfl))))
      (pss_one (ps_ret (pv 3))))))), ?_⟩
    have lk : kvs.length = ps.length := Paired.length hps
    have nme : ∀ kv ∈ kvs, ∃ z, kv.1 = Sum.inr z ∧ z ∈ ps.map (·.1) := fun kv hkv => by
      have e : kv.1 ∈ ps.map fun x => (Sum.inr x.1 : Key) := by rw [← hps.keys]; exact List.mem_map.mpr ⟨kv, hkv, rfl⟩
      obtain ⟨x, hx, ex⟩ := List.mem_map.mp e
      exact ⟨x.1, ex.symm, List.mem_map.mpr ⟨x, hx, rfl⟩⟩
    refine ⟨.ref t, rfl, .ref t, .ty "dict", .type "dict", .type "dict", true, rfl, .ty _, .base (.dK ht), kit_ty (by decide +kernel), true, rfl, iteF ?_⟩
    refine ⟨t, _, ht, trivial, fun od => ⟨.ref t, rfl, t, od, rfl, .inl ⟨_, upd_same, fun D nD => ?_⟩⟩⟩
    have eL : (upd H t (.frz od (.dK kvs))) t = some (.frz od (.dK kvs)) := upd_same
    have nDt : D ≠ t := fun e => by rw [e, eL] at nD; cases nD
    refine lc_map (h := fun kv : Key × V => kV kv.1) (xs := kvs) walk_keysY rfl (fun _ => V.bl true) nD (fun H' s' => s' _ _ eL) (by have := si.len; omega) (fun kv hkv H' s' Q' q' => ?_) fun H3 s3 e3 => ?_
    · obtain ⟨z, ez, mz⟩ := nme kv hkv
      have nz := si.wd z mz
      have ev : kV kv.1 = .str z := by rw [ez]; rfl
      refine ⟨_, rfl, _, rfl, .inl ⟨z, ev, ?_⟩, .inl ⟨z, ev⟩, fun H5 s5 => ?_⟩
      · have := nameB_len nz
        omega
      · have e : isN (kV kv.1) = true := by rw [ev]; exact nz
        rw [e]
        exact q' H5 s5
    refine ⟨s3 _ _ eL, ?_⟩
    have s4 : Same H (upd H3 t (.dK kvs)) := Same.unlock ht s3
    have e4 : (upd H3 t (.dK kvs)) D = some (.lst ((kvs.map fun _ => true).map V.bl)) := by
      rw [upd_ne nDt, e3, List.map_map]
      rfl
    have t4 : (upd H3 t (.dK kvs)) t = some (.dK kvs) := upd_same
    generalize upd H3 t (.dK kvs) = H4 at s4 e4 t4 ⊢
    refine ⟨D, kvs.map fun _ => true, rfl, lst_of e4, ?_⟩
    rw [all_true]
    refine ⟨true, rfl, iteF ?_⟩
    -- each pair
    refine ⟨t, _, t4, trivial, fun od2 => ⟨.ref t, rfl, t, od2, rfl, .inl ⟨_, upd_same, ?_⟩⟩⟩
    have k5 : Kq H (upd H4 t (.frz od2 (.dK kvs))) := s4.kq.trans (Kq.lock t4)
    have e5 : (upd H4 t (.frz od2 (.dK kvs))) t = some (.frz od2 (.dK kvs)) := upd_same
    have u5 : ∀ H', Same (upd H4 t (.frz od2 (.dK kvs))) H' → Same H (upd H' t (.dK kvs)) := fun H' s' => s4.trans (Same.unlock t4 s')
    generalize upd H4 t (.frz od2 (.dK kvs)) = H5 at k5 e5 u5 ⊢
    refine for_it walk_keysY (fun i σ H' => ∃ o2 : Option V, σ = [some (.ref a), some (.ref t), o2, none, none, none] ∧ Same H5 H') ⟨none, rfl, Same.refl H5⟩ (fun i σ H' _ ⟨_, _, s'⟩ => s' _ _ e5) ?_ ?_
    · rintro i y σ G G' hi ⟨o2, rfl, sG⟩ ⟨rfl, ey⟩
      rw [List.getElem?_map, List.getElem?_eq_getElem hi] at ey
      have ey' : kV kvs[i].1 = y := Option.some.inj ey
      subst ey'
      obtain ⟨z, ez, mz⟩ := nme _ (List.getElem_mem hi)
      obtain ⟨v, hv, tv, mv⟩ := hps.get si.nd mz
      have kG := k5.trans sG.kq
      refine ⟨.ref a, rfl, .ref t, rfl, .ref t, rfl, _, rfl, t, v, rfl, .inl ⟨kvs, kvs[i].1, .inr ⟨od2, sG _ _ e5⟩, rfl, by rw [ez, hv]⟩, a, t, v, ms, ks, kvs, ps, getP ps z, rfl, hL.kq kG, .inr ⟨od2, sG _ _ e5⟩, hps.kq kG, tv.kq kG, si.th _ mv, fun H' s' => ⟨_, rfl, sG.trans s'⟩⟩
    rintro σ H6 ⟨o2, rfl, s6⟩
    refine ⟨s6 _ _ e5, ?_⟩
    have s7 : Same H (upd H6 t (.dK kvs)) := u5 H6 s6
    have t7 : (upd H6 t (.dK kvs)) t = some (.dK kvs) := upd_same
    generalize upd H6 t (.dK kvs) = H7 at s7 t7 ⊢
    -- how many
    refine ⟨.ref t, rfl, t, kvs, rfl, t7, _, 400, rfl, rfl, _, rfl, ?_⟩
    rw [decide_eq_false (show ¬ (kvs.length : Int) > 400 by have := si.len; omega)]
    refine iteF ?_
    intro pf nf
    have nfH : H pf = none := s7.free nf
    have e8 : (upd H7 pf (.dK [])) pf = some (.dK []) := upd_same
    have s8 : Same H7 (upd H7 pf (.dK [])) := same_new nf
    generalize upd H7 pf (.dK []) = H8 at *
    have s78 := s7.trans s8
    -- each anew
    refine ⟨.ref t, rfl, t, kvs, rfl, s8 _ _ t7, fun p9 n9 => ?_⟩
    rw [ps_keys hps]
    have e9 : (upd H8 p9 (.lst ((ps.map (·.1)).map V.str))) p9 = some (.lst ((ps.map (·.1)).map V.str)) := upd_same
    have s9 : Same H8 (upd H8 p9 (.lst ((ps.map (·.1)).map V.str))) := same_new n9
    generalize upd H8 p9 (.lst ((ps.map (·.1)).map V.str)) = H9 at *
    refine ⟨p9, ps.map (·.1), rfl, lst_of e9, by have := si.len; rw [List.length_map]; omega, fun ys pa pm so na => ?_⟩
    have fin : firsts (ps.map (·.1)) = ps.map (·.1) := by
      have gen : ∀ (zs L : List Str), (L ++ zs).Nodup → zs.foldl (fun L x => if x ∈ L then L else L ++ [x]) L = L ++ zs := by
        intro zs
        induction zs with
        | nil => intro L _; rw [List.append_nil]; rfl
        | cons z zs ih =>
          intro L nd
          have nz : z ∉ L := fun m => by
            have := (List.nodup_append.mp nd).2.2 z m z List.mem_cons_self
            exact this rfl
          rw [List.foldl_cons, if_neg nz, ih _ (by rw [List.append_assoc]; exact nd), List.append_assoc]
          rfl
      exact gen _ [] si.nd
    have ey : ys = canon (ps.map (·.1)) := canon_is (by rw [fin]; exact pm) so
    subst ey
    have ea : (upd H9 pa (.lst ((canon (ps.map (·.1))).map V.str))) pa = some (.lst ((canon (ps.map (·.1))).map V.str)) := upd_same
    have sa : Same H9 (upd H9 pa (.lst ((canon (ps.map (·.1))).map V.str))) := same_new na
    generalize upd H9 pa (.lst ((canon (ps.map (·.1))).map V.str)) = Ha at *
    have SA := s78.trans (s9.trans sa)
    have naf : pa ≠ pf := fun e => by rw [e, sa _ _ (s9 _ _ e8)] at ea; cases ea
    have ntf : t ≠ pf := ne_of_none ht nfH
    refine ⟨pa, rfl, ⟨_, lst_of ea⟩, for_it (walk_list (xs := (canon (ps.map (·.1))).map V.str)) (fun i σ H' => ∃ (o2 o4 o5 : Option V) (ks' : List (Key × V)), σ = [some (.ref a), some (.ref t), o2, some (.ref pf), o4, o5] ∧ (∀ b o, H b = some o → H' b = some o) ∧ H' pa = some (.lst ((canon (ps.map (·.1))).map V.str)) ∧ H' pf = some (.dK ks') ∧ PsR H' ks' (((canon (ps.map (·.1))).take i).map fun z => (z, normP (getP ps z))))
      ⟨_, none, none, [], rfl, fun b o e => SA _ _ e, ea, sa _ _ (s9 _ _ e8), .nil⟩ (fun i σ H' _ ⟨_, _, _, _, _, _, e, _⟩ => lst_of e) ?_ ?_⟩
    · rintro i y σ G G' hi ⟨o2, o4, o5, ks', rfl, sG, eG, fG, rG⟩ ⟨rfl, ey⟩
      rw [List.length_map] at hi
      rw [List.getElem?_map, List.getElem?_eq_getElem hi] at ey
      have ey' : V.str (canon (ps.map (·.1)))[i] = y := Option.some.inj ey
      subst ey'
      generalize hz : (canon (ps.map (·.1)))[i] = z at *
      have mz : z ∈ ps.map (·.1) := mem_canon.mp (by rw [← hz]; exact List.getElem_mem hi)
      have sG' : Same H G' := sG
      obtain ⟨v, hv, tv, mv⟩ := hps.get si.nd mz
      have pin := si.th _ mv
      obtain ⟨b, u1, u2, rfl, hb, t1, t2⟩ := tv.pair
      obtain ⟨am, vm, rfl, ham, tm⟩ := t1.tup
      have em := Tts.strs tm
      subst em
      refine ⟨.ref t, rfl, .str z, rfl, t, .ref b, rfl, .inl ⟨kvs, Sum.inr z, .inl (sG' _ _ ht), rfl, by rw [hv]⟩, b, _, rfl, tup_of (sG' _ _ hb), rfl, _, _, rfl, _, _, rfl, rfl, ?_⟩
      refine ⟨.ref am, rfl, am, _, rfl, sG' _ _ ham, pin.l1, fun p1 G1 s1 n1 e1 => ?_⟩
      refine ⟨_, rfl, u2, _, rfl, (t2.kq sG'.kq).kq s1.kq, pin.l2, fun p2 G2 s2 n2 e2 => ?_⟩
      refine ⟨by show 2 ≤ sizeLine; decide, fun p3 n3 => ?_⟩
      have e3' : (upd G2 p3 (.tup [.ref p1, .ref p2])) p3 = some (.tup [.ref p1, .ref p2]) := upd_same
      have s3' : Same G2 (upd G2 p3 (.tup [.ref p1, .ref p2])) := same_new n3
      generalize upd G2 p3 (.tup [.ref p1, .ref p2]) = G3 at *
      have S3 : Same G' G3 := s1.trans (s2.trans s3')
      have f3 := S3 _ _ fG
      have lr := Paired.length rG
      rw [List.length_map, List.length_take] at lr
      have cl := canon_len (ps.map (·.1))
      rw [List.length_map] at cl
      refine ⟨.ref pf, rfl, .str z, rfl, pf, _, rfl, DPut.k (k := Sum.inr z) f3 (small1000 (by have := si.len; omega)), ?_⟩
      have tkn : (canon (ps.map (·.1))).take (i + 1) = (canon (ps.map (·.1))).take i ++ [z] := by rw [List.take_add_one, List.getElem?_eq_getElem hi, hz]; rfl
      have miss : valV ks' (Sum.inr z) = none := rG.miss (by
        rw [List.map_map]
        intro hm'
        have hm2 : z ∈ (canon (ps.map (·.1))).take i := by
          have e := List.map_id' ((canon (ps.map (·.1))).take i)
          rw [← e]
          exact hm'
        obtain ⟨j, hj, e⟩ := List.getElem_of_mem hm2
        rw [List.getElem_take, ← hz] at e
        rw [List.length_take] at hj
        have e2 := (List.getElem_inj (nodup_canon _)).mp e
        omega)
      rw [putK_new _ miss]
      have kt : Kt G3 (upd G3 pf (.dK (ks' ++ [(Sum.inr z, .ref p3)]))) := kt_dk f3
      refine ⟨_, _, _, _, rfl, fun b' o e => ?_, ?_, upd_same, ?_⟩
      · rw [upd_ne (ne_of_none e nfH)]
        exact S3 _ _ (sG' _ _ e)
      · rw [upd_ne naf]
        exact S3 _ _ eG
      · rw [tkn, List.map_append]
        refine PsR.append ((rG.kq S3.kq).kt kt) (.cons ⟨rfl, ?_⟩ .nil)
        have q1 : Tt G3 (.ref p1) (Tup.mk (canon (getP ps z).1.items)) := tt_tup (s3' _ _ (s2 _ _ e1)) (tts_strs _)
        exact (tt_pair e3' q1 (e2.kq s3'.kq)).kt kt
    · rintro σ G ⟨o2, o4, o5, ks', rfl, sG, eG, fG, rG⟩
      rw [List.length_map, List.take_length] at rG
      exact ⟨.ref pf, rfl, q pf ks' G sG nfH fG rG⟩
end
end Tf

/-! stores: made, read, compared -/
namespace L2
open PySem PySem.Spec PyProof.Rows PySem.W
section
variable {X : Cx} {k : Nat} {C : Addr} {sp : Sp}
theorem op_eqN (F : OwN X.prog X.w X.K X.mg X.base k C "__eq__" sp) (hr : Room k X.A) : OpR X (compareOp .Eq) (rEqO X C sp E0 false) := by
  obtain ⟨f, G, o⟩ := F
  exact op_eqO o G hr pass0
theorem op_neN (F : OwN X.prog X.w X.K X.mg X.base k C "__eq__" sp) (hne : PySem.W.findIn X.K (.ref C) "__ne__" = some (some (.builtin "object.__ne__"))) (hm : PySem.W.mroIn X.K C (.type "object") = some true) (hr : Room (k + 1) X.A) : OpR X (compareOp .NotEq) (rEqO X C sp E0 true) := by
  obtain ⟨f, G, o⟩ := F
  exact op_neO o hne hm G hr pass0
theorem op_inN (F : OwN X.prog X.w X.K X.mg X.base k C "__contains__" sp) (hr : Room k X.A) : OpR X (compareOp .In) (rInO C sp E0 false) := by
  obtain ⟨f, G, o⟩ := F
  exact op_inO o G hr pass0
theorem op_notInN (F : OwN X.prog X.w X.K X.mg X.base k C "__contains__" sp) (hr : Room k X.A) : OpR X (compareOp .NotIn) (rInO C sp E0 true) := by
  obtain ⟨f, G, o⟩ := F
  exact op_notInO o G hr pass0
theorem call_lenN (F : OwN X.prog X.w X.K X.mg X.base k C "__len__" sp) (hr : Room (k + 1) X.A) : CallR X (.builtin "len") (rLenO C sp E0) := by
  obtain ⟨f, G, o⟩ := F
  exact call_lenO o G hr pass0
theorem call_strN (F : OwN X.prog X.w X.K X.mg X.base k C "__str__" sp) (hr : Room (k + 2) X.A) : CallR X (.type "str") (rStrO C sp E0) := by
  obtain ⟨f, G, o⟩ := F
  exact call_strO o G hr pass0
end
theorem walk_valsY {d : Addr} {o : Obj} {kvs : List (Key × V)} : Walk (Itd d o kvs) kvs.length (fun H => H d = some (.frz o (.dK kvs))) (YAt (kvs.map fun kv => kv.2)) :=
  walk_values.mono (fun _ h => h) fun i H x H' hi _ ⟨e, k, h1⟩ => ⟨e, by rw [List.getElem?_map, h1]; rfl⟩
theorem paired_zs {α β : Type} {R : α → β → Prop} : ∀ {xs : List α} {ys : List β}, Paired R xs ys → ∃ zs : List (α × β), xs = zs.map (·.1) ∧ ys = zs.map (·.2) ∧ ∀ z ∈ zs, R z.1 z.2
  | _, _, .nil => ⟨[], rfl, rfl, fun z hz => nomatch hz⟩
  | _, _, .cons (a := a) (b := b) h r => by
    obtain ⟨zs, e1, e2, e3⟩ := paired_zs r
    refine ⟨(a, b) :: zs, by rw [e1]; rfl, by rw [e2]; rfl, fun z hz => ?_⟩
    rcases List.mem_cons.mp hz with rfl | hz
    · exact h
    · exact e3 z hz
end L2
namespace Tf
open PySem PySem.Spec PyProof.Rows L2 PySem.W
abbrev sStore : Stmt := top 32
abbrev sMade : Stmt := top 33
abbrev sMin : Stmt := inClass sMade 0
abbrev sSof : Stmt := inClass sStore 1
abbrev sSla : Stmt := inClass sStore 2
abbrev sSnm : Stmt := inClass sStore 3
abbrev sSth : Stmt := inClass sStore 4
abbrev sSmo : Stmt := inClass sStore 5
abbrev sSlo : Stmt := inClass sStore 6
abbrev sSen : Stmt := inClass sStore 7
abbrev sSeq : Stmt := inClass sStore 19
abbrev sSha : Stmt := inClass sStore 20
abbrev sSle : Stmt := inClass sStore 21
abbrev sSst : Stmt := inClass sStore 22
abbrev sRt : Stmt := top 23
abbrev sRk : Stmt := top 16
theorem scMin : FnScope ["self", "language", "things"] ["self", "language", "things"] (defScope sMin) := ⟨rfl, rfl, rfl, by decide +kernel, rfl, by decide +kernel, by decide +kernel⟩
theorem scSof : FnScope ["cls", "language", "things"] ["cls", "language", "things"] (defScope sSof) := ⟨rfl, rfl, rfl, by decide +kernel, rfl, by decide +kernel, by decide +kernel⟩
theorem scSla : FnScope ["self"] ["self"] (defScope sSla) := ⟨rfl, rfl, rfl, by decide +kernel, rfl, by decide +kernel, by decide +kernel⟩
theorem scSnm : FnScope ["self"] ["self"] (defScope sSnm) := ⟨rfl, rfl, rfl, by decide +kernel, rfl, by decide +kernel, by decide +kernel⟩
theorem scSth : FnScope ["self"] ["self"] (defScope sSth) := ⟨rfl, rfl, rfl, by decide +kernel, rfl, by decide +kernel, by decide +kernel⟩
theorem scSmo : FnScope ["self", "thing"] ["self", "thing"] (defScope sSmo) := ⟨rfl, rfl, rfl, by decide +kernel, rfl, by decide +kernel, by decide +kernel⟩
theorem scSlo : FnScope ["self", "thing"] ["self", "thing"] (defScope sSlo) := ⟨rfl, rfl, rfl, by decide +kernel, rfl, by decide +kernel, by decide +kernel⟩
abbrev nSen : List Str := ["self", "thing", "kind", "one", "end"]
theorem scSen : FnScope nSen ["self", "thing", "kind"] (defScope sSen) := ⟨rfl, rfl, rfl, by decide +kernel, rfl, by decide +kernel, by decide +kernel⟩
theorem scSeq : FnScope ["self", "other"] ["self", "other"] (defScope sSeq) := ⟨rfl, rfl, rfl, by decide +kernel, rfl, by decide +kernel, by decide +kernel⟩
theorem scSha : FnScope ["self", "value"] ["self", "value"] (defScope sSha) := ⟨rfl, rfl, rfl, by decide +kernel, rfl, by decide +kernel, by decide +kernel⟩
theorem scSle : FnScope ["self"] ["self"] (defScope sSle) := ⟨rfl, rfl, rfl, by decide +kernel, rfl, by decide +kernel, by decide +kernel⟩
abbrev nSst : List Str := ["self", "many", "pair"]
theorem scSst : FnScope nSst ["self"] (defScope sSst) := ⟨rfl, rfl, rfl, by decide +kernel, rfl, by decide +kernel, by decide +kernel⟩
theorem scRt : FnScope ["store", "thing"] ["store", "thing"] (defScope sRt) := ⟨rfl, rfl, rfl, by decide +kernel, rfl, by decide +kernel, by decide +kernel⟩
theorem scRk : FnScope ["language", "kind"] ["language", "kind"] (defScope sRk) := ⟨rfl, rfl, rfl, by decide +kernel, rfl, by decide +kernel, by decide +kernel⟩
/-- a store stands at a: its language at la, its dict at t -/
def StoreAt (CL C : Addr) (H : Hp) (a la t : Addr) (ms ks : List Str) (ps : Ps) : Prop := ∃ (dx : Addr) (fs : List (Str × V)) (kvs : List (Key × V)), H a = some (.ins C dx fs) ∧ fs.lookup ("own_language" : Str) = some (.ref la) ∧ fs.lookup ("own_things" : Str) = some (.ref t) ∧ LangAt CL H la ms ks ∧ H t = some (.dK kvs) ∧ PsR H kvs ps ∧ fs.map (·.1) = [("own_language" : Str), "own_things"]
theorem StoreAt.kq {CL C : Addr} {H H' : Hp} {a la t : Addr} {ms ks : List Str} {ps : Ps} (h : StoreAt CL C H a la t ms ks ps) (k : Kq H H') (e : ∀ o, H t = some o → H' t = some o) : StoreAt CL C H' a la t ms ks ps := by
  obtain ⟨dx, fs, kvs, h1, h2, h3, h4, h5, h6, h7⟩ := h
  exact ⟨dx, fs, kvs, k.ins h1, h2, h3, h4.kq k, e _ h5, h6.kq k, h7⟩
theorem StoreAt.same {CL C : Addr} {H H' : Hp} {a la t : Addr} {ms ks : List Str} {ps : Ps} (h : StoreAt CL C H a la t ms ks ps) (s : Same H H') : StoreAt CL C H' a la t ms ks ps := h.kq s.kq fun o e => s _ _ e
theorem StoreAt.nr {CL C d : Addr} {H H' : Hp} {a la t : Addr} {ms ks : List Str} {ps : Ps} (h : StoreAt CL C H a la t ms ks ps) (s : Nr d H H') (dc : Dice H d) : StoreAt CL C H' a la t ms ks ps := by
  refine h.kq (s.kq dc) fun o e => s _ _ ?_ e
  obtain ⟨dx, fs, kvs, h1, h2, h3, h4, h5, h6, h7⟩ := h
  obtain ⟨_, _, _, _, e'⟩ := dc
  exact ne_of h5 e' (fun z => nomatch z)
/-- what of the classes of stores the written part tells -/
structure SCls (K : PySem.W.Frag) (C : Addr) : Prop where
  cl : Cls K C
  nl : NoAttr K C "own_language"
  nt : NoAttr K C "own_things"
/-- what isinstance sees of them -/
structure SIs (K : PySem.W.Frag) (CS C : Addr) : Prop where
  ha : PySem.W.findIn K (.ref C) "__class__" = some (some (.builtin "object.__class__"))
  hn : PySem.W.specialIn K (.builtin "object.__class__") "__get__" = some (some (.builtin "getset_descriptor.__get__"))
  ht : PySem.W.takesIn K (.builtin "object.__class__") = some true
  hm : PySem.W.mroIn K C (.type "object") = some true
  me : PySem.W.kitOne K (.ref C) (.ref CS) = some true
def links (ps : Ps) : Nat := (ps.map fun p => p.2.2.items.length).sum
def storeText (n m : Nat) : Str := ((((Str.empty ++ ("store of " : Str)) ++ ((toString (n : Int) : String) : Str)) ++ (" things, " : Str)) ++ ((toString (m : Int) : String) : Str)) ++ (" links" : Str)
theorem len2 (a b : Str) : (a ++ b).length ≤ a.length + b.length := by
  show (a.cps ++ b.cps).size ≤ a.cps.size + b.cps.size
  rw [Array.size_append]
  exact Nat.le_refl _
theorem fits2 {a b : Str} {m n : Nat} (ha : a.length ≤ m) (hb : b.length ≤ n) (h : m + n ≤ 1000 := by decide) : (a ++ b).length ≤ sizeLine := Nat.le_trans (len2 a b) (Nat.le_trans (Nat.add_le_add ha hb) (Nat.le_trans h (by decide)))
theorem ints_short : ((List.range 4001).all fun n => decide ((((toString (n : Int) : String) : Str)).length ≤ 10)) = true := by decide +kernel
theorem int_short {n : Nat} (h : n ≤ 4000) : (((toString (n : Int) : String) : Str)).length ≤ 10 := of_decide_eq_true (List.all_eq_true.mp ints_short n (List.mem_range.mpr (by omega)))
theorem int_small {n : Nat} (h : n ≤ 4000) : (n : Int).natAbs.log2 < 1920 := by
  rw [Int.natAbs_natCast]
  by_cases z : n = 0
  · subst z; decide
  · exact (Nat.log2_lt z).mpr (Nat.lt_of_le_of_lt h (Nat.lt_of_lt_of_le (by decide : 4000 < 2 ^ 12) (Nat.pow_le_pow_right (by decide) (by decide))))
/-! ### promises -/
def spMin (C : Addr) : Sp := fun vs H Q _ => ∃ (H0 : Hp) (x dx la t : Addr), vs = [.ref x, .ref la, .ref t] ∧ H = upd (upd H0 dx (.own x)) x (.ins C dx []) ∧ H0 x = none ∧ H0 dx = none ∧ dx ≠ x ∧
  ∀ (H' : Hp) (fs : List (Str × V)), Same H0 H' → H' x = some (.ins C dx fs) → fs.lookup ("own_language" : Str) = some (.ref la) → fs.lookup ("own_things" : Str) = some (.ref t) → fs.map (·.1) = [("own_language" : Str), "own_things"] → Q .non H'
def spSof (CL CS CM : Addr) : Sp := fun vs H Q _ => ∃ (la t : Addr) (ms ks : List Str) (kvs : List (Key × V)) (ps : Ps), vs = [.ref CS, .ref la, .ref t] ∧ LangAt CL H la ms ks ∧ H t = some (.dK kvs) ∧ PsR H kvs ps ∧ SIn ms ks ps ∧
  ∀ (x t' : Addr) (H' : Hp), Same H H' → H x = none → H t' = none → StoreAt CL CM H' x la t' ms ks (normS ps) → Q (.ref x) H'
def spSla (CL C : Addr) : Sp := fun vs H Q _ => ∃ (a la t : Addr) (ms ks : List Str) (ps : Ps), vs = [.ref a] ∧ StoreAt CL C H a la t ms ks ps ∧ Q (.ref la) H
def spSnm (CL C : Addr) : Sp := fun vs H Q _ => ∃ (a la t : Addr) (ms ks : List Str) (ps : Ps), vs = [.ref a] ∧ StoreAt CL C H a la t ms ks ps ∧ ∀ (p : Addr) (H' : Hp), Same H H' → H p = none → H' p = some (.tup ((ps.map (·.1)).map V.str)) → Q (.ref p) H'
def spSth (CL C : Addr) : Sp := fun vs H Q _ => ∃ (a la t : Addr) (ms ks : List Str) (ps : Ps), vs = [.ref a] ∧ StoreAt CL C H a la t ms ks ps ∧ ∀ (p : Addr) (kvs : List (Key × V)) (H' : Hp), Same H H' → H p = none → H' p = some (.dK kvs) → PsR H' kvs ps → Q (.ref p) H'
def spSmo (CL C : Addr) : Sp := fun vs H Q _ => ∃ (a la t : Addr) (ms ks : List Str) (ps : Ps) (z : Str), vs = [.ref a, .str z] ∧ StoreAt CL C H a la t ms ks ps ∧ (ps.map (·.1)).Nodup ∧ z ∈ ps.map (·.1) ∧ ∀ v, Tt H v (getP ps z).1 → Q v H
def spSlo (CL C : Addr) : Sp := fun vs H Q _ => ∃ (a la t : Addr) (ms ks : List Str) (ps : Ps) (z : Str), vs = [.ref a, .str z] ∧ StoreAt CL C H a la t ms ks ps ∧ (ps.map (·.1)).Nodup ∧ z ∈ ps.map (·.1) ∧ ∀ v, Tt H v (getP ps z).2 → Q v H
/-- the ends of the links of a kind -/
def endsP (ls : List (Str × Str)) (y : Str) : List Str := (ls.filter fun e => decide (e.1 = y)).map (·.2)
def spSen (CL C : Addr) : Sp := fun vs H Q _ => ∃ (a la t : Addr) (ms ks : List Str) (ps : Ps) (z y : Str), vs = [.ref a, .str z, .str y] ∧ StoreAt CL C H a la t ms ks ps ∧ (ps.map (·.1)).Nodup ∧ z ∈ ps.map (·.1) ∧ y ∈ ks ∧ (getP ps z).2.items.length ≤ 60 ∧
  ∀ (p : Addr) (H' : Hp), Same H H' → H p = none → H' p = some (.tup ((endsP (getP ps z).2.items y).map V.str)) → Q (.ref p) H'
/-- a value that is no text -/
def NoTxt (K : PySem.W.Frag) (H : Hp) (x : V) : Prop := ∃ t : Value, TyX K H x t ∧ PySem.W.kitOne K t (.type "str") = some false
def spSha (K : PySem.W.Frag) (CL C : Addr) : Sp := fun vs H Q _ => ∃ (a la t : Addr) (ms ks : List Str) (ps : Ps) (x : V), vs = [.ref a, x] ∧ StoreAt CL C H a la t ms ks ps ∧ ((NoTxt K H x ∧ Q (.bl false) H) ∨ ∃ z, x = .str z ∧ Q (.bl (decide (z ∈ ps.map (·.1)))) H)
def spSle (CL C : Addr) : Sp := fun vs H Q _ => ∃ (a la t : Addr) (ms ks : List Str) (ps : Ps), vs = [.ref a] ∧ StoreAt CL C H a la t ms ks ps ∧ Q (.int (ps.length : Int)) H
def spSst (CL C : Addr) : Sp := fun vs H Q _ => ∃ (a la t : Addr) (ms ks : List Str) (ps : Ps), vs = [.ref a] ∧ StoreAt CL C H a la t ms ks ps ∧ ps.length ≤ 60 ∧ links ps ≤ 4000 ∧ ∀ H', Same H H' → Q (.str (storeText ps.length (links ps))) H'
def NoSto (K : PySem.W.Frag) (CS : Addr) (H : Hp) (y : V) : Prop := ∃ t : Value, TyX K H y t ∧ PySem.W.kitOne K t (.ref CS) = some false
def spSeq (K : PySem.W.Frag) (CL CS C D : Addr) : Sp := fun vs H Q _ => ∃ (a la t : Addr) (ms ks : List Str) (ps : Ps) (y : V), vs = [.ref a, y] ∧ StoreAt CL C H a la t ms ks ps ∧
  ((NoSto K CS H y ∧ Q (.bl false) H) ∨ ∃ (b lb u : Addr) (ms' ks' : List Str) (qs : Ps), y = .ref b ∧ StoreAt CL D H b lb u ms' ks' qs ∧ Q (.bl ((decide (ms = ms') && decide (ks = ks')) && sameD ps qs)) H)
def spRt (CL C : Addr) : Sp := fun vs H Q _ => ∃ (a la t : Addr) (ms ks : List Str) (ps : Ps) (z : Str), vs = [.ref a, .str z] ∧ StoreAt CL C H a la t ms ks ps ∧ z ∈ ps.map (·.1) ∧ Q .non H
def spRk (CL : Addr) : Sp := fun vs H Q _ => ∃ (la : Addr) (ms ks : List Str) (y : Str), vs = [.ref la, .str y] ∧ LangAt CL H la ms ks ∧ y ∈ ks ∧ Q .non H
theorem dk_val {H : Hp} {kvs : List (Key × V)} {ps : Ps} (h : PsR H kvs ps) (z : Str) : (valV kvs (Sum.inr z)).isSome = decide (z ∈ ps.map (·.1)) := by
  by_cases m : z ∈ ps.map (·.1)
  · obtain ⟨v, x, h1, _⟩ := h.hit m
    rw [h1, decide_eq_true m]
    rfl
  · rw [h.miss m, decide_eq_false m]
    rfl
section
variable {P : Program} {w : World} {K : PySem.W.Frag} {mg : Str → Option Value} {base : Heap}
theorem ok_min {f C : Addr} {fd : FuncData} {k : Nat} (F : Fun K "__init__" "MadeStore.__init__" sMin f fd) (L : SCls K C) : FnOk P w K mg base CX0 (k + 1) f fd ["self", "language", "things"] (spMin C) := by
  refine F.ok scMin (fun vs H Q E h => ?_) (fun cdv A outer s H vs Q E hr h => ?_)
  · obtain ⟨H0, x, dx, la, t, rfl, _⟩ := h
    rfl
  · obtain ⟨H0, x, dx, la, t, rfl, rfl, nx, nd, ne, q⟩ := h
    refine ⟨_, pss_cons (ps_fld (pv 0) (pv 1) rfl) (pss_one (ps_fld (pv 0) (pv 2) rfl)), ?_⟩
    have s0 : Same H0 (upd (upd H0 dx (.own x)) x (.ins C dx [])) := (same_new nd).mut nx
    have e0 : (upd (upd H0 dx (.own x)) x (.ins C dx [])) x = some (.ins C dx []) := upd_same
    generalize upd (upd H0 dx (.own x)) x (.ins C dx []) = H at s0 e0 ⊢
    refine ⟨.ref la, rfl, .ref x, rfl, x, C, dx, [], rfl, e0, L.cl, L.nl, by decide, ?_⟩
    have s2 : Same H0 (upd H x (.ins C dx (putF "own_language" (.ref la) []))) := s0.mut nx
    have x2 : (upd H x (.ins C dx (putF "own_language" (.ref la) []))) x = some (.ins C dx [(("own_language" : Str), .ref la)]) := upd_same
    generalize upd H x (.ins C dx (putF "own_language" (.ref la) [])) = H2 at s2 x2 ⊢
    refine ⟨.ref t, rfl, .ref x, rfl, x, C, dx, _, rfl, x2, L.cl, L.nt, (show 1 < 1000 by decide), ?_⟩
    exact q _ _ (s2.mut nx) upd_same rfl rfl rfl
theorem ok_sof {f fN CL CS CM : Addr} {fd fdN : FuncData} {k : Nat} (F : Fun K "of" "Store.of" sSof f fd) (M : Mk K CM fN) (GI : FnOk P w K mg base CX0 k fN fdN ["self", "language", "things"] (spMin CM)) (bI : Binds K fdN ["self", "language", "things"] []) (gM : mg "MadeStore" = some (.ref CM)) (GR : CdN P w K mg base (k + 1) "require_language" ["language"] (spRl CL)) (GC : CdN P w K mg base (k + 1) "checked_things" ["language", "things"] (spCk CL)) : FnOk P w K mg base CX0 (k + 2) f fd ["cls", "language", "things"] (spSof CL CS CM) := by
  refine F.ok scSof (fun vs H Q E h => ?_) (fun cdv A outer s H vs Q E hr h => ?_)
  · obtain ⟨la, t, ms, ks, kvs, ps, rfl, _⟩ := h
    rfl
  · obtain ⟨la, t, ms, ks, kvs, ps, rfl, hL, ht, hps, si, q⟩ := h
    refine ⟨_, pss_cons (ps_expr (pe_cdn GR hr (pa_cons (pv 1) pa_nil)))
      (pss_one (ps_ret (pe_make M GI hr (by rfl) gM bI .nil pass0 (pa_cons (pv 1) (pa_cons (pe_cdn GC hr (pa_cons (pv 1) (pa_cons (pv 2) pa_nil))) pa_nil))))), ?_⟩
    refine ⟨.ref la, rfl, la, ms, ks, rfl, hL, ?_⟩
    refine ⟨.ref la, rfl, .ref la, rfl, .ref t, rfl, la, t, ms, ks, kvs, ps, rfl, hL, ht, hps, si, fun p kvs' H1 s1 np e1 r1 => ?_⟩
    intro x dx nx nd ne
    refine ⟨H1, x, dx, la, p, rfl, rfl, nx, nd, ne, fun H2 fs s2 ex l1 l2 l3 => ⟨rfl, ?_⟩⟩
    exact q x p H2 (s1.trans s2) (s1.free nx) np ⟨dx, fs, kvs', ex, l1, l2, (hL.kq s1.kq).kq s2.kq, s2 _ _ e1, r1.kq s2.kq, l3⟩
theorem ok_sla {f CL C : Addr} {fd : FuncData} {k : Nat} (F : Fun K "language" "Store.language" sSla f fd) (L : SCls K C) : FnOk P w K mg base CX0 (k + 1) f fd ["self"] (spSla CL C) := by
  refine F.ok scSla (fun vs H Q E h => ?_) (fun cdv A outer s H vs Q E hr h => ?_)
  · obtain ⟨a, la, t, ms, ks, ps, rfl, _⟩ := h
    rfl
  · obtain ⟨a, la, t, ms, ks, ps, rfl, ⟨dx, fs, kvs, h1, h2, h3, h4, h5, h6, h7⟩, q⟩ := h
    exact ⟨_, pss_one (ps_ret (pe_fld (pv 0) rfl)), .ref a, rfl, a, C, dx, fs, .ref la, rfl, h1, L.cl, L.nl, h2, q⟩
theorem ok_snm {f CL C : Addr} {fd : FuncData} {k : Nat} (F : Fun K "names" "Store.names" sSnm f fd) (L : SCls K C) (mT : mg "tuple" = none) (mL : mg "list" = none) : FnOk P w K mg base CX0 (k + 1) f fd ["self"] (spSnm CL C) := by
  refine F.ok scSnm (fun vs H Q E h => ?_) (fun cdv A outer s H vs Q E hr h => ?_)
  · obtain ⟨a, la, t, ms, ks, ps, rfl, _⟩ := h
    rfl
  · obtain ⟨a, la, t, ms, ks, ps, rfl, ⟨dx, fs, kvs, h1, h2, h3, h4, h5, h6, h7⟩, q⟩ := h
    refine ⟨_, pss_one (ps_ret (pe_callTy call_tuple_of (by rfl) mT (by decide +kernel) (pa_cons (pe_callTy (call_list_dK rfl) (by rfl) mL (by decide +kernel) (pa_cons (pe_fld (pv 0) (by rfl)) pa_nil)) pa_nil))), ?_⟩
    refine ⟨.ref a, rfl, a, C, dx, fs, .ref t, rfl, h1, L.cl, L.nt, h3, t, kvs, rfl, h5, fun p n => ?_⟩
    rw [ps_keys h6]
    have e1 : (upd H p (.lst ((ps.map (·.1)).map V.str))) p = some (.lst ((ps.map (·.1)).map V.str)) := upd_same
    have s1 : Same H (upd H p (.lst ((ps.map (·.1)).map V.str))) := same_new n
    generalize upd H p (.lst ((ps.map (·.1)).map V.str)) = H1 at *
    refine ⟨p, _, rfl, .inl ⟨lst_of e1, fun p2 n2 => ?_⟩⟩
    exact q p2 _ (s1.new n2) (s1.free n2) upd_same
theorem ok_sth {f CL C : Addr} {fd : FuncData} {k : Nat} (F : Fun K "things" "Store.things" sSth f fd) (L : SCls K C) (mD : mg "dict" = none) : FnOk P w K mg base CX0 (k + 1) f fd ["self"] (spSth CL C) := by
  refine F.ok scSth (fun vs H Q E h => ?_) (fun cdv A outer s H vs Q E hr h => ?_)
  · obtain ⟨a, la, t, ms, ks, ps, rfl, _⟩ := h
    rfl
  · obtain ⟨a, la, t, ms, ks, ps, rfl, ⟨dx, fs, kvs, h1, h2, h3, h4, h5, h6, h7⟩, q⟩ := h
    refine ⟨_, pss_one (ps_ret (pe_callTy call_dictD (by rfl) mD (by decide +kernel) (pa_cons (pe_fld (pv 0) (by rfl)) pa_nil))), ?_⟩
    refine ⟨.ref a, rfl, a, C, dx, fs, .ref t, rfl, h1, L.cl, L.nt, h3, t, kvs, rfl, .inl h5, fun p n => ?_⟩
    exact q p kvs _ (same_new n) n upd_same (h6.kq (same_new n).kq)
theorem ok_sha {f CL C : Addr} {fd : FuncData} {k : Nat} (F : Fun K "__contains__" "Store.__contains__" sSha f fd) (L : SCls K C) (mI : mg "isinstance" = none) (mS : mg "str" = none) : FnOk P w K mg base CX0 (k + 1) f fd ["self", "value"] (spSha K CL C) := by
  refine F.ok scSha (fun vs H Q E h => ?_) (fun cdv A outer s H vs Q E hr h => ?_)
  · obtain ⟨a, la, t, ms, ks, ps, x, rfl, _⟩ := h
    rfl
  · obtain ⟨a, la, t, ms, ks, ps, x, rfl, ⟨dx, fs, kvs, h1, h2, h3, h4, h5, h6, h7⟩, h⟩ := h
    have hu : (A.deeper (envOfC "Store.__contains__" (defScope sSha) s.heap.objs.size f cdv)).units + 1 < cLine := by have := hr.un; omega
    refine ⟨_, pss_one (ps_ret (pe_and (pe_callB call_isi (by rfl) mI (by decide +kernel) (pa_cons (pv 1) (pa_cons (pe_bltn (v := .ty "str") (by rfl) mS (by decide +kernel) rfl) pa_nil))) (pe_one (pe_cmp (pc_din hu (pv 1) (pe_fld (pv 0) (by rfl))) (by rfl))))), ?_⟩
    rcases h with ⟨⟨ty, h7, h8⟩, q⟩ | ⟨z, rfl, q⟩
    · exact ⟨x, rfl, x, .ty "str", ty, .type "str", false, rfl, .ty _, h7, h8, false, rfl, iteF q⟩
    · refine ⟨_, rfl, _, .ty "str", .type "str", .type "str", true, rfl, .ty _, .base (.str _), kit_ty (by decide +kernel), true, rfl, iteT ?_⟩
      refine ⟨_, rfl, .ref a, rfl, a, C, dx, fs, .ref t, rfl, h1, L.cl, L.nt, h3, t, _, rfl, .inl ⟨kvs, Sum.inr z, .inl h5, rfl, rfl⟩, ?_⟩
      rw [dk_val h6]
      exact q
theorem ok_sle {f CL C : Addr} {fd : FuncData} {k : Nat} (F : Fun K "__len__" "Store.__len__" sSle f fd) (L : SCls K C) (mN : mg "len" = none) : FnOk P w K mg base CX0 (k + 1) f fd ["self"] (spSle CL C) := by
  refine F.ok scSle (fun vs H Q E h => ?_) (fun cdv A outer s H vs Q E hr h => ?_)
  · obtain ⟨a, la, t, ms, ks, ps, rfl, _⟩ := h
    rfl
  · obtain ⟨a, la, t, ms, ks, ps, rfl, ⟨dx, fs, kvs, h1, h2, h3, h4, h5, h6, h7⟩, q⟩ := h
    refine ⟨_, pss_one (ps_ret (pe_callB call_lenD (by rfl) mN PySem.boot_len (pa_cons (pe_fld (pv 0) (by rfl)) pa_nil))), ?_⟩
    refine ⟨.ref a, rfl, a, C, dx, fs, .ref t, rfl, h1, L.cl, L.nt, h3, t, kvs, rfl, h5, ?_⟩
    rw [Paired.length h6]
    exact q
theorem ok_rt {f CL C : Addr} {fd : FuncData} {k : Nat} (F : Fun K "require_thing" "require_thing" sRt f fd) (GH : OwN P w K mg base k C "__contains__" (spSha K CL C)) : FnOk P w K mg base CX0 (k + 1) f fd ["store", "thing"] (spRt CL C) := by
  refine F.ok scRt (fun vs H Q E h => ?_) (fun cdv A outer s H vs Q E hr h => ?_)
  · obtain ⟨a, la, t, ms, ks, ps, z, rfl, _⟩ := h
    rfl
  · obtain ⟨a, la, t, ms, ks, ps, z, rfl, st, m, q⟩ := h
    refine ⟨_, pss_one (ps_if (pt_cmpR (op_notInN GH hr) (pv 1) (pv 0) (by rfl)) (pss_one ps_off) pss_nil), ?_⟩
    have st' := st
    obtain ⟨dx, fs, kvs, h1, h2, h3, h4, h5, h6, h7⟩ := st'
    refine ⟨_, rfl, .ref a, rfl, a, dx, fs, rfl, h1, a, la, t, ms, ks, ps, _, rfl, st, .inr ⟨z, rfl, ?_⟩⟩
    rw [decide_eq_true m]
    exact ⟨true, rfl, false, rfl, iteF q⟩
theorem ok_rk {f CL : Addr} {fd : FuncData} {k : Nat} (F : Fun K "require_kind" "require_kind" sRk f fd) (L : LCls K CL) (PK : PpN P w K mg base k CL "kinds" (spLmk CL false)) : FnOk P w K mg base CX0 (k + 2) f fd ["language", "kind"] (spRk CL) := by
  refine F.ok scRk (fun vs H Q E h => ?_) (fun cdv A outer s H vs Q E hr h => ?_)
  · obtain ⟨la, ms, ks, y, rfl, _⟩ := h
    rfl
  · obtain ⟨la, ms, ks, y, rfl, hL, m, q⟩ := h
    refine ⟨_, pss_one (ps_if (pt_cmpR op_notIn_seq (pv 1) (pe_ppn L.cl PK hr (pv 0)) (by rfl)) (pss_one ps_off) pss_nil), ?_⟩
    have hL' := hL
    obtain ⟨dx, fs, pm, pk, h1, _⟩ := hL'
    refine ⟨_, rfl, .ref la, rfl, la, dx, fs, rfl, h1, la, ms, ks, rfl, hL, fun p hp => ⟨p, _, rfl, .inr (tup_of hp), rfl, flat_strs _, ?_⟩⟩
    rw [if_pos rfl, if_neg Bool.false_ne_true, inV_strs, decide_eq_true m]
    exact ⟨false, rfl, iteF q⟩
end
end Tf

/-! stores: ends, str, == -/
namespace Tf
open PySem PySem.Spec PyProof.Rows L2 PySem.W
section
variable {P : Program} {w : World} {K : PySem.W.Frag} {mg : Str → Option Value} {base : Heap}
theorem ok_sen {f CL C : Addr} {fd : FuncData} {k : Nat} (F : Fun K "ends" "Store.ends" sSen f fd) (L : SCls K C) (GT : CdN P w K mg base k "require_thing" ["store", "thing"] (spRt CL C)) (GK : CdN P w K mg base k "require_kind" ["language", "kind"] (spRk CL)) (mT : mg "tuple" = none) : FnOk P w K mg base CX0 (k + 1) f fd ["self", "thing", "kind"] (spSen CL C) := by
  refine F.ok scSen (fun vs H Q E h => ?_) (fun cdv A outer s H vs Q E hr h => ?_)
  · obtain ⟨a, la, t, ms, ks, ps, z, y, rfl, _⟩ := h
    rfl
  · obtain ⟨a, la, t, ms, ks, ps, z, y, rfl, st, nd, m, my, ll, q⟩ := h
    have hu : (A.deeper (envOfC "Store.ends" (defScope sSen) s.heap.objs.size f cdv)).units + 1 < cLine := by have := hr.un; omega
    refine ⟨_, pss_cons (ps_expr (pe_cdn GT hr (pa_cons (pv 0) (pa_cons (pv 1) pa_nil))))
      (pss_cons (ps_expr (pe_cdn GK hr (pa_cons (pe_fld (pv 0) (by rfl)) (pa_cons (pv 2) pa_nil))))
      (pss_one (ps_ret (pe_callTy call_tuple_of (by rfl) mT (by decide +kernel) (pa_cons
        (pe_lc (own := [("one", 3), ("end", 4)]) (g := gTup K 2 (gCons (gName 3) (gCons (gName 4) gNil))) (te := tVar 4) (by rfl) scSen.nd (pi_tup (pe_ix ix_tup (pe_dget hu (pe_fld (pv 0) (by rfl)) (pv 1) (fun _ _ => rfl)) pe_int (fun _ _ => rfl))) (blkOk_by (own := [("one", 3), ("end", 4)]) (N := nSen) (sc := defScope sSen) (by decide +kernel)) (fun _ _ _ _ _ => pg_tup (by rfl) (pgs_cons (pg_name (i := 3) scSen.nd rfl (Or.inl rfl)) (pgs_cons (pg_name (i := 4) scSen.nd rfl (Or.inl rfl)) pgs_nil))) (fun _ _ _ _ _ => pts_one (pt_cmpR op_eq (pv 3) (pv 2) (nomark _))) (fun _ _ _ _ _ => pv 4)) pa_nil))))), ?_⟩
    refine ⟨.ref a, rfl, .str z, rfl, a, la, t, ms, ks, ps, z, rfl, st, m, ?_⟩
    obtain ⟨dx, fs, kvs, h1, h2, h3, h4, h5, h6, h7⟩ := st
    refine ⟨.ref a, rfl, a, C, dx, fs, .ref la, rfl, h1, L.cl, L.nl, h2, .str y, rfl, la, ms, ks, y, rfl, h4, my, ?_⟩
    obtain ⟨v, hv, tv, mv⟩ := h6.get nd m
    obtain ⟨b, u1, u2, rfl, hb, t1, t2⟩ := tv.pair
    obtain ⟨al, vl, rfl, hal, tl⟩ := t2.tup
    obtain ⟨zl, rfl, el, tz⟩ := Tts.refs tl
    have lz : zl.length ≤ 60 := by
      rw [el, List.length_map] at ll
      exact ll
    refine ⟨.ref a, rfl, a, C, dx, fs, .ref t, rfl, h1, L.cl, L.nt, h3, .str z, rfl, t, .ref b, rfl, .inl ⟨kvs, Sum.inr z, .inl h5, rfl, by rw [hv]⟩, b, _, 1, .ref al, rfl, rfl, tup_of hb, rfl, al, rfl, ⟨_, tup_of hal⟩, fun D nD => ?_⟩
    refine lc_ong (h := fun z : Addr × (Str × Str) => V.ref z.1) (xs := zl) (vs := [3, 4]) (by have := walk_tup (K := K) (a := al) (xs := zl.map fun z => V.ref z.1); rw [List.length_map] at this; exact this) rfl (fun e => [some (.ref a), some (.str z), some (.str y), some (.str e.2.1), some (.str e.2.2)]) (fun e => decide (e.2.1 = y)) (fun e => .str e.2.2) nD (fun H4 s4 => tup_of (s4 _ _ hal)) (by omega) (fun e he H4 s4 R hR => ?_) (fun e he => rfl) (fun e he H4 s4 Q' q' => ?_) (fun e he _ H4 s4 Q' q' => ⟨_, rfl, q' H4 (Same.refl H4)⟩) fun H4 s4 e4 => ?_
    · obtain ⟨c, x1, x2, ec, hc, y1, y2⟩ := (tz e he).pair
      have ec' : e.1 = c := by injection ec
      subst ec'
      rw [y1.str, y2.str] at hc
      exact ⟨e.1, _, rfl, tup_of (s4 _ _ hc), rfl, _, _, rfl, _, _, rfl, rfl, hR⟩
    · refine ⟨_, rfl, _, rfl, rfl, ?_⟩
      refine ⟨_, rfl, ?_⟩
      have ed : decide (V.str e.2.1 = V.str y) = decide (e.2.1 = y) := decide_eq_decide.mpr ⟨fun z => by injection z, fun z => by rw [z]⟩
      rw [ed]
      exact q' H4 (Same.refl H4)
    · refine ⟨D, _, rfl, .inl ⟨lst_of e4, fun p np => ?_⟩⟩
      have ee : (zl.filter fun e => decide (e.2.1 = y)).map (fun e => V.str e.2.2) = (endsP (getP ps z).2.items y).map V.str := by
        unfold endsP
        rw [el, List.filter_map, List.map_map, List.map_map]
        rfl
      exact q p _ (s4.new np) (s4.free np) (by rw [upd_same, ee])
theorem ok_sst {f CL C : Addr} {fd : FuncData} {k : Nat} (F : Fun K "__str__" "Store.__str__" sSst f fd) (L : SCls K C) (mN : mg "len" = none) (mS : mg "sum" = none) : FnOk P w K mg base CX0 (k + 1) f fd ["self"] (spSst CL C) := by
  refine F.ok scSst (fun vs H Q E h => ?_) (fun cdv A outer s H vs Q E hr h => ?_)
  · obtain ⟨a, la, t, ms, ks, ps, rfl, _⟩ := h
    rfl
  · obtain ⟨a, la, t, ms, ks, ps, rfl, ⟨dx, fs, kvs, h1, h2, h3, h4, h5, h6, h7⟩, l1, l2, q⟩ := h
    refine ⟨_, pss_cons (ps_set (i := 1) scSst.nd rfl (.inl rfl) (pe_callB (cr_sum rfl) (by rfl) mS (by decide +kernel) (pa_cons (pe_lock
        (pe_lc (own := [("pair", 2)]) (g := gName 2) (tt := tYes) (te := tCB (rLenS K) (tCons (tOp (rIxT K) (tVar 2) (tC (.int 1))) tNil)) (by rfl) scSst.nd (pi_values (pe_fld (pv 0) (by rfl))) (blkOk_by (own := [("pair", 2)]) (N := nSst) (sc := defScope sSst) (by decide +kernel)) (fun _ _ _ _ _ => pg_name (i := 2) scSst.nd rfl (Or.inl rfl)) (fun _ _ _ _ _ => pts_nil)
          (fun _ _ _ _ _ => pe_callB call_lenS (by rfl) mN PySem.boot_len (pa_cons (pe_ix ix_tup (pv 2) pe_int (fun _ _ => rfl)) pa_nil)))) pa_nil)))
      (pss_one (ps_ret (pe_joined (.cons pe_str (.cons (pe_fmt (pe_callB call_lenD (by rfl) mN PySem.boot_len (pa_cons (pe_fld (pv 0) (by rfl)) pa_nil))) (.cons pe_str (.cons (pe_fmt (pv 1)) (.cons pe_str .nil)))))))), ?_⟩
    obtain ⟨zs, ez, ep, hz⟩ := paired_zs h6
    have nat : a ≠ t := ne_of h1 h5 (fun z => nomatch z)
    refine ⟨t, _, h5, trivial, fun od => ⟨.ref a, rfl, a, C, dx, fs, .ref t, rfl, by rw [upd_ne nat]; exact h1, L.cl, L.nt, h3, t, od, kvs, rfl, upd_same, fun D nD => ?_⟩⟩
    have eL : (upd H t (.frz od (.dK kvs))) t = some (.frz od (.dK kvs)) := upd_same
    have kq : Kq H (upd H t (.frz od (.dK kvs))) := Kq.lock h5
    have un : ∀ H', Same (upd H t (.frz od (.dK kvs))) H' → Same H (upd H' t (.dK kvs)) := fun H' s' => Same.unlock h5 s'
    have nDt : D ≠ t := fun e => by rw [e, eL] at nD; cases nD
    generalize upd H t (.frz od (.dK kvs)) = H1 at nD eL kq un ⊢
    have lz : zs.length = ps.length := by rw [ep, List.length_map]
    have lk : kvs.length = zs.length := by rw [ez, List.length_map]
    refine lc_map (h := fun z : (Key × V) × (Str × Pr) => z.1.2) (xs := zs) (by have := walk_valsY (d := t) (o := od) (kvs := kvs); rw [show (zs.map fun z => z.1.2) = kvs.map fun kv => kv.2 by rw [ez, List.map_map]; rfl]; exact this) lk (fun z => V.int (z.2.2.2.items.length : Int)) nD (fun H' s' => s' _ _ eL) (by omega) (fun z hzz H' s' Q' q' => ?_) fun H3 s3 e3 => ?_
    · obtain ⟨b, u1, u2, eb, hb, t1, t2⟩ := (hz z hzz).2.pair
      obtain ⟨al, vl, rfl, hal, tl⟩ := t2.tup
      have hl := Tts.length tl
      refine ⟨_, rfl, b, _, 1, .ref al, eb, rfl, tup_of (s' _ _ (kq.tup hb)), rfl, al, vl, rfl, .inr (tup_of (s' _ _ (kq.tup hal))), ?_⟩
      rw [hl]
      exact q' H' (Same.refl H')
    refine ⟨s3 _ _ eL, ?_⟩
    have s4 := un H3 s3
    have e4 : (upd H3 t (.dK kvs)) D = some (.lst ((zs.map fun z => (z.2.2.2.items.length : Int)).map V.int)) := by
      rw [upd_ne nDt, e3, List.map_map]
      rfl
    have t4 : (upd H3 t (.dK kvs)) t = some (.dK kvs) := upd_same
    generalize upd H3 t (.dK kvs) = H4 at s4 e4 t4 ⊢
    have sm : (zs.map fun z => (z.2.2.2.items.length : Int)).sum = ((links ps : Nat) : Int) := by
      unfold links
      rw [ep, List.map_map]
      clear e3 e4 ez ep lz lk hz
      induction zs with
      | nil => rfl
      | cons z zs ih => rw [List.map_cons, List.sum_cons, ih, List.map_cons, List.sum_cons, Int.natCast_add]; rfl
    refine ⟨D, _, rfl, lst_of e4, ?_⟩
    rw [sm]
    have z1 := int_short (n := ps.length) (by omega)
    have z2 := int_short (n := links ps) l2
    have ln : kvs.length = ps.length := by omega
    refine ⟨_, rfl, by decide +kernel, .ref a, rfl, a, C, dx, fs, .ref t, rfl, s4 _ _ h1, L.cl, L.nt, h3, t, kvs, rfl, t4, .inr ⟨_, rfl, by rw [ln]; exact int_small (by omega), _, rfl, ?_, _, rfl, ?_, _, rfl, .inr ⟨_, rfl, int_small l2, _, rfl, ?_, _, rfl, ?_, ?_⟩⟩⟩
    · rw [ln]
      exact fits2 (show _ ≤ 100 by decide +kernel) z1
    · rw [ln]
      exact fits2 (Nat.le_trans (len2 _ _) (Nat.add_le_add (by decide +kernel : _ ≤ 100) z1)) (show _ ≤ 100 by decide +kernel)
    · rw [ln]
      exact fits2 (Nat.le_trans (len2 _ _) (Nat.add_le_add (Nat.le_trans (len2 _ _) (Nat.add_le_add (by decide +kernel : _ ≤ 100) z1)) (by decide +kernel : _ ≤ 100))) z2
    · rw [ln]
      exact fits2 (Nat.le_trans (len2 _ _) (Nat.add_le_add (Nat.le_trans (len2 _ _) (Nat.add_le_add (Nat.le_trans (len2 _ _) (Nat.add_le_add (by decide +kernel : _ ≤ 100) z1)) (by decide +kernel : _ ≤ 100))) z2)) (show _ ≤ 100 by decide +kernel)
    · rw [ln]
      exact q H4 s4
theorem ok_seq {f CL CS C D : Addr} {fd : FuncData} {k : Nat} (F : Fun K "__eq__" "Store.__eq__" sSeq f fd) (L : SCls K C) (LD : SCls K D) (I : SIs K CS D) (GE : OwN P w K mg base k CL "__eq__" (spLeq K CL)) (gS : mg "Store" = some (.ref CS)) (mI : mg "isinstance" = none) : FnOk P w K mg base CX0 (k + 1) f fd ["self", "other"] (spSeq K CL CS C D) := by
  refine F.ok scSeq (fun vs H Q E h => ?_) (fun cdv A outer s H vs Q E hr h => ?_)
  · obtain ⟨a, la, t, ms, ks, ps, y, rfl, _⟩ := h
    rfl
  · obtain ⟨a, la, t, ms, ks, ps, y, rfl, ⟨dx, fs, kvs, h1, h2, h3, h4, h5, h6, h7⟩, h⟩ := h
    have hu : (A.deeper (envOfC "Store.__eq__" (defScope sSeq) s.heap.objs.size f cdv)).units + 70 < cLine := by have := hr.un; omega
    refine ⟨_, pss_cons (ps_if (pt_not (pt_val (pe_callB call_isi (by rfl) mI (by decide +kernel) (pa_cons (pv 1) (pa_cons (pe_glob (v := .ref CS) rfl gS rfl) pa_nil))))) (pss_one (ps_ret pe_bl)) pss_nil)
      (pss_one (ps_ret (pe_and (pe_cmpR (op_eqN GE hr) (pe_fld (pv 0) (by rfl)) (pe_fld (pv 1) (by rfl)) (nomark _)) (pe_one (pe_cmpR (op_eqK (α := Pr) hu) (pe_fld (pv 0) (by rfl)) (pe_fld (pv 1) (by rfl)) (nomark _)))))), ?_⟩
    rcases h with ⟨⟨ty, ht, kt⟩, q⟩ | ⟨b, lb, u, ms', ks', qs, rfl, ⟨dy, gs, jvs, g1, g2, g3, g4, g5, g6, g7⟩, q⟩
    · exact ⟨y, rfl, y, .ref CS, ty, .ref CS, false, rfl, .own CS, ht, kt, false, rfl, iteT q⟩
    · refine ⟨.ref b, rfl, .ref b, .ref CS, .ref D, .ref CS, true, rfl, .own CS, .base (.ins g1 LD.cl I.ha I.hn I.ht I.hm), I.me, true, rfl, iteF ?_⟩
      have hLa := h4
      obtain ⟨dl, fl, pm, pk, l1, _⟩ := h4
      have hLb := g4
      obtain ⟨dl', fl', pm', pk', l1', _⟩ := g4
      refine ⟨.ref a, rfl, a, C, dx, fs, .ref la, rfl, h1, L.cl, L.nl, h2, .ref b, rfl, b, D, dy, gs, .ref lb, rfl, g1, LD.cl, LD.nl, g2, la, dl, fl, .ref CL, rfl, l1, TyL.ins l1', by simp [PySem.W.notFirst], la, .ref lb, ms, ks, rfl, hLa, .inr ⟨lb, ms', ks', rfl, hLb, _, rfl, ?_⟩⟩
      rw [if_neg Bool.false_ne_true]
      refine ⟨_, rfl, ?_⟩
      cases c : (decide (ms = ms') && decide (ks = ks')) with
      | false =>
        rw [c] at q
        exact q
      | true =>
        rw [c] at q
        refine ⟨.ref a, rfl, a, C, dx, fs, .ref t, rfl, h1, L.cl, L.nt, h3, .ref b, rfl, b, D, dy, gs, .ref u, rfl, g1, LD.cl, LD.nt, g3, t, u, ps, qs, rfl, rfl, h6.dk (.inl h5), g6.dk (.inl g5), ?_⟩
        exact q
end
end Tf

/-! def f(a, b, **d), called without keywords -/
namespace TfW
open PySem PySem.Spec PyProof.Rows L2 StX
section
variable {CX : CXT} {P : Program} {w : World} {K : PySem.W.Frag} {mg : Str → Option Value} {base : Heap} {k : Nat} {f : Addr} {name qual : Str} {params : Arguments} {body : List Stmt} {scope : Scope} {dV kV doc pm cdv ct oc : Value} {an od : Option Addr}
  {osl : Array (Option Value)} {N : List Str} {sp : Sp}
theorem fn_kw0 {p1 p2 pd : Str} (lk : K.lookup f = some ⟨oc, od, .func (PySem.W.fnOf name qual params body scope dV kV doc pm an cdv ct), osl⟩) (hcd : PySem.W.codeIn K cdv qual = true) (S : FnScope N [p1, p2, pd] scope) (hCX : CXUp CX)
    (hb : ∀ a b : Value, bindArgs (PySem.W.fnOf name qual params body scope dV kV doc pm an cdv ct) ⟨[a, b], []⟩ = ((alloc ({ cls := .type "dict", data := .dict #[] } : Obj) : Sem Addr) >>= fun d => pure [(p1, a), (p2, b), (pd, Value.ref d)]))
    (hbody : ∀ (A : Around) (outer : List Env) (s : Shared) (H : Hp) (vs : List V) (Q : VK) (E : XK), Room k (A.deeper (envOfC qual scope s.heap.objs.size f cdv)) → sp vs H Q E →
      ∃ t, PSs (cxOf CX P w K mg base N qual scope f cdv A outer s H E) body t ∧ t { nx := fun _ H' => Q .non H', rt := Q } (start N vs) H) :
    FnR P w K mg base CX (k + 1) f (fun vs H Q E => ∃ a b, vs = [a, b] ∧ ∀ d, H d = Option.none → sp [a, b, V.ref d] (upd H d (.dK [])) Q E) := by
  intro A outer s H us vs Q E hr e0 r hsp
  obtain ⟨a, b, rfl, hq⟩ := hsp
  obtain ⟨u1, u2, rfl, r1, r2⟩ := vals2 r
  have hn : H s.heap.objs.size = Option.none := e0.hok.fresh (Nat.le_refl _)
  refine run_bnd lk hcd S hr e0 (G := fun xs H2 => ∃ d, H d = Option.none ∧ xs = [a, b, V.ref d] ∧ H2 = upd H d (.dK [])) (fun A' Ex Q' h => ?_) fun s2 H2 xs ⟨d, hd, ex, eH⟩ hr' => ?_
  · rw [hb u1 u2]
    refine wpAny_bind (wpAny_alloc (wpAny_pure ?_))
    have e2 := env0_laid (u := .dK []) (o := ({ cls := .type "dict", data := .dict #[] } : Obj)) e0 (dk_empty _ (env0_big e0))
    have un := un_laid (fs := frs outer) (s := s) (o := ({ cls := .type "dict", data := .dict #[] } : Obj)) (u := .dK []) hn
    exact h _ _ [a, b, V.ref s.heap.objs.size] [u1, u2, Value.ref s.heap.objs.size] e2 un rfl (fun e s' => hCX outer s H _ _ E e s' un (fun b o q => Heap.get?_push_of_some _ q) rfl) (.cons r1 (.cons r2 (.cons rfl .nil))) rfl ⟨_, hn, rfl, rfl⟩
  · subst ex eH
    exact hbody A outer s2 _ _ Q E hr' (hq d hd)
end
end TfW

/-! def f(a, b, **d), called with two keywords; o != b where b is of a class below -/
namespace PySem
namespace TfO
open PySem.W PySem.Calls PyProof.Rows
section
variable {prog : Program} {w : World} {M : Model} {A : Around} {E : Value → Shared → Prop} {s : Shared} {K : Frag} {x y C D f : Addr} {ox oy : Obj} {od oe : Option Obj}
/-- a != b, the class of b below that of a: the __eq__ of b is asked -/
theorem neR_K {Q : Value → Shared → Prop} (hu : A.units + 1 < cLine) (X : K.In s.heap) (I : InstAt s.heap x ox C od) (J : InstAt s.heap y oy D oe) (hne' : D ≠ C) (hsub : subIn K (.ref D) (.ref C) = some true)
    (hs : findIn K (.ref D) "__eq__" = some (some (.ref f))) (hf : isFn K (.ref f) = true) (hne : findIn K (.ref D) "__ne__" = some (some (.builtin "object.__ne__"))) (hm : mroIn K D (.type "object") = some true)
    (h : wpAny (model prog w) A.in1 (call (.ref f) [.ref y, .ref x]) (fun v s' => ∃ r, v = .bool r ∧ Q (.bool (!r)) s') E s) : wpAny (model prog w) A (richCompare .NotEq (.ref x) (.ref y)) Q E s := by
  have one : wpAny (model prog w) A (tryCompare (.ref y) (cmpInfo .NotEq).2.2 (.ref x)) (fun r s' => ∃ v, r = some v ∧ Q v s') E s := by
    unfold tryCompare
    refine wpAny_bind (ifBound_B (name := "__ne__") X J hne slot_one.bind ?_)
    refine wpAny_call (codeAny_call_builtin slot_one.plain F.cmpEntry_ne (check_slot (i := "object.__ne__") (owner := "object") (n := "__ne__") F.cmpKind_ne F.cmpSplit_ne (J.type.andThen (looks_mroIn X hm)) (F.cmpArgs_ne _ _) ?_))
    unfold Builtin.«object.__ne__»
    refine wpAny_bind (m := slotArgs "__ne__" 1 _) (wpAny_pure ?_)
    refine wpAny_bind (m := cRoomFor _ _) (wpAny_cRoomFor hu ?_)
    refine wpAny_bind (m := callSpecialIfBound? (.ref y) (Str.ofString "__eq__") _) (ifBound_K X J hs hf (wpAny_mono h (fun r s' hq => ?_) fun _ _ z => z))
    obtain ⟨r, rfl, hq⟩ := hq
    refine wpAny_bind (m := truthy (.bool r)) (wpAny_truthy_bool ?_)
    exact wpAny_pure (wpAny_pure ⟨_, rfl, hq⟩)
  unfold richCompare
  simp only [oneThing_ref]
  refine wpAny_holding (wpAny_bind (wpAny_cRoomFor (Nat.lt_of_succ_lt hu) ?_))
  refine wpAny_bind (I.type.here (wpAny_bind (J.type.here ?_)))
  have q : (Value.ref C != Value.ref D) = true := by
    rw [bne_iff_ne]
    intro e
    injection e with e
    exact hne' e.symm
  simp only [q, if_true]
  refine wpAny_bind ((looks_subIn X hsub).here ?_)
  simp only [if_true]
  refine wpAny_bind (wpAny_mono one (fun r s' z => ?_) fun _ _ e => e)
  obtain ⟨v, rfl, hq⟩ := z
  exact wpAny_bind (wpAny_rule (wpAny_pure hq))
end
end TfO
end PySem
namespace L2
open PySem PySem.Spec PyProof.Rows
section
variable {X : Cx} {CX : CXT} {k : Nat} {f C D : Addr} {sp : Sp} {E : XK}
def rNeR (C D : Addr) (sp : Sp) (E : XK) : R2 := fun x y H Q => ∃ a dx fs b dy gs, x = .ref a ∧ y = .ref b ∧ H a = some (.ins C dx fs) ∧ H b = some (.ins D dy gs) ∧ sp [.ref b, .ref a] H (fun v H' => ∃ r, v = .bl r ∧ Q (.bl (!r)) H') E
theorem op_neR (o : OwnM X.K D "__eq__" f) (hD : D ≠ C) (hsub : PySem.W.subIn X.K (.ref D) (.ref C) = some true) (hne : PySem.W.findIn X.K (.ref D) "__ne__" = some (some (.builtin "object.__ne__"))) (hm : PySem.W.mroIn X.K D (.type "object") = some true) (F : FnR X.prog X.w X.K X.mg X.base CX k f sp) (hr : Room (k + 1) X.A) (hx : Passes CX X E) : OpR X (compareOp .NotEq) (rNeR C D sp E) := by
  intro pins s σ H x y u v Q I rx ry h
  obtain ⟨a, dx, fs, b, dy, gs, rfl, rfl, ha, hb, h⟩ := h
  cases rx
  cases ry
  obtain ⟨ox, od, J⟩ := ins_at I ha
  obtain ⟨oy, oe, J'⟩ := ins_at I hb
  show wpAny (model X.prog X.w) X.A (richCompare .NotEq (.ref a) (.ref b)) (EP X pins σ Q) X.xe s
  refine PySem.TfO.neR_K (by have := hr.un; omega) I.kIn J J' hD hsub o.at_ o.fn hne hm (wpAny_mono (run_sub F (sub1 hr) hx I (vs := [.ref b, .ref a]) (.cons rfl (.cons rfl .nil)) h) (fun v s' q => ?_) fun _ _ z => z)
  obtain ⟨v', H', I', rv, r, rfl, q⟩ := q
  cases rv
  exact ⟨r, rfl, .bl (!r), H', I', rfl, q⟩
end
end L2
namespace TfW
open PySem PySem.Spec PyProof.Rows L2 StX
/-- a new name in a dict of texts -/
theorem nsSet_dk {P : Program} {w : World} {A : Around} {E : Value → Shared → Prop} {s : Shared} {d : Addr} {vs : List (Key × Value)} {name : Str} {v : Value} {Q : Unit → Shared → Prop} (dd : s.heap.DictOf (mixKind P w) d vs) (hn : Sum.inr name ∉ vs.map (·.1))
    (h : ∀ h' : Heap, h'.DictOf (mixKind P w) d (vs ++ [(Sum.inr name, v)]) → Heap.SameBut d s.heap h' → Q () { s with heap := h', toks := s.toks + 1 }) : wpAny (model P w) A (nsSet d name v) Q E s := by
  obtain ⟨o, es, ep, ho, ⟨x1, x2, x3⟩, hd, hk, hp, nd⟩ := dd
  have ref : es.any (·.refKey) = false := by
    rw [Array.any_eq_false']
    intro e he
    obtain ⟨k, h1, _⟩ := hk e he
    rcases keyIs_shape h1 with ⟨i, t, _, e1⟩ | ⟨z, t, _, e1⟩ <;> simp [DictEntry.refKey, e1]
  have par : ∀ {xs : List DictEntry} {ws : List (Key × Value)}, Pairs (mixKind P w) xs ws → ∀ e ∈ xs, ∃ kv ∈ ws, keyIs kv.1 e.key = true := by
    intro xs ws hp
    induction hp with
    | nil => intro e he; cases he
    | cons h1 h2 _ ih =>
      intro e he
      rcases List.mem_cons.mp he with rfl | he
      · exact ⟨_, List.mem_cons_self, h1⟩
      · obtain ⟨kv, m, q⟩ := ih e he
        exact ⟨kv, List.mem_cons_of_mem _ m, q⟩
  have fnd : es.findIdx? (·.key.isStr name) = none := by
    rw [Array.findIdx?_eq_none_iff]
    intro e he
    obtain ⟨kv, m, q⟩ := par hp e (Array.mem_toList_iff.mpr he)
    cases hz : e.key.isStr name with
    | false => rfl
    | true =>
      exfalso
      refine hn (List.mem_map.mpr ⟨kv, m, ?_⟩)
      rcases keyIs_shape q with ⟨i, t, _, e1⟩ | ⟨z, t, e0, e1⟩
      · rw [e1] at hz
        cases hz
      · rw [e1] at hz
        rw [e0]
        have hz' : (z == name) = true := hz
        rw [beq_iff_eq.mp hz']
  intro Γ p hΓ
  show Sem.wp _ _ _ _ _ _ _
  simp only [nsSet, strHash, Sem.wp_bind', Sem.wp_cmd_ask, Sem.wp_pure', Sem.wp_cmd_mkText]
  rw [Sem.wp_loadPart_of _ Γ _ p { s with toks := s.toks + 1 } (o := o) _ ho]
  simp only [hd, aRefKeyMayBeTheName_eq, aRefKeyMayBeTheNameByArray, ref, Bool.and_false, Bool.false_eq_true, if_false, Sem.wp_cmd_updatePart]
  refine ⟨by rw [ho]; rfl, h _ ?_ (Heap.SameBut.update ..)⟩
  obtain ⟨c, dd, dt, sl⟩ := o
  subst hd
  refine ⟨_, _, ep + 1, Heap.get?_update_self _ ho (by simp only [Obj.putName_eq, Obj.putNameByArray, fnd]; rfl), ⟨by simp only [Obj.putName_eq, Obj.putNameByArray, fnd]; exact x1, by simp only [Obj.putName_eq, Obj.putNameByArray, fnd]; exact x2, by simp only [Obj.putName_eq, Obj.putNameByArray, fnd]; exact x3⟩, by simp only [Obj.putName_eq, Obj.putNameByArray, fnd]; rfl, ?_, ?_, ?_⟩
  · intro e he
    rcases Array.mem_push.mp he with he | rfl
    · exact hk e he
    · exact ⟨Sum.inr name, keyIs_str name s.toks, rfl⟩
  · rw [Array.toList_push]
    have app : ∀ {xs : List DictEntry} {ws : List (Key × Value)} {e : DictEntry} {kv : Key × Value}, Pairs (mixKind P w) xs ws → (mixKind P w).is kv.1 e.key = true → e.val = kv.2 → Pairs (mixKind P w) (xs ++ [e]) (ws ++ [kv]) := by
      intro xs ws e kv hp h1 h2
      induction hp with
      | nil => exact .cons h1 h2 .nil
      | cons q1 q2 _ ih => exact .cons q1 q2 ih
    exact app hp (keyIs_str name s.toks) rfl
  · rw [List.map_append, List.nodup_append]
    refine ⟨nd, by simp, fun a ha b hb => ?_⟩
    have eb : b = Sum.inr name := by simpa using hb
    rintro rfl
    exact hn (eb ▸ ha)
section
variable {CX : CXT} {P : Program} {w : World} {K : PySem.W.Frag} {mg : Str → Option Value} {base : Heap} {k : Nat} {f : Addr} {name qual : Str} {params : Arguments} {body : List Stmt} {scope : Scope} {dV kV doc pm cdv ct oc : Value} {an od : Option Addr}
  {osl : Array (Option Value)} {N : List Str} {sp : Sp}
theorem fn_kw2 {p1 p2 pd k1 k2 : Str} (lk : K.lookup f = some ⟨oc, od, .func (PySem.W.fnOf name qual params body scope dV kV doc pm an cdv ct), osl⟩) (hcd : PySem.W.codeIn K cdv qual = true) (S : FnScope N [p1, p2, pd] scope) (hCX : CXUp CX) (hk : k1 ≠ k2)
    (hb : ∀ a b u1 u2 : Value, bindArgs (PySem.W.fnOf name qual params body scope dV kV doc pm an cdv ct) ⟨[a, b], [(k1, u1), (k2, u2)]⟩ = ((alloc ({ cls := .type "dict", data := .dict #[] } : Obj) : Sem Addr) >>= fun d => forIn [(k1, u1), (k2, u2)] PUnit.unit (fun x (_ : PUnit) => nsSet d x.1 x.2 >>= fun _ => pure (ForInStep.yield PUnit.unit)) >>= fun _ => pure [(p1, a), (p2, b), (pd, Value.ref d)]))
    (hbody : ∀ (A : Around) (outer : List Env) (s : Shared) (H : Hp) (vs : List V) (Q : VK) (E : XK), Room k (A.deeper (envOfC qual scope s.heap.objs.size f cdv)) → sp vs H Q E →
      ∃ t, PSs (cxOf CX P w K mg base N qual scope f cdv A outer s H E) body t ∧ t { nx := fun _ H' => Q .non H', rt := Q } (start N vs) H) :
    FnA P w K mg base CX (k + 1) f [k1, k2] (fun vs zs H Q E => ∃ a b y z, vs = [a, b] ∧ zs = [y, z] ∧ ∀ d, H d = Option.none → sp [a, b, V.ref d] (upd H d (.dK [(Sum.inr k1, y), (Sum.inr k2, z)])) Q E) := by
  intro A outer s H us ws vs zs Q E hr e0 r rz hsp
  obtain ⟨a, b, y, z, rfl, rfl, hq⟩ := hsp
  obtain ⟨u1, u2, rfl, r1, r2⟩ := vals2 r
  obtain ⟨u3, u4, rfl, r3, r4⟩ := vals2 rz
  have hn : H s.heap.objs.size = Option.none := e0.hok.fresh (Nat.le_refl _)
  refine run_bnd lk hcd S hr e0 (G := fun xs H2 => ∃ d, H d = Option.none ∧ xs = [a, b, V.ref d] ∧ H2 = upd H d (.dK [(Sum.inr k1, y), (Sum.inr k2, z)])) (fun A' Ex Q' h => ?_) fun s2 H2 xs ⟨d, hd, ex, eH⟩ hr' => ?_
  · show wpAny _ _ (bindArgs _ ⟨[u1, u2], [(k1, u3), (k2, u4)]⟩) _ _ _
    rw [hb u1 u2 u3 u4]
    refine wpAny_bind (wpAny_alloc ?_)
    have d0 : (s.heap.push ({ cls := .type "dict", data := .dict #[] } : Obj)).DictOf (mixKind P w) s.heap.objs.size [] := ⟨_, #[], 0, Heap.get?_push_size _ rfl, ⟨rfl, rfl, rfl⟩, rfl, fun e he => by simp at he, .nil, List.nodup_nil⟩
    simp only [List.forIn_cons, List.forIn_nil]
    refine wpAny_bind (wpAny_bind (wpAny_bind (nsSet_dk d0 (by simp) fun h1 d1 b1 => wpAny_pure ?_)))
    refine wpAny_bind (wpAny_bind (nsSet_dk (s := { s with heap := h1, toks := s.toks + 1 }) d1 (by simpa using fun e => hk e.symm) fun h2 d2 b2 => wpAny_pure ?_))
    refine wpAny_pure (wpAny_pure ?_)
    have kp : ∀ b x, s.heap.get? b = some x → h2.get? b = some x := fun b x e => by
      have ne : b ≠ s.heap.objs.size := Nat.ne_of_lt (Heap.lt_size e)
      rw [b2.2 b ne]
      show h1.get? b = some x
      rw [b1.2 b ne]
      exact Heap.get?_push_of_some _ e
    have sz : s.heap.objs.size ≤ h2.objs.size := by
      have z1 := b1.1
      have z2 : h2.objs.size = h1.objs.size := b2.1
      rw [z2, z1]
      show s.heap.objs.size ≤ (s.heap.push _).objs.size
      rw [Heap.size_push]
      exact Nat.le_succ _
    have new : ObjOk P w (upd H s.heap.objs.size (.dK [(Sum.inr k1, y), (Sum.inr k2, z)])) h2 s.heap.objs.size (.dK [(Sum.inr k1, y), (Sum.inr k2, z)]) := ⟨by show 2 ≤ sizeLine; decide, beq_eq_false_iff_ne.mpr (Nat.ne_of_gt (env0_big e0)), _, .cons ⟨rfl, r3⟩ (.cons ⟨rfl, r4⟩ .nil), d2⟩
    have un : Un (frs outer) [] H (upd H s.heap.objs.size (.dK [(Sum.inr k1, y), (Sum.inr k2, z)])) s.heap h2 := Un.laid kp (Nat.le_refl _) hn
    have e2 : Env0 P w K mg base A outer { s with heap := h2, toks := s.toks + 1 + 1 } (upd H s.heap.objs.size (.dK [(Sum.inr k1, y), (Sum.inr k2, z)])) := by
      refine ⟨e0.frames, e0.mod, fun b x e => ⟨kp b x (e0.bs b x e).1, ?_⟩, Nat.le_trans e0.bsz sz, Heap.FunFrames.of_keeps (fun b x e _ => ⟨x, kp b x e, rfl⟩) e0.funs, fun b hb => ?_, e0.hok.laid kp (Nat.le_refl _) new, e0.bare⟩
      · rw [upd_ne (Nat.ne_of_lt (Heap.lt_size (e0.bs b x e).1))]
        exact (e0.bs b x e).2
      · obtain ⟨_, x, hx, _⟩ := e0.funs.mem hb
        rw [upd_ne (Nat.ne_of_lt (Heap.lt_size hx))]
        exact e0.frf b hb
    exact h _ _ [a, b, V.ref s.heap.objs.size] [u1, u2, Value.ref s.heap.objs.size] e2 un rfl (fun e s' => hCX outer s H _ _ E e s' un kp rfl) (.cons r1 (.cons r2 (.cons rfl .nil))) rfl ⟨_, hn, rfl, rfl⟩
  · subst ex eH
    exact hbody A outer s2 _ _ Q E hr' (hq d hd)
end
end TfW
namespace L2
open PySem PySem.Spec PyProof.Rows
/-- C(e, .., k = v, ..) -/
def tMakeA2 (C : Addr) (sp : SpK) (E : XK) (t : TA) (tk : TA) : TE := fun σ H Q => t σ H fun xs H1 => tk σ H1 fun zs H2 => ∀ x dx, H2 x = none → H2 dx = none → dx ≠ x →
  sp (.ref x :: xs) zs (upd (upd H2 dx (.own x)) x (.ins C dx [])) (fun v H3 => v = .non ∧ Q (.ref x) H3) E
section
variable {X : Cx} {CX : CXT} {k : Nat} {f C : Addr} {ks : List Str} {sp : SpK} {E : XK} {x : Str} {p sp_ pos : Pos} {e fe : Expr} {es : List Expr} {kws : List Keyword} {t tk : TA} {te tf : TE}
theorem pe_makeA2 (M : Mk X.K C f) (F : FnA X.prog X.w X.K X.mg X.base CX k f ks sp) (hr : Room (k + 1) X.A) (hg : Gl X x) (hm : X.mg x = some (.ref C)) (hx : Passes CX X E) (ha : PA X (e :: es) t) (hkw : PK X kws tk)
    (hall : (backToKw pos (keywordEach kws X.env)).all (·.1.isSome) = true := by rfl) (hks : (backToKw pos (keywordEach kws X.env)).filterMap (·.1) = ks := by rfl) (hdb : (x == ("__debug__" : Str)) = false := by decide)
    (he : starEach (e :: es) X.env = (false, eval e X.env) :: starEach es X.env := by rfl) (hpl : ((backTo pos (starEach (e :: es) X.env)).any (·.1) || (backToKw pos (keywordEach kws X.env)).any (·.1.isNone)) = false := by rfl) :
    PE X (.Call (.Name x p) (e :: es) kws pos) (tMakeA2 C sp E t tk) := by
  refine ⟨fun pins s σ H Q I h => ?_⟩
  refine wpAny_Call_Name_kw (ld_glob I hg hm ?_ hdb)
  refine PySem.W.callWith_KW (h₀ := X.base) I.ok.mod.kin M.kp hall (thn (ha.run pos pins s σ H _ I h) fun us s1 ⟨vs, H1, I1, r, q⟩ => ?_) hpl he
  refine thn (hkw.run pos pins s1 σ H1 _ I1 q) fun ws s2 ⟨zs, H2, I2, rz, q2⟩ => ⟨I2.kIn, ?_⟩
  rw [hks]
  exact run_makeA M F hr hx I2 r rz q2
end
end L2

/-! Store(language, bob = .., ann = ..), Store(language) -/
namespace Tf
open PySem PySem.Spec PyProof.Rows L2 PySem.W
abbrev sSin : Stmt := inClass sStore 0
theorem scSin : FnScope ["self", "language", "things"] ["self", "language", "things"] (defScope sSin) := ⟨rfl, rfl, rfl, by decide +kernel, rfl, by decide +kernel, by decide +kernel⟩
def spSbody (CL C : Addr) : Sp := fun vs H Q _ => ∃ (H0 : Hp) (x dx la d : Addr) (ms ks : List Str) (kvs : List (Key × V)) (ps : Ps), vs = [.ref x, .ref la, .ref d] ∧ Same H0 H ∧ H0 x = none ∧ H x = some (.ins C dx []) ∧ LangAt CL H la ms ks ∧ H d = some (.dK kvs) ∧ PsR H kvs ps ∧ SIn ms ks ps ∧ d ≠ x ∧ la ≠ x ∧
  ∀ (t : Addr) (H' : Hp), Same H0 H' → H0 t = none → StoreAt CL C H' x la t ms ks (normS ps) → Q .non H'
def spSin0 (CL C : Addr) : Sp := fun vs H Q _ => ∃ (H0 : Hp) (x dx la : Addr) (ms ks : List Str), vs = [.ref x, .ref la] ∧ H = upd (upd H0 dx (.own x)) x (.ins C dx []) ∧ H0 x = none ∧ H0 dx = none ∧ dx ≠ x ∧ LangAt CL H0 la ms ks ∧
  ∀ (t : Addr) (H' : Hp), Same H0 H' → H0 t = none → StoreAt CL C H' x la t ms ks [] → Q .non H'
def spSin2 (CL C : Addr) (k1 k2 : Str) : SpK := fun vs zs H Q _ => ∃ (H0 : Hp) (x dx la : Addr) (y z : V) (p q : Pr) (ms ks : List Str), vs = [.ref x, .ref la] ∧ zs = [y, z] ∧ H = upd (upd H0 dx (.own x)) x (.ins C dx []) ∧ H0 x = none ∧ H0 dx = none ∧ dx ≠ x ∧ LangAt CL H0 la ms ks ∧ Tt H0 y p ∧ Tt H0 z q ∧ SIn ms ks [(k1, p), (k2, q)] ∧
  ∀ (t : Addr) (H' : Hp), Same H0 H' → H0 t = none → StoreAt CL C H' x la t ms ks (normS [(k1, p), (k2, q)]) → Q .non H'
theorem normS_nil : normS [] = [] := by
  have h := canon_len ([] : List Str)
  have e : canon ([] : List Str) = [] := List.length_eq_zero_iff.mp (Nat.le_zero.mp h)
  unfold normS
  rw [List.map_nil, e]
  rfl
theorem LangAt.ne {CL : Addr} {H : Hp} {la x : Addr} {ms ks : List Str} (h : LangAt CL H la ms ks) (n : H x = none) : la ≠ x := by
  obtain ⟨dx, fs, pm, pk, h1, _⟩ := h
  exact ne_of_none h1 n
section
variable {P : Program} {w : World} {K : PySem.W.Frag} {mg : Str → Option Value} {base : Heap}
theorem body_sin {f CL C : Addr} {k : Nat} (L : SCls K C) (GR : CdN P w K mg base k "require_language" ["language"] (spRl CL)) (GC : CdN P w K mg base k "checked_things" ["language", "things"] (spCk CL))
    (cdv : Value) (A : Around) (outer : List Env) (s : Shared) (H : Hp) (vs : List V) (Q : VK) (E : XK) (hr : Room k (A.deeper (envOfC "Store.__init__" (defScope sSin) s.heap.objs.size f cdv))) (h : spSbody CL C vs H Q E) :
    ∃ t, PSs (cxOf CX0 P w K mg base ["self", "language", "things"] "Store.__init__" (defScope sSin) f cdv A outer s H E).nox (defBody sSin) t ∧ t { nx := fun _ H' => Q .non H', rt := Q } (start ["self", "language", "things"] vs) H := by
  obtain ⟨H0, x, dx, la, d, ms, ks, kvs, ps, rfl, s0, nx, ex, hL, hd, hp, si, dn, ln, q⟩ := h
  refine ⟨_, pss_cons (ps_expr (pe_cdn GR hr (pa_cons (pv 1) pa_nil))) (pss_cons (ps_fld (pv 0) (pv 1) rfl) (pss_one (ps_fld (pv 0) (pe_cdn GC hr (pa_cons (pv 1) (pa_cons (pv 2) pa_nil))) rfl))), ?_⟩
  refine ⟨.ref la, rfl, la, ms, ks, rfl, hL, ?_⟩
  refine ⟨.ref la, rfl, .ref x, rfl, x, C, dx, [], rfl, ex, L.cl, L.nl, by decide, ?_⟩
  have s1 : Same H0 (upd H x (.ins C dx (putF "own_language" (.ref la) []))) := s0.mut nx
  have x1 : (upd H x (.ins C dx (putF "own_language" (.ref la) []))) x = some (.ins C dx [(("own_language" : Str), .ref la)]) := upd_same
  have hd1 : (upd H x (.ins C dx (putF "own_language" (.ref la) []))) d = some (.dK kvs) := by rw [upd_ne dn]; exact hd
  have hL1 : LangAt CL (upd H x (.ins C dx (putF "own_language" (.ref la) []))) la ms ks := by
    obtain ⟨dy, fs, pm, pk, h1, h2, h3, h4, h5, h6⟩ := hL
    exact ⟨dy, fs, pm, pk, by rw [upd_ne ln]; exact h1, h2, h3, by rw [upd_ne (ne_of h4 ex (fun z => nomatch z))]; exact h4, by rw [upd_ne (ne_of h5 ex (fun z => nomatch z))]; exact h5, h6⟩
  have kt : Kt H (upd H x (.ins C dx (putF "own_language" (.ref la) []))) := fun b xs e => by rw [upd_ne (ne_of e ex (fun z => nomatch z))]; exact e
  have hp1 := hp.kt kt
  generalize upd H x (.ins C dx (putF "own_language" (.ref la) [])) = H1 at s1 x1 hd1 hL1 hp1 ⊢
  refine ⟨.ref la, rfl, .ref d, rfl, la, d, ms, ks, kvs, ps, rfl, hL1, hd1, hp1, si, fun t kvs' H2 s2 nt et rt => ?_⟩
  refine ⟨.ref x, rfl, x, C, dx, _, rfl, s2 _ _ x1, L.cl, L.nt, (show 1 < 1000 by decide), ?_⟩
  have tx : t ≠ x := (ne_of_none x1 nt).symm
  have hL2 := hL1.kq s2.kq
  refine q t _ ((s1.trans s2).mut nx) (s1.free nt) ⟨dx, _, kvs', upd_same, rfl, rfl, ?_, by rw [upd_ne tx]; exact et, rt.kt fun b xs e => by rw [upd_ne (ne_of e (s2 _ _ x1) (fun z => nomatch z))]; exact e, rfl⟩
  obtain ⟨dy, fs, pm, pk, h1, h2, h3, h4, h5, h6⟩ := hL2
  exact ⟨dy, fs, pm, pk, by rw [upd_ne ln]; exact h1, h2, h3, by rw [upd_ne (ne_of h4 (s2 _ _ x1) (fun z => nomatch z))]; exact h4, by rw [upd_ne (ne_of h5 (s2 _ _ x1) (fun z => nomatch z))]; exact h5, h6⟩
theorem ok_sin0 {f CL C : Addr} {fd : FuncData} {k : Nat} (F : Fun K "__init__" "Store.__init__" sSin f fd) (L : SCls K C) (GR : CdN P w K mg base k "require_language" ["language"] (spRl CL)) (GC : CdN P w K mg base k "checked_things" ["language", "things"] (spCk CL)) : FnR P w K mg base CX0 (k + 1) f (spSin0 CL C) := by
  obtain ⟨oc, od, kV, doc, pm, an, cdv, ct, osl, rfl, lk, hcd⟩ := F.ex
  have G := TfW.fn_kw0 (CX := CX0) (p1 := "self") (p2 := "language") (pd := "things") (sp := spSbody CL C) lk hcd scSin StX.cxUp_none (fun a b => rfl) (fun A outer s H vs Q E hr h => by
    obtain ⟨t, h1, h2⟩ := body_sin L GR GC cdv A outer s H vs Q E hr h
    exact ⟨t, h1.nox, h2⟩)
  intro A outer s H us vs Q E hr e0 r hs
  obtain ⟨H0, x, dx, la, ms, ks, rfl, rfl, nx, nd, ne, hL, q⟩ := hs
  refine G A outer s _ us _ Q E hr e0 r ⟨.ref x, .ref la, rfl, fun d hd => ?_⟩
  have s0 : Same H0 (upd (upd H0 dx (.own x)) x (.ins C dx [])) := (same_new nd).mut nx
  have ex : (upd (upd H0 dx (.own x)) x (.ins C dx [])) x = some (.ins C dx []) := upd_same
  generalize upd (upd H0 dx (.own x)) x (.ins C dx []) = H1 at s0 ex hd ⊢
  have dn : d ≠ x := (ne_of_none ex hd).symm
  refine ⟨H0, x, dx, la, d, ms, ks, [], [], rfl, s0.new hd, nx, by rw [upd_ne dn.symm]; exact ex, hL.kq (s0.new hd).kq, upd_same, .nil, ⟨List.nodup_nil, (fun z hz => nomatch hz), (fun p hp => nomatch hp), Nat.zero_le _⟩, dn, hL.ne nx, by rw [normS_nil]; exact q⟩
theorem ok_sin2 {f CL C : Addr} {fd : FuncData} {k : Nat} (F : Fun K "__init__" "Store.__init__" sSin f fd) (L : SCls K C) (GR : CdN P w K mg base k "require_language" ["language"] (spRl CL)) (GC : CdN P w K mg base k "checked_things" ["language", "things"] (spCk CL)) : FnA P w K mg base CX0 (k + 1) f ["bob", "ann"] (spSin2 CL C "bob" "ann") := by
  obtain ⟨oc, od, kV, doc, pm, an, cdv, ct, osl, rfl, lk, hcd⟩ := F.ex
  refine fnA_imp (TfW.fn_kw2 (CX := CX0) (p1 := "self") (p2 := "language") (pd := "things") (k1 := "bob") (k2 := "ann") (sp := spSbody CL C) lk hcd scSin StX.cxUp_none (by decide) (fun a b u1 u2 => rfl) (fun A outer s H vs Q E hr h => by
    obtain ⟨t, h1, h2⟩ := body_sin L GR GC cdv A outer s H vs Q E hr h
    exact ⟨t, h1.nox, h2⟩)) ?_
  rintro vs zs H Q E ⟨H0, x, dx, la, y, z, p, q', ms, ks, rfl, rfl, rfl, nx, nd, ne, hL, ty, tz, si, q⟩
  refine ⟨.ref x, .ref la, y, z, rfl, rfl, fun d hd => ?_⟩
  have s0 : Same H0 (upd (upd H0 dx (.own x)) x (.ins C dx [])) := (same_new nd).mut nx
  have ex : (upd (upd H0 dx (.own x)) x (.ins C dx [])) x = some (.ins C dx []) := upd_same
  generalize upd (upd H0 dx (.own x)) x (.ins C dx []) = H1 at s0 ex hd ⊢
  have dn : d ≠ x := (ne_of_none ex hd).symm
  have S : Same H0 (upd H1 d (.dK [(Sum.inr ("bob" : Str), y), (Sum.inr ("ann" : Str), z)])) := s0.new hd
  exact ⟨H0, x, dx, la, d, ms, ks, _, _, rfl, S, nx, by rw [upd_ne dn.symm]; exact ex, hL.kq S.kq, upd_same, .cons ⟨rfl, ty.kq S.kq⟩ (.cons ⟨rfl, tz.kq S.kq⟩ .nil), si, dn, hL.ne nx, q⟩
end
end Tf

/-! plain lemmas on stores -/
namespace L2
open PySem PySem.Spec PyProof.Rows PySem.W
theorem TyL.of {X : Cx} {H : Hp} {x : V} {t : Value} (h : TyX X.K H x t) : TyL X H x t := fun pins σ s u I r => by
  obtain ⟨P, kx, p, _⟩ := kit_of I r h
  exact kx.ty _ _ I.kIn p
def rEqY (K : PySem.W.Frag) (C : Addr) (sp : Sp) (neg : Bool) : R2 := fun x y H Q => ∃ a dx fs tb, x = .ref a ∧ H a = some (.ins C dx fs) ∧ TyX K H y tb ∧ PySem.W.notFirst K C tb = true ∧ sp [.ref a, y] H (fun v H' => ∃ b, v = .bl b ∧ Q (.bl (if neg then !b else b)) H') E0
section
variable {X : Cx} {k : Nat} {C : Addr} {sp : Sp}
theorem op_eqY (F : OwN X.prog X.w X.K X.mg X.base k C "__eq__" sp) (hr : Room k X.A) : OpR X (compareOp .Eq) (rEqY X.K C sp false) := by
  intro pins s σ H x y u v Q I rx ry h
  obtain ⟨a, dx, fs, tb, e1, e2, ty, nf, h⟩ := h
  exact op_eqN F hr pins s σ H x y u v Q I rx ry ⟨a, dx, fs, tb, e1, e2, TyL.of ty, nf, h⟩
theorem pe_cmn {o e : Expr} {es : List Expr} {ta : TE} {t : TA} {m : Str} {apos pos : Pos} {pl : Sem Bool} (F : CmN X.prog X.w X.K X.mg X.base k C m sp) (hr : Room k X.A) (he : PE X o ta) (ha : PA X (e :: es) t)
    (hst : starEach (e :: es) X.env = (false, eval e X.env) :: starEach es X.env := by rfl) (hpl : (backTo pos (starEach es X.env)).any (·.1) = false := by rfl)
    (ht : eval (.Call (.Attribute o m apos) (e :: es) [] pos) X.env = (do
      let ov ← eval o X.env
      standAt apos.atName
      let (f, first) ← holding [ov] (getMethod ov m pl)
      callWith pos f first (backTo pos (starEach (e :: es) X.env)) (backToKw pos (keywordEach [] X.env))) := by rfl) : PE X (.Call (.Attribute o m apos) (e :: es) [] pos) (ClX.tCMeth C sp E0 ta t) := by
  obtain ⟨mc, p, g, r, c, G⟩ := F
  exact ClX.pe_cmeth he r c G hr pass0 ha hst hpl ht
end
end L2
namespace Tf
open PySem PySem.Spec PyProof.Rows L2 PySem.W
theorem nodup_le {α : Type} [DecidableEq α] : ∀ {xs ys : List α}, xs.Nodup → (∀ x ∈ xs, x ∈ ys) → xs.length ≤ ys.length
  | [], _, _, _ => Nat.zero_le _
  | x :: xs, ys, nd, h => by
    have nd' := List.nodup_cons.mp nd
    have mx := h x List.mem_cons_self
    have ih := nodup_le (xs := xs) (ys := ys.erase x) nd'.2 fun y hy => (List.mem_erase_of_ne (fun e : y = x => nd'.1 (e ▸ hy))).mpr (h y (List.mem_cons_of_mem _ hy))
    have := List.length_erase_of_mem mx
    have pos : 0 < ys.length := List.length_pos_of_mem mx
    rw [List.length_cons]
    omega
section
variable {α : Type} [DecidableEq α] [Datum α] {H H' : Hp} {d l : Addr} {xs : List V} {as : List α}
theorem tts_pd (h : Tts H xs as) (hz : Datum.depth α ≤ 40 := by decide) : ∀ x ∈ xs, Pd H x := fun x hx => by
  obtain ⟨zs, rfl, rfl, hh⟩ := paired_zs h
  obtain ⟨z, mz, rfl⟩ := List.mem_map.mp hx
  exact (hh z mz).pd hz
theorem tts_in {x : V} (h : Tts H xs as) (hx : x ∈ xs) : ∃ a ∈ as, Tt H x a := by
  obtain ⟨zs, rfl, rfl, hh⟩ := paired_zs h
  obtain ⟨z, mz, rfl⟩ := List.mem_map.mp hx
  exact ⟨_, List.mem_map.mpr ⟨z, mz, rfl⟩, hh z mz⟩
theorem tts_perm {ys : List V} (h : Tts H xs as) (p : ys.Perm xs) : ∃ bs : List α, Tts H ys bs ∧ bs.Perm as := by
  obtain ⟨zs, rfl, rfl, hh⟩ := paired_zs h
  obtain ⟨M, m1, rfl⟩ := L2.perm_back (·.1) ys zs p
  refine ⟨M.map (·.2), ?_, m1.map _⟩
  have hM : ∀ z ∈ M, Tt H z.1 z.2 := fun z hz => hh z (m1.mem_iff.mp hz)
  clear m1 p h hh
  induction M with
  | nil => exact .nil
  | cons z M ih => exact .cons (hM z List.mem_cons_self) (ih fun y hy => hM y (List.mem_cons_of_mem _ hy))
end
theorem canon_congr {xs ys : List Str} (h : ∀ z, z ∈ xs ↔ z ∈ ys) : canon xs = canon ys := by rw [← setO_str, ← setO_str, setO_congr h]
theorem mem_names {ps : Ps} {z : Str} (nd : (ps.map (·.1)).Nodup) (m : z ∈ ps.map (·.1)) : (z, getP ps z) ∈ ps := by
  obtain ⟨p, hp, rfl⟩ := List.mem_map.mp m
  have e : (p.1, p.2) ∈ ps := hp
  rw [getP_mem nd e]
  exact e
/-- each once, ascending -/
def Nrm (ps : Ps) : Prop := ∀ p ∈ ps, normP p.2 = p.2
theorem PSt.nrm {ms ks : List Str} {ps : Ps} (h : PSt ms ks ps) : Nrm ps := fun p hp => by
  have t := h.th p hp
  unfold normP
  rw [t.cm, t.cl]
theorem merge_acc : ∀ (more acc : List (Key × V)), ((acc ++ more).map (·.1)).Nodup → mergeK acc more = acc ++ more
  | [], acc, _ => by rw [List.append_nil]; rfl
  | kv :: more, acc, nd => by
    have miss : valV acc kv.1 = none := by
      cases hv : valV acc kv.1 with
      | none => rfl
      | some v =>
        exfalso
        have a : (acc.any fun x => decide (x.1 = kv.1)) = true := by rw [valV_any, hv]; rfl
        obtain ⟨x, mx, ex⟩ := List.any_eq_true.mp a
        rw [List.map_append, List.nodup_append] at nd
        exact nd.2.2 x.1 (List.mem_map.mpr ⟨x, mx, rfl⟩) kv.1 (by rw [List.map_cons]; exact List.mem_cons_self) (of_decide_eq_true ex)
    have e : mergeK acc (kv :: more) = mergeK (acc ++ [kv]) more := by
      show mergeK (putK acc kv.1 kv.2) more = _
      rw [putK_new _ miss]
    rw [e, merge_acc more (acc ++ [kv]) (by rw [List.append_assoc]; exact nd), List.append_assoc]
    rfl
theorem keys_nodup {H : Hp} {kvs : List (Key × V)} {ps : Ps} (h : PsR H kvs ps) (nd : (ps.map (·.1)).Nodup) : (kvs.map (·.1)).Nodup := by
  rw [h.keys, show (ps.map fun x => (Sum.inr x.1 : Key)) = (ps.map (·.1)).map Sum.inr by rw [List.map_map]; rfl]
  exact List.Pairwise.map _ (fun a b hab e => hab (Sum.inr.inj e)) nd
theorem merge_self {H : Hp} {kvs : List (Key × V)} {ps : Ps} (h : PsR H kvs ps) (nd : (ps.map (·.1)).Nodup) : mergeK [] kvs = kvs := merge_acc kvs [] (keys_nodup h nd)
def putP (ps : Ps) (z : Str) (x : Pr) : Ps := ps.map fun p => if p.1 = z then (p.1, x) else p
theorem putP_names (ps : Ps) (z : Str) (x : Pr) : (putP ps z x).map (·.1) = ps.map (·.1) := by
  unfold putP
  rw [List.map_map]
  refine List.map_congr_left fun p _ => ?_
  show (if p.1 = z then (p.1, x) else p).1 = p.1
  split <;> rfl
theorem mem_putP {ps : Ps} {z : Str} {x : Pr} {p : Str × Pr} (h : p ∈ putP ps z x) : p ∈ ps ∨ p = (z, x) := by
  obtain ⟨q, hq, rfl⟩ := List.mem_map.mp h
  by_cases c : q.1 = z
  · rw [if_pos c, c]
    exact .inr rfl
  · rw [if_neg c]
    exact .inl hq
theorem PsR.put {H : Hp} {kvs : List (Key × V)} {ps : Ps} {z : Str} {x : Pr} {v : V} (h : PsR H kvs ps) (m : z ∈ ps.map (·.1)) (tv : Tt H v x) : PsR H (putK kvs (Sum.inr z) v) (putP ps z x) := by
  have a : (kvs.any fun kv => decide (kv.1 = Sum.inr z)) = true := by
    obtain ⟨u, _, hv, _⟩ := h.hit m
    rw [valV_any, hv]
    rfl
  unfold putK
  rw [if_pos a]
  clear a m
  unfold putP
  induction h with
  | nil => exact .nil
  | @cons kv y kvs ps h r ih =>
    refine .cons ?_ ih
    dsimp only
    by_cases c : y.1 = z
    · have c' : kv.1 = Sum.inr z := by rw [h.1, c]
      rw [if_pos c, if_pos c']
      exact ⟨h.1, tv⟩
    · have c' : ¬ kv.1 = Sum.inr z := by rw [h.1]; exact fun e => c (Sum.inr.inj e)
      rw [if_neg c, if_neg c']
      exact h
theorem firsts_nd {zs : List Str} (nd : zs.Nodup) : firsts zs = zs := by
  have gen : ∀ (zs L : List Str), (L ++ zs).Nodup → zs.foldl (fun L x => if x ∈ L then L else L ++ [x]) L = L ++ zs := by
    intro zs
    induction zs with
    | nil => intro L _; rw [List.append_nil]; rfl
    | cons z zs ih =>
      intro L nd
      have nz : z ∉ L := fun m => by
        have := (List.nodup_append.mp nd).2.2 z m z List.mem_cons_self
        exact this rfl
      rw [List.foldl_cons, if_neg nz, ih _ (by rw [List.append_assoc]; exact nd), List.append_assoc]
      rfl
  exact gen _ [] nd
theorem canon_nd {zs : List Str} (nd : zs.Nodup) : (canon zs).Perm zs := by
  have h := canon_perm zs
  rw [firsts_nd nd] at h
  exact h
theorem sorted_canon {ys zs : List Str} (nd : zs.Nodup) (p : ys.Perm zs) (s : sortedS ys = true) : ys = canon zs := canon_is (by rw [firsts_nd nd]; exact p) s
theorem get_self {ps : Ps} (nd : (ps.map (·.1)).Nodup) : (ps.map (·.1)).map (fun z => (z, getP ps z)) = ps := by
  rw [List.map_map]
  have e : ∀ p ∈ ps, ((fun z => (z, getP ps z)) ∘ fun p => p.1) p = p := fun p hp => by
    show (p.1, getP ps p.1) = p
    rw [getP_mem nd (show (p.1, p.2) ∈ ps from hp)]
  exact (List.map_congr_left e).trans (List.map_id _)
theorem normS_nrm {ps : Ps} (nd : (ps.map (·.1)).Nodup) (nm : Nrm ps) : normS ps = (canon (ps.map (·.1))).map fun z => (z, getP ps z) := by
  unfold normS
  refine List.map_congr_left fun z hz => ?_
  have h := nm _ (mem_names nd (mem_canon.mp hz))
  dsimp only at h
  rw [h]
theorem normS_perm {ps : Ps} (nd : (ps.map (·.1)).Nodup) (nm : Nrm ps) : (normS ps).Perm ps := by
  rw [normS_nrm nd nm]
  have h := (canon_nd nd).map fun z => (z, getP ps z)
  rw [get_self nd] at h
  exact h
theorem normS_nd (ps : Ps) : ((normS ps).map (·.1)).Nodup := by rw [normS_names]; exact nodup_canon _
theorem get_norm {ps : Ps} {z : Str} (nd : (ps.map (·.1)).Nodup) (nm : Nrm ps) (m : z ∈ ps.map (·.1)) : getP (normS ps) z = getP ps z :=
  getP_mem (normS_nd ps) ((normS_perm nd nm).mem_iff.mpr (mem_names nd m))
theorem same_perm {xs ys : Ps} (nd : (ys.map (·.1)).Nodup) (p : xs.Perm ys) : sameD xs ys = true := by
  unfold sameD
  rw [Bool.and_eq_true]
  refine ⟨beq_iff_eq.mpr p.length_eq, List.all_eq_true.mpr fun q hq => decide_eq_true ?_⟩
  exact look_mem nd (show (q.1, q.2) ∈ ys from p.mem_iff.mp hq)
theorem sum_perm {α : Type} (f : α → Nat) {xs ys : List α} (p : xs.Perm ys) : (xs.map f).sum = (ys.map f).sum := by
  induction p with
  | nil => rfl
  | cons x _ ih => rw [List.map_cons, List.map_cons, List.sum_cons, List.sum_cons, ih]
  | swap x y l => rw [List.map_cons, List.map_cons, List.map_cons, List.map_cons, List.sum_cons, List.sum_cons, List.sum_cons, List.sum_cons]; omega
  | trans _ _ h1 h2 => exact h1.trans h2
theorem links_norm {ps : Ps} (nd : (ps.map (·.1)).Nodup) (nm : Nrm ps) : links (normS ps) = links ps := sum_perm _ (normS_perm nd nm)
theorem lenA {a b : Str} {m n : Nat} (ha : a.length ≤ m) (hb : b.length ≤ n) : (a ++ b).length ≤ m + n := Nat.le_trans (len2 a b) (Nat.add_le_add ha hb)
theorem sumA {a b : Str} {m n : Nat} (ha : a.length ≤ m) (hb : b.length ≤ n) (h : m + n ≤ 1000 := by decide) : a.length + b.length ≤ sizeLine := Nat.le_trans (Nat.add_le_add ha hb) (Nat.le_trans h (by decide))
theorem store_is (m k : Nat) : storeText m k = ((((("store of " : Str) ++ ((toString (m : Int) : String) : Str)) ++ (" things, " : Str)) ++ ((toString (k : Int) : String) : Str)) ++ (" links" : Str)) := by
  unfold storeText
  have e : (Str.empty ++ ("store of " : Str) : Str) = ("store of " : Str) := by decide +kernel
  rw [e]
theorem links_le {ps : Ps} (h : ∀ p ∈ ps, p.2.2.items.length ≤ 60) (l : ps.length ≤ 60) : links ps ≤ 3600 := by
  have gen : ∀ qs : Ps, (∀ p ∈ qs, p.2.2.items.length ≤ 60) → links qs ≤ qs.length * 60 := by
    intro qs
    induction qs with
    | nil => intro _; exact Nat.zero_le _
    | cons q qs ih =>
      intro h
      have h1 := h q List.mem_cons_self
      have h2 := ih fun p hp => h p (List.mem_cons_of_mem _ hp)
      unfold links at h2 ⊢
      rw [List.map_cons, List.sum_cons, List.length_cons]
      omega
  have := gen ps h
  omega
theorem look_none {fs : List (Str × V)} {m : Str} : ∀ {ns : List Str}, fs.map (·.1) = ns → m ∉ ns → fs.lookup m = none := by
  induction fs with
  | nil => intro ns _ _; rfl
  | cons p fs ih =>
    intro ns e h
    obtain ⟨k, v⟩ := p
    subst e
    rw [List.map_cons, List.mem_cons, not_or] at h
    rw [List.lookup_cons, beq_eq_false_iff_ne.mpr h.1]
    exact ih rfl h.2
theorem sub_perm {α : Type} [DecidableEq α] : ∀ {xs ys : List α}, xs.Nodup → (∀ x ∈ xs, x ∈ ys) → xs.length = ys.length → xs.Perm ys
  | [], [], _, _, _ => .nil
  | [], _ :: _, _, _, l => by cases l
  | x :: xs, ys, nd, h, l => by
    have nd' := List.nodup_cons.mp nd
    have mx := h x List.mem_cons_self
    have le := List.length_erase_of_mem mx
    have ih := sub_perm (xs := xs) (ys := ys.erase x) nd'.2 (fun y hy => (List.mem_erase_of_ne (fun e : y = x => nd'.1 (e ▸ hy))).mpr (h y (List.mem_cons_of_mem _ hy))) (by rw [le, ← l]; rfl)
    exact (ih.cons x).trans (List.perm_cons_erase mx).symm
theorem look_some {ys : Ps} {z : Str} {x : Pr} (h : look ys z = some x) : (z, x) ∈ ys := by
  unfold look at h
  obtain ⟨p, hp, rfl⟩ := Option.map_eq_some_iff.mp h
  have m := List.mem_of_find?_eq_some hp
  have f := List.find?_some hp
  have e : p.1 = z := of_decide_eq_true f
  rw [← e]
  exact m
theorem nd_of {xs : Ps} (nd : (xs.map (·.1)).Nodup) : xs.Nodup := by
  induction xs with
  | nil => exact List.nodup_nil
  | cons x xs ih =>
    rw [List.map_cons, List.nodup_cons] at nd
    exact List.nodup_cons.mpr ⟨fun m => nd.1 (List.mem_map.mpr ⟨x, m, rfl⟩), ih nd.2⟩
theorem sameD_iff {xs ys : Ps} (ndx : (xs.map (·.1)).Nodup) (ndy : (ys.map (·.1)).Nodup) : sameD xs ys = true ↔ xs.Perm ys := by
  refine ⟨fun h => ?_, same_perm ndy⟩
  unfold sameD at h
  rw [Bool.and_eq_true] at h
  exact sub_perm (nd_of ndx) (fun p hp => look_some (of_decide_eq_true (List.all_eq_true.mp h.2 p hp))) (beq_iff_eq.mp h.1)
theorem same_norm {xs ys : Ps} (ndx : (xs.map (·.1)).Nodup) (ndy : (ys.map (·.1)).Nodup) (nx : Nrm xs) (ny : Nrm ys) : sameD (normS xs) (normS ys) = sameD xs ys := by
  rw [Bool.eq_iff_iff, sameD_iff (normS_nd xs) (normS_nd ys), sameD_iff ndx ndy]
  exact ⟨fun p => (normS_perm ndx nx).symm.trans (p.trans (normS_perm ndy ny)), fun p => (normS_perm ndx nx).trans (p.trans (normS_perm ndy ny).symm)⟩
theorem same_symm {xs ys : Ps} (ndx : (xs.map (·.1)).Nodup) (ndy : (ys.map (·.1)).Nodup) : sameD xs ys = sameD ys xs := by
  rw [Bool.eq_iff_iff, sameD_iff ndx ndy, sameD_iff ndy ndx]
  exact ⟨fun p => p.symm, fun p => p.symm⟩
theorem canon1 (z : Str) : canon [z] = [z] := canon_self (by simp) (by simp)
section
variable {CL d pg pm pk t la : Addr} {H H' : Hp} {ms ks : List Str} {kvs : List (Key × V)} {ps : Ps}
theorem LangAt.put {p : Addr} {kvs : List (Key × V)} {o : HO} (h : LangAt CL H la ms ks) (hp : H p = some (.dK kvs)) : LangAt CL (upd H p o) la ms ks := by
  obtain ⟨dy, fs, pm, pk, h1, h2, h3, h4, h5, h6⟩ := h
  exact ⟨dy, fs, pm, pk, by rw [upd_ne (ne_of h1 hp (fun z => nomatch z))]; exact h1, h2, h3, by rw [upd_ne (ne_of h4 hp (fun z => nomatch z))]; exact h4, by rw [upd_ne (ne_of h5 hp (fun z => nomatch z))]; exact h5, h6⟩
theorem StoreAt.put {C a u p : Addr} {kvs : List (Key × V)} {o : HO} (h : StoreAt CL C H a la u ms ks ps) (hp : H p = some (.dK kvs)) (n : u ≠ p) : StoreAt CL C (upd H p o) a la u ms ks ps := by
  obtain ⟨dx, fs, jvs, h1, h2, h3, h4, h5, h6, h7⟩ := h
  exact ⟨dx, fs, jvs, by rw [upd_ne (ne_of h1 hp (fun z => nomatch z))]; exact h1, h2, h3, h4.put hp, by rw [upd_ne n]; exact h5, h6.kt (kt_dk hp), h7⟩
end
theorem StoreAt.t_dk {CL C : Addr} {H : Hp} {a la t : Addr} {ms ks : List Str} {ps : Ps} (h : StoreAt CL C H a la t ms ks ps) : ∃ kvs, H t = some (.dK kvs) := by
  obtain ⟨dx, fs, kvs, h1, h2, h3, h4, h5, h6, h7⟩ := h
  exact ⟨kvs, h5⟩
theorem StoreAt.ins {CL C : Addr} {H : Hp} {a la t : Addr} {ms ks : List Str} {ps : Ps} (h : StoreAt CL C H a la t ms ks ps) : ∃ dx fs, H a = some (.ins C dx fs) := by
  obtain ⟨dx, fs, kvs, h1, h2, h3, h4, h5, h6, h7⟩ := h
  exact ⟨dx, fs, h1⟩
theorem LangAt.ins {CL : Addr} {H : Hp} {a : Addr} {ms ks : List Str} (h : LangAt CL H a ms ks) : ∃ dx fs, H a = some (.ins CL dx fs) := by
  obtain ⟨dx, fs, pm, pk, h1, _⟩ := h
  exact ⟨dx, fs, h1⟩
/-- what != asks of a class -/
structure NeO (K : PySem.W.Frag) (C : Addr) : Prop where
  ne : PySem.W.findIn K (.ref C) "__ne__" = some (some (.builtin "object.__ne__"))
  mo : PySem.W.mroIn K C (.type "object") = some true
end Tf

/-! {**d, k: v} -/
namespace PySem
namespace TfD
section
variable {prog : Program} {w : World} {K : Type} [DecidableEq K] {knd : KeyKind prog w K} {A : Around} {E : Value → Shared → Prop} {s : Shared}
theorem put_pairs {d : Addr} {kvs : List (K × Value)} {k : K} {key v : Value} {Q : Unit → Shared → Prop} (hkey : knd.is k key = true) (hm : s.heap.DictOf knd d kvs)
    (hQ : ∀ h', h'.DictOf knd d (stored kvs k v) → Heap.SameBut d s.heap h' → Q () { s with heap := h' }) (hsz : kvs.length ≤ sizeLine) : wpAny (model prog w) A (dictPut d (knd.hash k) key v) Q E s := by
  obtain ⟨o, es, ep, ho, hc, hd, hk, hp, hn⟩ := hm
  have hes : es.size ≤ sizeLine := by
    have e1 := hp.length
    have e2 : es.toList.length = es.size := by simp
    omega
  unfold dictPut
  refine wpAny_bind (wpAny_dictFind_of hkey ho hd hk ?_)
  have hidx : (es.findIdx? fun e => knd.is k e.key) = kvs.findIdx? fun kv => decide (kv.1 = k) := by
    rw [← hp.findIdx k]
    obtain ⟨l⟩ := es
    simp
  cases hi : es.findIdx? fun e => knd.is k e.key with
  | some i =>
    refine wpAny_updateDict ho hd (hQ _ ⟨_, _, ep, Heap.get?_update_self _ ho (Obj.isFreed_of_dict (Obj.data_mapDict hd _)), hc.mapDict _, Obj.data_mapDict hd _, hk.modify _ _, ?_, ?_⟩ (Heap.SameBut.update ..))
    · rw [stored, if_pos (any_of_findIdx_some (hidx ▸ hi))]
      have hl : (es.toList.findIdx? fun e => knd.is k e.key) = some i := by
        rw [← hi]
        obtain ⟨l⟩ := es
        simp
      have z := hp.modify hn hl v
      obtain ⟨l⟩ := es
      simpa using z
    · rw [stored, if_pos (any_of_findIdx_some (hidx ▸ hi)), keys_map_store]
      exact hn
  | none =>
    have hnot : k ∉ kvs.map (·.1) := not_mem_of_findIdx_none (hidx ▸ hi)
    have hany : ¬ (kvs.any fun kv => decide (kv.1 = k)) = true := by
      rw [List.any_eq_true]
      rintro ⟨kv, hkv, he⟩
      exact hnot (List.mem_map.mpr ⟨kv, hkv, of_decide_eq_true he⟩)
    refine wpAny_updateDictKeys (hz := hes) ho hd (hQ _ ⟨_, _, ep + 1, Heap.get?_update_self _ ho (Obj.isFreed_of_dict (Obj.data_mapDictKeys hd _)), hc.mapDictKeys _, Obj.data_mapDictKeys hd _, hk.push hkey _, ?_, ?_⟩ (Heap.SameBut.update ..))
    · rw [stored, if_neg hany]
      have z := hp.append hkey (knd.hash k) v
      obtain ⟨l⟩ := es
      simpa using z
    · rw [stored, if_neg hany, List.map_append, List.nodup_append]
      refine ⟨hn, by simp, ?_⟩
      intro a ha b hb
      simp only [List.map_cons, List.map_nil, List.mem_singleton] at hb
      subst hb
      exact fun e => hnot (e ▸ ha)
theorem merge_map {d o : Addr} {kvs more : List (K × Value)} {Q : Unit → Shared → Prop} (hdo : d ≠ o) (hoS : (o == sysModules) = false) (hd : s.heap.DictOf knd d kvs) (ho : s.heap.DictOf knd o more) (hby : ∀ k v, knd.is k v = true → ∀ a, v ≠ .ref a)
    (hQ : ∀ h', h'.DictOf knd d (merged kvs more) → Heap.SameBut d s.heap h' → Q () { s with heap := h' }) (hsz : kvs.length + more.length ≤ sizeLine) : wpAny (model prog w) A (mergeMapping d (.ref o) false) Q E s := by
  obtain ⟨od, esd, epd, hod, hcd, hdd, hkd, hpd, hnd⟩ := id hd
  obtain ⟨oo, eso, epo, hoo, hco, hdo', hko, hpo, hno⟩ := id ho
  have hlen : more.length = eso.size := by rw [← hpo.length]; simp
  have tail : wpAny (model prog w) A (do
      let l ← dictEntries o
      let epoch ← dictEpoch o
      forIn (List.range l.size) PUnit.unit fun i (_ : PUnit) => (do
          let l' ← dictEntries o
          match l'[i]? with
            | some e => do
              holding [e.key, e.val] (dictPut d e.hash e.key e.val)
              let ep' ← dictEpoch o
              if (ep' != epoch) = true then do
                  (unsupported "dict.changed-during-merge" : Sem PUnit)
                  pure (ForInStep.yield PUnit.unit)
                else pure (ForInStep.yield PUnit.unit)
            | _ => do
              (unsupported "dict.changed-during-merge" : Sem PUnit)
              pure (ForInStep.yield PUnit.unit) : Sem (ForInStep PUnit))
      pure ()) Q E s := by
    refine wpAny_bind (wpAny_dictEntries hoo hdo' (wpAny_bind (wpAny_dictEpoch hoo hdo' (wpAny_bind ?_))))
    rw [List.range_eq_range']
    refine wpAny_forIn_list _
      (fun rest _ s' => ∃ h' i, s' = { s with heap := h' } ∧ rest = List.range' i (eso.size - i) ∧ i ≤ eso.size ∧ h'.DictOf knd d (merged kvs (more.take i)) ∧ h'.get? o = some oo ∧ Heap.SameBut d s.heap h')
      _ ?_ ?_ _ _ ⟨s.heap, 0, rfl, by simp, Nat.zero_le _, by simpa [merged] using hd, hoo, Heap.SameBut.refl _ _⟩
    · rintro x rest b s' ⟨h', i, rfl, hr, hi, hd', hoo', hs'⟩
      have hlt : i < eso.size := by
        rcases Nat.lt_or_ge i eso.size with h | h
        · exact h
        · rw [Nat.sub_eq_zero_of_le h] at hr
          simp at hr
      obtain ⟨rfl, hrest⟩ : x = i ∧ rest = List.range' (i + 1) (eso.size - (i + 1)) := by
        have e : eso.size - i = (eso.size - (i + 1)) + 1 := by omega
        rw [e, List.range'_succ] at hr
        injection hr with h1 h2
        exact ⟨h1, h2⟩
      refine wpAny_bind (wpAny_dictEntries hoo' hdo' ?_)
      rw [Array.getElem?_eq_getElem hlt]
      obtain ⟨kv, hkv⟩ : ∃ kv, more[x]? = some kv := ⟨more[x]'(by rw [hlen]; exact hlt), List.getElem?_eq_getElem _⟩
      obtain ⟨k, v⟩ := kv
      obtain ⟨hkey, hval⟩ := hpo.get? (e := eso[x]) (by simp [hlt]) hkv
      obtain ⟨k', hkey', hhash⟩ := hko eso[x] (Array.getElem_mem hlt)
      obtain rfl : k' = k := knd.inj _ _ _ hkey' hkey
      show wpAny _ _ (holding [eso[x].key, eso[x].val] (dictPut d eso[x].hash eso[x].key eso[x].val) >>= _) _ _ _
      rw [hhash, hval]
      have hmx : (merged kvs (more.take x)).length ≤ sizeLine := by
        have e1 := merged_length_le kvs (more.take x)
        have e2 : (more.take x).length ≤ more.length := by rw [List.length_take]; omega
        omega
      refine wpAny_bind (wpAny_holding (put_pairs (hsz := hmx) hkey hd' fun h'' hd'' hs'' => ?_))
      have hoo'' : h''.get? o = some oo := (hs''.2 o (Ne.symm hdo)).trans hoo'
      refine wpAny_bind (wpAny_dictEpoch hoo'' hdo' ?_)
      rw [if_neg (by simp)]
      exact wpAny_pure ⟨h'', x + 1, rfl, hrest, hlt, by rw [merged_take_succ kvs more x (k', v) hkv]; exact hd'', hoo'', hs'.trans hs''⟩
    · rintro b s' ⟨h', i, rfl, hr, hi, hd', hoo', hs'⟩
      have hin : i = eso.size := by
        rcases Nat.lt_or_ge i eso.size with h | h
        · have e : eso.size - i = (eso.size - (i + 1)) + 1 := by omega
          rw [e, List.range'_succ] at hr
          exact nomatch hr
        · exact Nat.le_antisymm hi h
      refine wpAny_pure (hQ h' ?_ hs')
      rw [hin, ← hlen, List.take_length] at hd'
      exact hd'
  unfold mergeMapping
  refine wpAny_bind (m := isInstance _ _) (wpAny_isInstance ho.typeIs isSubtype_dict_dict ?_)
  rw [if_pos rfl]
  refine wpAny_bind (wpAny_specialOf ho.typeIs F.slot_dict_iter.lookup ?_)
  have eb : (some (Value.builtin "dict.__iter__") == some (Value.builtin "dict.__iter__")) = true := by simp
  rw [eb]
  refine wpAny_bind (wpAny_pure ?_)
  dsimp only
  rw [if_neg (by rw [hoS]; exact Bool.false_ne_true)]
  refine wpAny_bind (wpAny_dictEntries hod hdd ?_)
  split
  · refine wpAny_bind (wpAny_dictEntries hoo hdo' (wpAny_bind ?_))
    rw [← Array.forIn_toList]
    refine wpAny_forIn_list _ (fun rest _ s' => s' = s ∧ ∀ e ∈ rest, ∀ a, e.key ≠ .ref a) _ ?_ ?_ _ _ ⟨rfl, fun e he a => ?_⟩
    · rintro x rest b s' ⟨rfl, hr⟩
      have hx := hr x List.mem_cons_self
      cases hk : x.key <;> first | exact absurd hk (hx _) | exact wpAny_pure ⟨rfl, fun e he => hr e (List.mem_cons_of_mem _ he)⟩
    · rintro b s' ⟨rfl, _⟩
      exact tail
    · obtain ⟨k, hk, _⟩ := hko e (Array.mem_toList_iff.mp he)
      exact hby k _ hk a
  · exact tail
end
end TfD
end PySem
namespace L2
open PySem PySem.Spec PyProof.Rows
/-- {**e, k: v}: the new dict, filled from e; then the pair, made beside -/
def tDStar (te tk tv : TE) : TE := fun σ H Q => ∀ d, H d = none → te σ (upd H d (.dK [])) fun m H1 => ∃ a kvs, m = .ref a ∧ H1 d = some (.dK []) ∧ Rd H1 a (.dK kvs) ∧ a ≠ d ∧ ∀ e, (upd H1 d (.dK kvs)) e = none → tk σ (upd (upd H1 d (.dK kvs)) e (.dK [])) fun y H2 => tv σ H2 fun v H3 =>
  ∃ k, y = kV k ∧ H3 e = some (.dK []) ∧ H3 d = some (.dK kvs) ∧ kvs.length < sizeLine ∧ Q (.ref d) (upd (upd H3 e (.dK [(k, v)])) d (.dK (putK kvs k v)))
theorem pe_dstar {X : Cx} {pos : Pos} {e k v : Expr} {te tk tv : TE} (he : PE X e te) (hk : PE X k tk) (hv : PE X v tv) : PE X (.Dict [none, some k] [e, v] pos) (tDStar te tk tv) := by
  refine ⟨fun pins s σ H Q I q => ?_⟩
  rw [arm_eval_Dict]
  show wpAny _ _ (standAt pos >>= fun _ => dictDisplay [(none, (do let x ← eval e X.env; standAt pos; pure x)), (some (eval k X.env), (do let x ← eval v X.env; standAt pos; pure x))]) _ _ _
  refine wpAny_bind (wpAny_standAt ?_)
  unfold dictDisplay
  simp only [List.forIn_cons, List.forIn_nil, List.isEmpty_nil, if_true, pure_bind]
  have hn := I.hok.fresh (Nat.le_refl s.heap.objs.size)
  have I1 := I.laid (a := s.heap.objs.size) (o := .dK []) (h' := s.heap.push { cls := .type "dict", data := .dict #[] }) (t' := s.toks) (fun _ _ q => Heap.get?_push_of_some _ q) (Nat.le_refl _) (dk_empty s.heap I.big)
  refine wpAny_bind (wpAny_bind (wpAny_bind (wpAny_alloc ?_)))
  refine wpAny_bind (wpAny_holding (wpAny_bind (thn (he.run pins _ σ _ _ I1 (q _ hn)) fun u s2 ⟨m, H2, I2, rm, a, kvs, em, ed, ea, nad, q2⟩ => wpAny_bind (wpAny_standAt (wpAny_pure ?_)))))
  subst em
  obtain rfl : u = Value.ref a := rm
  obtain ⟨zd, hds, vs0, r0, dd⟩ := dk_of I2.hok ed
  cases r0
  obtain ⟨za, has, va, ra, da⟩ := dk_rd I2.hok ea
  have hby : ∀ (k : Key) (v : Value), (mixKind X.prog X.w).is k v = true → ∀ a, v ≠ .ref a := fun k v h a z => by
    rcases keyIs_shape h with ⟨i, t, _, e1⟩ | ⟨x, t, _, e1⟩ <;> (rw [e1] at z; cases z)
  have nda : (va.map (·.1)).Nodup := by
    obtain ⟨_, _, _, _, _, _, _, _, z⟩ := da
    exact z
  refine wpAny_bind (wpAny_onRaise (wpAny_tryCatch (wpAny_onRaise (wpAny_holding (wpAny_mono (PySem.TfD.merge_map (E := fun _ _ => False) nad.symm has dd da hby (fun h' dd' hs => ?_) (by rw [List.length_nil, ← ra.length]; omega)) (fun _ _ z => z) fun _ _ z => False.elim z)))))
  rw [merged_nil_of_nodup va nda] at dd'
  have he2 : ∃ q, h'.get? s.heap.objs.size = some q := let ⟨q, _, _, hq, _⟩ := dd'; ⟨q, hq⟩
  have I3 := d_write (t' := s2.toks) I2 (by rw [ed]; exact True.intro) hs he2 (dk_new za hds ra dd')
  refine wpAny_pure ?_
  dsimp only
  rw [if_neg (by simp)]
  refine wpAny_bind (wpAny_pure (wpAny_pure ?_))
  dsimp only
  rw [if_neg (by simp)]
  have hn3 : (upd H2 s.heap.objs.size (.dK kvs)) h'.objs.size = none := I3.hok.fresh (Nat.le_refl _)
  have q3 := q2 _ hn3
  have I4 := I3.laid (a := h'.objs.size) (o := .dK []) (h' := h'.push { cls := .type "dict", data := .dict #[] }) (t' := s2.toks) (fun _ _ q => Heap.get?_push_of_some _ q) (Nat.le_refl _) (dk_empty h' I3.big)
  refine wpAny_bind (wpAny_bind (wpAny_holding (wpAny_subDict (knd := mixKind X.prog X.w) (by show 1 ≤ 15; decide) ?_)))
  have pp : PPs X pos [some k] [v] [(tk, tv)] := pps_cons hk hv pps_nil
  have q4 : tPairs [(tk, tv)] σ (upd (upd H2 s.heap.objs.size (.dK kvs)) h'.objs.size (.dK [])) (fun ps H3 => match ps with
    | [(y, v)] => ∃ k, y = kV k ∧ H3 h'.objs.size = some (.dK []) ∧ H3 s.heap.objs.size = some (.dK kvs) ∧ kvs.length < sizeLine ∧ Q (.ref s.heap.objs.size) (upd (upd H3 h'.objs.size (.dK [(k, v)])) s.heap.objs.size (.dK (putK kvs k v)))
    | _ => False) := q3
  show wpAny _ _ (evalPairs (pairTrees [some k] [v] X.env pos)) _ _ _
  refine thn (pp.run pins _ σ _ _ I4 q4) fun ws s5 ⟨ps, H5, I5, rel, q5⟩ => ?_
  match ps, rel, q5 with
  | [(y, vv)], rel, ⟨kk, ey, ee, edd, lkv, q6⟩ =>
    subst ey
    obtain ⟨rs, c, rk⟩ := carries_of (P := X.prog) (w := X.w) (kvs := [(kk, vv)]) rel
    obtain ⟨ze, hes, vs1, r1, de⟩ := dk_of I5.hok ee
    cases r1
    refine ⟨rs, c, de, fun h6 dd6 hs6 => ?_⟩
    have he6 : ∃ q, h6.get? h'.objs.size = some q := let ⟨q, _, _, hq, _⟩ := dd6; ⟨q, hq⟩
    have rk1 : KV [(kk, vv)] (merged [] rs) := rk.merge .nil
    have I6 := d_write (t' := s5.toks + ws.length) I5 (by rw [ee]; exact True.intro) hs6 he6 (dk_new (by show 1 ≤ sizeLine; decide) hes rk1 dd6)
    have nde : s.heap.objs.size ≠ h'.objs.size := by
      obtain ⟨o2, z⟩ := he2
      exact Nat.ne_of_lt (Heap.lt_size z)
    have ed6 : (upd H5 h'.objs.size (.dK [(kk, vv)])) s.heap.objs.size = some (.dK kvs) := by rw [upd_ne nde]; exact edd
    obtain ⟨z7, hd7, v7, r7, d7⟩ := dk_of I6.hok ed6
    have l1 : (merged [] rs).length = 1 := (Paired.length rk1).symm
    have l7 : kvs.length = v7.length := r7.length
    refine wpAny_bind (wpAny_onRaise (wpAny_holding (wpAny_mono (PySem.TfD.merge_map (s := { s5 with heap := h6, toks := s5.toks + ws.length }) (E := fun _ _ => False) nde hes d7 dd6 hby (fun h8 d8 hs8 => ?_) (by omega)) (fun _ _ z => z) fun _ _ z => False.elim z)))
    refine wpAny_pure (wpAny_pure ⟨.ref s.heap.objs.size, _, ?_, rfl, q6⟩)
    have he8 : ∃ q, h8.get? s.heap.objs.size = some q := let ⟨q, _, _, hq, _⟩ := d8; ⟨q, hq⟩
    have rk8 : KV (putK kvs kk vv) (merged v7 (merged [] rs)) := rk1.merge r7
    exact d_write I6 (by rw [ed6]; exact True.intro) hs8 he8 (dk_new (by have := length_putK kvs kk vv; omega) hd7 rk8 d8)
end L2

/-! stores changed: store_in, with_pair -/
namespace L2
open PySem PySem.Spec PyProof.Rows
/-- a dict comprehension over any walk -/
theorem dc_walk {J : It} {n : Nat} {G : Hp → Prop} {Y : Nat → Hp → V → Hp → Prop} (w : Walk J n G Y) {g : TG} {tt : TT} {tk tv : TE} {vs : List Nat} {σ : St} {H1 : Hp} {D : Addr} {Qd : Hp → Prop} (Pv : Nat → Hp → Prop) (h0 : Pv 0 (upd H1 D (.dK []))) (hG : ∀ i H, i ≤ n → Pv i H → G H)
    (hs : ∀ i x H H', i < n → Pv i H → Y i H x H' → g x (wipe σ vs) H' fun σ2 H2 => wipe σ2 vs = wipe σ vs ∧ tt σ2 H2 fun b H3 =>
      if b = true then tk σ2 H3 fun y H4 => tv σ2 H4 fun z H5 => ∃ kvs k, y = kV k ∧ H5 D = some (.dK kvs) ∧ kvs.length < sizeLine ∧ Pv (i + 1) (upd H5 D (.dK (putK kvs k z))) else Pv (i + 1) H3) (hd : ∀ H, Pv n H → Qd H) :
    ∃ W : Nat → Nat → Hp → Prop, (∃ m, W 0 m (upd H1 D (.dK []))) ∧ ∀ i m H, W i m H →
      (J.stop i H ∧ Qd H) ∨ (J.go i H ∧ ∃ Nx : Hp → Prop, (∀ H', Nx H' → ∃ m', m' < m ∧ W (i + 1) m' H') ∧ ∀ x H', J.yld i H x H' → g x (wipe σ vs) H' fun σ2 H2 => wipe σ2 vs = wipe σ vs ∧ tt σ2 H2 fun b H3 =>
        if b = true then tk σ2 H3 fun y H4 => tv σ2 H4 fun z H5 => ∃ kvs k, y = kV k ∧ H5 D = some (.dK kvs) ∧ kvs.length < sizeLine ∧ Nx (upd H5 D (.dK (putK kvs k z))) else Nx H3) := by
  refine ⟨fun i m H => m = n - i ∧ i ≤ n ∧ Pv i H, ⟨n, by simp, Nat.zero_le _, h0⟩, ?_⟩
  rintro i m H ⟨rfl, hi, p⟩
  have q := hG i H hi p
  by_cases hlt : i < n
  · exact .inr ⟨w.goes i H hlt q, Pv (i + 1), fun H' p' => ⟨n - (i + 1), by omega, rfl, hlt, p'⟩, fun x H' y => hs i x H H' hlt p (w.yields i H x H' hlt q y)⟩
  · have e : i = n := by omega
    subst e
    exact .inl ⟨w.stops H q, hd H p⟩
end L2
namespace Tf
open PySem PySem.Spec PyProof.Rows L2 PySem.W
abbrev sSi : Stmt := top 27
abbrev sWp : Stmt := inClass sStore 8
abbrev nSi : List Str := ["language", "things", "thing"]
theorem scSi : FnScope nSi ["language", "things"] (defScope sSi) := ⟨rfl, rfl, rfl, by decide +kernel, rfl, by decide +kernel, by decide +kernel⟩
theorem scWp : FnScope ["self", "thing", "marks", "links", "pair"] ["self", "thing", "marks", "links"] (defScope sWp) := ⟨rfl, rfl, rfl, by decide +kernel, rfl, by decide +kernel, by decide +kernel⟩
/-- the things ascending -/
def sortS (ps : Ps) : Ps := (canon (ps.map (·.1))).map fun z => (z, getP ps z)
theorem sortS_names (ps : Ps) : (sortS ps).map (·.1) = canon (ps.map (·.1)) := by
  unfold sortS
  rw [List.map_map]
  exact List.map_id' _
theorem sortS_perm {ps : Ps} (nd : (ps.map (·.1)).Nodup) : (sortS ps).Perm ps := by
  have h := (canon_nd nd).map fun z => (z, getP ps z)
  rw [get_self nd] at h
  exact h
/-- in its place, or at the end -/
def setP (ps : Ps) (z : Str) (x : Pr) : Ps := if z ∈ ps.map (·.1) then putP ps z x else ps ++ [(z, x)]
theorem setP_nd {ps : Ps} {z : Str} {x : Pr} (nd : (ps.map (·.1)).Nodup) : ((setP ps z x).map (·.1)).Nodup := by
  unfold setP
  by_cases h : z ∈ ps.map (·.1)
  · rw [if_pos h, putP_names]
    exact nd
  · rw [if_neg h, List.map_append, List.nodup_append]
    refine ⟨nd, by simp, fun a ha b hb e => ?_⟩
    have hb' : b = z := by simpa using hb
    exact h (by rw [← hb', ← e]; exact ha)
theorem setP_len (ps : Ps) (z : Str) (x : Pr) : (setP ps z x).length ≤ ps.length + 1 := by
  unfold setP
  split
  · unfold putP
    rw [List.length_map]
    exact Nat.le_succ _
  · rw [List.length_append]
    exact Nat.le_refl _
theorem PsR.set {H : Hp} {kvs : List (Key × V)} {ps : Ps} {z : Str} {x : Pr} {v : V} (h : PsR H kvs ps) (tv : Tt H v x) : PsR H (putK kvs (Sum.inr z) v) (setP ps z x) := by
  unfold setP
  by_cases m : z ∈ ps.map (·.1)
  · rw [if_pos m]
    exact h.put m tv
  · rw [if_neg m, putK_new _ (h.miss m)]
    exact PsR.append h (.cons ⟨rfl, tv⟩ .nil)
def spSi (CL CM : Addr) : Sp := fun vs H Q _ => ∃ (la t : Addr) (ms ks : List Str) (kvs : List (Key × V)) (ps : Ps), vs = [.ref la, .ref t] ∧ LangAt CL H la ms ks ∧ H t = some (.dK kvs) ∧ PsR H kvs ps ∧ (ps.map (·.1)).Nodup ∧ ps.length ≤ 62 ∧
  ∀ (x t' : Addr) (H' : Hp), Same H H' → H x = none → H t' = none → StoreAt CL CM H' x la t' ms ks (sortS ps) → Q (.ref x) H'
def spWp (CL C CM : Addr) : Sp := fun vs H Q _ => ∃ (a la t pm : Addr) (v : V) (ms ks zs : List Str) (ls : List (Str × Str)) (ps : Ps) (z : Str), vs = [.ref a, .str z, .ref pm, v] ∧ StoreAt CL C H a la t ms ks ps ∧ H pm = some (.tup (zs.map V.str)) ∧ Tt H v (Tup.mk ls) ∧ zs.length ≤ 60 ∧ ls.length ≤ 60 ∧ (ps.map (·.1)).Nodup ∧ ps.length ≤ 61 ∧
  ∀ (x t' : Addr) (H' : Hp), Same H H' → H x = none → H t' = none → StoreAt CL CM H' x la t' ms ks (sortS (setP ps z (⟨canon zs⟩, ⟨setO ls⟩))) → Q (.ref x) H'
section
variable {P : Program} {w : World} {K : PySem.W.Frag} {mg : Str → Option Value} {base : Heap}
theorem ok_si {f fN CL CM : Addr} {fd fdN : FuncData} {k : Nat} {t4 : Tok} (F : Fun K "store_in" "store_in" sSi f fd) (M : Mk K CM fN) (GI : FnOk P w K mg base CX0 k fN fdN ["self", "language", "things"] (spMin CM)) (bI : Binds K fdN ["self", "language", "things"] []) (gM : mg "MadeStore" = some (.ref CM))
    (mN : mg "len" = none) (mS : mg "sorted" = none) (mL : mg "list" = none) (g4 : mg "MAX_THINGS" = some (.int 400 t4)) : FnOk P w K mg base CX0 (k + 2) f fd ["language", "things"] (spSi CL CM) := by
  refine F.ok scSi (fun vs H Q E h => ?_) (fun cdv A outer s H vs Q E hr h => ?_)
  · obtain ⟨la, t, ms, ks, kvs, ps, rfl, _⟩ := h
    rfl
  · obtain ⟨la, t, ms, ks, kvs, ps, rfl, hL, ht, hps, nd, lps, q⟩ := h
    have hu : (A.deeper (envOfC "store_in" (defScope sSi) s.heap.objs.size f cdv)).units + 1 < cLine := by have := hr.un; omega
    refine ⟨_, pss_cons (ps_if (pt_cmpR op_gt (pe_callB call_lenD (by rfl) mN PySem.boot_len (pa_cons (pv 1) pa_nil)) (pe_glob (v := .int 400) rfl g4 ⟨_, rfl⟩) (nomark _)) (pss_one ps_off) pss_nil)
      (pss_one (ps_ret (pe_make M GI hr (by rfl) gM bI .nil pass0 (pa_cons (pv 0) (pa_cons (pe_dc (own := [("thing", 2)]) (g := gName 2) (tt := tYes) (tk := tVar 2) (tv := tDGet (tVar 1) (tVar 2)) (by rfl) scSi.nd (pi_list (pe_callB cr_sortedS (by rfl) mS (by decide +kernel) (pa_cons (pe_callTy (call_list_dK rfl) (by rfl) mL (by decide +kernel) (pa_cons (pv 1) pa_nil)) pa_nil))) (blkOk_by (own := [("thing", 2)]) (N := nSi) (sc := defScope sSi) (by decide +kernel)) (fun _ _ _ _ _ => pg_name (i := 2) scSi.nd rfl (Or.inl rfl)) (fun _ _ _ _ _ => pts_nil) (fun _ _ _ _ _ => pv 2) (fun _ _ _ _ _ => pe_dget hu (pv 1) (pv 2) (fun _ _ => rfl))) pa_nil))))), ?_⟩
    have lk : kvs.length = ps.length := Paired.length hps
    refine ⟨.ref t, rfl, t, kvs, rfl, ht, _, 400, rfl, rfl, _, rfl, ?_⟩
    rw [decide_eq_false (show ¬ (kvs.length : Int) > 400 by omega)]
    refine iteF ?_
    refine ⟨.ref la, rfl, .ref t, rfl, t, kvs, rfl, ht, fun p1 n1 => ?_⟩
    rw [ps_keys hps]
    have e1 : (upd H p1 (.lst ((ps.map (·.1)).map V.str))) p1 = some (.lst ((ps.map (·.1)).map V.str)) := upd_same
    have s1 : Same H (upd H p1 (.lst ((ps.map (·.1)).map V.str))) := same_new n1
    generalize upd H p1 (.lst ((ps.map (·.1)).map V.str)) = H1 at *
    refine ⟨p1, ps.map (·.1), rfl, lst_of e1, by rw [List.length_map]; omega, fun ys p2 pm so n2 => ?_⟩
    have ey := sorted_canon nd pm so
    subst ey
    have e2 : (upd H1 p2 (.lst ((canon (ps.map (·.1))).map V.str))) p2 = some (.lst ((canon (ps.map (·.1))).map V.str)) := upd_same
    have s2 : Same H1 (upd H1 p2 (.lst ((canon (ps.map (·.1))).map V.str))) := same_new n2
    generalize upd H1 p2 (.lst ((canon (ps.map (·.1))).map V.str)) = H2 at *
    have S2 := s1.trans s2
    have cl := canon_len (ps.map (·.1))
    rw [List.length_map] at cl
    refine ⟨p2, rfl, ⟨_, lst_of e2⟩, fun D nD => dc_walk (walk_list (xs := (canon (ps.map (·.1))).map V.str)) (fun i G => Same H2 G ∧ ∃ ks', G D = some (.dK ks') ∧ PsR G ks' (((canon (ps.map (·.1))).take i).map fun z => (z, getP ps z))) ⟨same_new nD, [], upd_same, .nil⟩ (fun i G _ p => lst_of (p.1 _ _ e2)) (fun i x G G' hi p y => ?_) fun G p => ?_⟩
    · obtain ⟨sG, ks', eD, pr⟩ := p
      obtain ⟨rfl, ex⟩ := y
      rw [List.length_map] at hi
      rw [List.getElem?_map, List.getElem?_eq_getElem hi] at ex
      have ex' : V.str (canon (ps.map (·.1)))[i] = x := Option.some.inj ex
      subst ex'
      generalize hz : (canon (ps.map (·.1)))[i] = z at *
      have mz : z ∈ ps.map (·.1) := mem_canon.mp (by rw [← hz]; exact List.getElem_mem hi)
      obtain ⟨v, hv, tv, mv⟩ := hps.get nd mz
      have SG := S2.trans sG
      have tkn : (canon (ps.map (·.1))).take (i + 1) = (canon (ps.map (·.1))).take i ++ [z] := by rw [List.take_add_one, List.getElem?_eq_getElem hi, hz]; rfl
      refine ⟨by simp [wipe], ?_⟩
      unfold tYes
      simp only [↓reduceIte]
      have lr := Paired.length pr
      rw [List.length_map, List.length_take] at lr
      refine ⟨.str z, rfl, .ref t, rfl, .str z, rfl, t, v, rfl, .inl ⟨kvs, Sum.inr z, .inl (SG _ _ ht), rfl, by rw [hv]⟩, ks', Sum.inr z, rfl, eD, small1000 (by omega), sG.mut nD, _, upd_same, ?_⟩
      have miss : valV ks' (Sum.inr z) = none := pr.miss (by
        rw [List.map_map]
        intro hm'
        have hm2 : z ∈ (canon (ps.map (·.1))).take i := by
          have e := List.map_id' ((canon (ps.map (·.1))).take i)
          rw [← e]
          exact hm'
        obtain ⟨j, hj, e⟩ := List.getElem_of_mem hm2
        rw [List.getElem_take, ← hz] at e
        rw [List.length_take] at hj
        have e2 := (List.getElem_inj (nodup_canon _)).mp e
        omega)
      rw [putK_new _ miss, tkn, List.map_append]
      have kt : Kt G' (upd G' D (.dK (ks' ++ [(Sum.inr z, v)]))) := kt_dk eD
      exact PsR.append (pr.kt kt) (.cons ⟨rfl, (tv.kq SG.kq).kt kt⟩ .nil)
    obtain ⟨sG, ks', eD, pr⟩ := p
    rw [List.length_map, List.take_length] at pr
    have SG := S2.trans sG
    intro x dx nx nd' ne
    refine ⟨G, x, dx, la, D, rfl, rfl, nx, nd', ne, fun H3 fs s3 ex l1 l2 l3 => ⟨rfl, ?_⟩⟩
    exact q x D H3 (SG.trans s3) (SG.free nx) (S2.free nD) ⟨dx, fs, ks', ex, l1, l2, (hL.kq SG.kq).kq s3.kq, s3 _ _ eD, pr.kq s3.kq, l3⟩
theorem ok_wp {f CL C CM : Addr} {fd : FuncData} {k : Nat} (F : Fun K "with_pair" "Store.with_pair" sWp f fd) (L : SCls K C) (GS : CdN P w K mg base k "different_items" ["items"] spDiS) (GL : CdN P w K mg base k "different_items" ["items"] spDiP) (GI : CdN P w K mg base k "store_in" ["language", "things"] (spSi CL CM)) : FnOk P w K mg base CX0 (k + 1) f fd ["self", "thing", "marks", "links"] (spWp CL C CM) := by
  refine F.ok scWp (fun vs H Q E h => ?_) (fun cdv A outer s H vs Q E hr h => ?_)
  · obtain ⟨a, la, t, pm, v, ms, ks, zs, ls, ps, z, rfl, _⟩ := h
    rfl
  · obtain ⟨a, la, t, pm, v, ms, ks, zs, ls, ps, z, rfl, st, hm, tv, lz, ll, nd, lp, q⟩ := h
    refine ⟨_, pss_cons (ps_set (i := 4) scWp.nd rfl (.inl rfl) (pe_tup (pa_cons (pe_cdn GS hr (pa_cons (pv 2) pa_nil)) (pa_cons (pe_cdn GL hr (pa_cons (pv 3) pa_nil)) pa_nil))))
      (pss_one (ps_ret (pe_cdn GI hr (pa_cons (pe_fld (pv 0) (by rfl)) (pa_cons (pe_dstar (pe_fld (pv 0) (by rfl)) (pv 1) (pv 4)) pa_nil))))), ?_⟩
    refine ⟨.ref pm, rfl, pm, zs, rfl, hm, lz, fun p1 H1 s1 n1 e1 => ?_⟩
    refine ⟨v, rfl, v, ls, rfl, tv.kq s1.kq, ll, fun p2 H2 s2 n2 e2 => ?_⟩
    refine ⟨by show 2 ≤ sizeLine; decide, fun p3 n3 => ?_⟩
    have e3 : (upd H2 p3 (.tup [.ref p1, .ref p2])) p3 = some (.tup [.ref p1, .ref p2]) := upd_same
    have s3 : Same H2 (upd H2 p3 (.tup [.ref p1, .ref p2])) := same_new n3
    generalize upd H2 p3 (.tup [.ref p1, .ref p2]) = H3 at *
    have S3 : Same H H3 := s1.trans (s2.trans s3)
    have st3 := st.same S3
    obtain ⟨dx, fs, kvs, h1, h2, h3, h4, h5, h6, h7⟩ := st3
    have tp : Tt H3 (.ref p3) ((⟨canon zs⟩, ⟨setO ls⟩) : Pr) := tt_pair e3 (tt_tup (s3 _ _ (s2 _ _ e1)) (tts_strs _)) (e2.kq s3.kq)
    refine ⟨.ref a, rfl, a, C, dx, fs, .ref la, rfl, h1, L.cl, L.nl, h2, ?_⟩
    intro d nD
    have s4 : Same H3 (upd H3 d (.dK [])) := same_new nD
    have ntd : t ≠ d := ne_of_none h5 nD
    refine ⟨.ref a, rfl, a, C, dx, fs, .ref t, rfl, s4 _ _ h1, L.cl, L.nt, h3, t, kvs, rfl, upd_same, .inl (s4 _ _ h5), ntd, fun e ne => ?_⟩
    have s5 : Same H3 (upd (upd H3 d (.dK [])) d (.dK kvs)) := s4.mut nD
    have ned : e ≠ d := fun z' => by rw [z', upd_same] at ne; cases ne
    have neH : H3 e = none := s5.free ne
    have lk : kvs.length = ps.length := Paired.length h6
    refine ⟨.str z, rfl, .ref p3, rfl, Sum.inr z, rfl, upd_same, by rw [upd_ne ned.symm]; exact upd_same, small1000 (by omega), ?_⟩
    generalize hH : upd (upd (upd (upd (upd H3 d (.dK [])) d (.dK kvs)) e (.dK [])) e (.dK [(Sum.inr z, .ref p3)])) d (.dK (putK kvs (Sum.inr z) (.ref p3))) = H6
    have S6 : Same H3 H6 := by
      rw [← hH]
      exact ((((s5.new ne).mut neH)).mut nD)
    have eD : H6 d = some (.dK (putK kvs (Sum.inr z) (.ref p3))) := by rw [← hH]; exact upd_same
    refine ⟨la, d, ms, ks, _, setP ps z (⟨canon zs⟩, ⟨setO ls⟩), rfl, h4.kq S6.kq, eD, (h6.kq S6.kq).set (tp.kq S6.kq), setP_nd nd, by have := setP_len ps z (⟨canon zs⟩, ⟨setO ls⟩); omega, fun x t' H7 s7 nx nt' st7 => ?_⟩
    have S7 := S3.trans S6
    exact q x t' H7 (S7.trans s7) (S7.free nx) (S7.free nt') st7
end
end Tf

/-! stores changed: links -/
namespace Tf
open PySem PySem.Spec PyProof.Rows L2 PySem.W
abbrev sRlk : Stmt := inClass sStore 11
abbrev sWl : Stmt := inClass sStore 12
abbrev sWol : Stmt := inClass sStore 13
theorem scRlk : FnScope ["self", "thing", "kind", "end"] ["self", "thing", "kind", "end"] (defScope sRlk) := ⟨rfl, rfl, rfl, by decide +kernel, rfl, by decide +kernel, by decide +kernel⟩
theorem scWl : FnScope ["self", "thing", "kind", "end", "marks", "links"] ["self", "thing", "kind", "end"] (defScope sWl) := ⟨rfl, rfl, rfl, by decide +kernel, rfl, by decide +kernel, by decide +kernel⟩
abbrev nWol : List Str := ["self", "thing", "kind", "end", "marks", "links", "link"]
theorem scWol : FnScope nWol ["self", "thing", "kind", "end"] (defScope sWol) := ⟨rfl, rfl, rfl, by decide +kernel, rfl, by decide +kernel, by decide +kernel⟩
def spRlk (CL C : Addr) : Sp := fun vs H Q _ => ∃ (a la t : Addr) (ms ks : List Str) (ps : Ps) (z y x : Str), vs = [.ref a, .str z, .str y, .str x] ∧ StoreAt CL C H a la t ms ks ps ∧ z ∈ ps.map (·.1) ∧ y ∈ ks ∧ x ∈ ps.map (·.1) ∧ Q .non H
def linkP (p : Pr) (e : Str × Str) : Pr := (⟨canon p.1.items⟩, ⟨setO (p.2.items ++ [e])⟩)
def unlinkP (p : Pr) (e : Str × Str) : Pr := (⟨canon p.1.items⟩, ⟨setO (p.2.items.filter fun l => !decide (l = e))⟩)
def spWl (CL C CM : Addr) : Sp := fun vs H Q _ => ∃ (a la t : Addr) (ms ks : List Str) (ps : Ps) (z y x : Str), vs = [.ref a, .str z, .str y, .str x] ∧ StoreAt CL C H a la t ms ks ps ∧ z ∈ ps.map (·.1) ∧ y ∈ ks ∧ x ∈ ps.map (·.1) ∧ (ps.map (·.1)).Nodup ∧ ps.length ≤ 61 ∧ (getP ps z).1.items.length ≤ 60 ∧ (getP ps z).2.items.length ≤ 59 ∧
  ∀ (b t' : Addr) (H' : Hp), Same H H' → H b = none → H t' = none → StoreAt CL CM H' b la t' ms ks (sortS (setP ps z (linkP (getP ps z) (y, x)))) → Q (.ref b) H'
def spWol (CL C CM : Addr) : Sp := fun vs H Q _ => ∃ (a la t : Addr) (ms ks : List Str) (ps : Ps) (z y x : Str), vs = [.ref a, .str z, .str y, .str x] ∧ StoreAt CL C H a la t ms ks ps ∧ z ∈ ps.map (·.1) ∧ y ∈ ks ∧ x ∈ ps.map (·.1) ∧ (ps.map (·.1)).Nodup ∧ ps.length ≤ 61 ∧ (getP ps z).1.items.length ≤ 60 ∧ (getP ps z).2.items.length ≤ 60 ∧ (y, x) ∈ (getP ps z).2.items ∧
  ∀ (b t' : Addr) (H' : Hp), Same H H' → H b = none → H t' = none → StoreAt CL CM H' b la t' ms ks (sortS (setP ps z (unlinkP (getP ps z) (y, x)))) → Q (.ref b) H'
section
variable {P : Program} {w : World} {K : PySem.W.Frag} {mg : Str → Option Value} {base : Heap}
theorem ok_rlk {f CL C : Addr} {fd : FuncData} {k : Nat} (F : Fun K "require_link" "Store.require_link" sRlk f fd) (L : SCls K C) (GT : CdN P w K mg base k "require_thing" ["store", "thing"] (spRt CL C)) (GK : CdN P w K mg base k "require_kind" ["language", "kind"] (spRk CL)) : FnOk P w K mg base CX0 (k + 1) f fd ["self", "thing", "kind", "end"] (spRlk CL C) := by
  refine F.ok scRlk (fun vs H Q E h => ?_) (fun cdv A outer s H vs Q E hr h => ?_)
  · obtain ⟨a, la, t, ms, ks, ps, z, y, x, rfl, _⟩ := h
    rfl
  · obtain ⟨a, la, t, ms, ks, ps, z, y, x, rfl, st, mz, my, mx, q⟩ := h
    refine ⟨_, pss_cons (ps_expr (pe_cdn GT hr (pa_cons (pv 0) (pa_cons (pv 1) pa_nil)))) (pss_cons (ps_expr (pe_cdn GK hr (pa_cons (pe_fld (pv 0) (by rfl)) (pa_cons (pv 2) pa_nil)))) (pss_one (ps_expr (pe_cdn GT hr (pa_cons (pv 0) (pa_cons (pv 3) pa_nil)))))), ?_⟩
    have st' := st
    obtain ⟨dx, fs, kvs, h1, h2, h3, h4, h5, h6, h7⟩ := st'
    exact ⟨.ref a, rfl, .str z, rfl, a, la, t, ms, ks, ps, z, rfl, st, mz, .ref a, rfl, a, C, dx, fs, .ref la, rfl, h1, L.cl, L.nl, h2, .str y, rfl, la, ms, ks, y, rfl, h4, my, .ref a, rfl, .str x, rfl, a, la, t, ms, ks, ps, x, rfl, st, mx, q⟩
theorem ok_wl {f CL C CM : Addr} {fd : FuncData} {k : Nat} (F : Fun K "with_link" "Store.with_link" sWl f fd) (L : SCls K C) (GR : MtN P w K mg base k C "require_link" ["self", "thing", "kind", "end"] (spRlk CL C)) (GW : MtN P w K mg base k C "with_pair" ["self", "thing", "marks", "links"] (spWp CL C CM)) : FnOk P w K mg base CX0 (k + 1) f fd ["self", "thing", "kind", "end"] (spWl CL C CM) := by
  refine F.ok scWl (fun vs H Q E h => ?_) (fun cdv A outer s H vs Q E hr h => ?_)
  · obtain ⟨a, la, t, ms, ks, ps, z, y, x, rfl, _⟩ := h
    rfl
  · obtain ⟨a, la, t, ms, ks, ps, z, y, x, rfl, st, mz, my, mx, nd, lp, l1, l2, q⟩ := h
    have hu : (A.deeper (envOfC "Store.with_link" (defScope sWl) s.heap.objs.size f cdv)).units + 1 < cLine := by have := hr.un; omega
    refine ⟨_, pss_cons (ps_expr (pe_mtn L.cl GR hr (pv 0) (pa_cons (pv 1) (pa_cons (pv 2) (pa_cons (pv 3) pa_nil)))))
      (pss_cons (ps_asg (pe_dget hu (pe_fld (pv 0) (by rfl)) (pv 1) (fun _ _ => rfl)) (pg_tup (by rfl) (pgs_cons (pg_name (i := 4) scWl.nd rfl (.inl rfl)) (pgs_cons (pg_name (i := 5) scWl.nd rfl (.inl rfl)) pgs_nil))))
      (pss_one (ps_ret (pe_mtn L.cl GW hr (pv 0) (pa_cons (pv 1) (pa_cons (pv 4) (pa_cons (pe_tup (StX.pa_star (pv 5) (pa_cons (pe_tup (pa_cons (pv 2) (pa_cons (pv 3) pa_nil))) pa_nil))) pa_nil))))))), ?_⟩
    have st' := st
    obtain ⟨dx, fs, kvs, h1, h2, h3, h4, h5, h6, h7⟩ := st'
    obtain ⟨v, hv, tv, mv⟩ := h6.get nd mz
    obtain ⟨b, u1, u2, rfl, hb, t1, t2⟩ := tv.pair
    obtain ⟨am, vm, rfl, ham, tm⟩ := t1.tup
    obtain ⟨al, vl, rfl, hal, tl⟩ := t2.tup
    have em := Tts.strs tm
    subst em
    refine ⟨.ref a, rfl, a, dx, fs, rfl, h1, look_none h7 (by decide +kernel), .str z, rfl, .str y, rfl, .str x, rfl, a, la, t, ms, ks, ps, z, y, x, rfl, st, mz, my, mx, ?_⟩
    refine ⟨.ref a, rfl, a, C, dx, fs, .ref t, rfl, h1, L.cl, L.nt, h3, .str z, rfl, t, .ref b, rfl, .inl ⟨kvs, Sum.inr z, .inl h5, rfl, by rw [hv]⟩, b, _, rfl, tup_of hb, rfl, _, _, rfl, _, _, rfl, rfl, ?_⟩
    have ll := Tts.length tl
    refine ⟨.ref a, rfl, a, dx, fs, rfl, h1, look_none h7 (by decide +kernel), .str z, rfl, .ref am, rfl, .ref al, rfl, al, _, rfl, .inl (tup_of hal), .str y, rfl, .str x, rfl, by show 2 ≤ sizeLine; decide, fun e1 n1 => ?_⟩
    have f1 : (upd H e1 (.tup [.str y, .str x])) e1 = some (.tup [.str y, .str x]) := upd_same
    have s1 : Same H (upd H e1 (.tup [.str y, .str x])) := same_new n1
    generalize upd H e1 (.tup [.str y, .str x]) = H1 at *
    refine ⟨?_, fun e2 n2 => ?_⟩
    · rw [List.length_append]
      exact small1k (by show vl.length + 1 ≤ 1000; omega)
    have f2 : (upd H1 e2 (.tup (vl ++ [.ref e1]))) e2 = some (.tup (vl ++ [.ref e1])) := upd_same
    have s2 : Same H1 (upd H1 e2 (.tup (vl ++ [.ref e1]))) := same_new n2
    generalize upd H1 e2 (.tup (vl ++ [.ref e1])) = H2 at *
    have S2 := s1.trans s2
    have tl2 : Tt H2 (.ref e2) (Tup.mk ((getP ps z).2.items ++ [(y, x)])) := tt_tup f2 (Tts.append (Tts.kq tl S2.kq) (.cons (tt_pair (s2 _ _ f1) tt_str tt_str) .nil))
    refine ⟨a, la, t, am, .ref e2, ms, ks, (getP ps z).1.items, (getP ps z).2.items ++ [(y, x)], ps, z, rfl, st.same S2, S2 _ _ ham, tl2, l1, by rw [List.length_append, List.length_singleton]; omega, nd, lp, fun b' t' H3 s3 nb nt st3 => ?_⟩
    exact q b' t' H3 (S2.trans s3) (S2.free nb) (S2.free nt) st3
theorem ok_wol {f CL C CM : Addr} {fd : FuncData} {k : Nat} (F : Fun K "without_link" "Store.without_link" sWol f fd) (L : SCls K C) (GR : MtN P w K mg base k C "require_link" ["self", "thing", "kind", "end"] (spRlk CL C)) (GW : MtN P w K mg base k C "with_pair" ["self", "thing", "marks", "links"] (spWp CL C CM)) (mT : mg "tuple" = none) : FnOk P w K mg base CX0 (k + 1) f fd ["self", "thing", "kind", "end"] (spWol CL C CM) := by
  refine F.ok scWol (fun vs H Q E h => ?_) (fun cdv A outer s H vs Q E hr h => ?_)
  · obtain ⟨a, la, t, ms, ks, ps, z, y, x, rfl, _⟩ := h
    rfl
  · obtain ⟨a, la, t, ms, ks, ps, z, y, x, rfl, st, mz, my, mx, nd, lp, l1, l2, me, q⟩ := h
    have hu64 : (A.deeper (envOfC "Store.without_link" (defScope sWol) s.heap.objs.size f cdv)).units + 64 < cLine := by have := hr.un; omega
    have hu : (A.deeper (envOfC "Store.without_link" (defScope sWol) s.heap.objs.size f cdv)).units + 1 < cLine := by omega
    refine ⟨_, pss_cons (ps_expr (pe_mtn L.cl GR hr (pv 0) (pa_cons (pv 1) (pa_cons (pv 2) (pa_cons (pv 3) pa_nil)))))
      (pss_cons (ps_asg (pe_dget hu (pe_fld (pv 0) (by rfl)) (pv 1) (fun _ _ => rfl)) (pg_tup (by rfl) (pgs_cons (pg_name (i := 4) scWol.nd rfl (.inl rfl)) (pgs_cons (pg_name (i := 5) scWol.nd rfl (.inl rfl)) pgs_nil))))
      (pss_cons (ps_if (pt_cmpR (op_notInP hu64) (pe_tup (pa_cons (pv 2) (pa_cons (pv 3) pa_nil))) (pv 5) (by rfl)) (pss_one ps_off) pss_nil)
      (pss_one (ps_ret (pe_mtn L.cl GW hr (pv 0) (pa_cons (pv 1) (pa_cons (pv 4) (pa_cons (pe_callTy call_tuple_of (by rfl) mT (by decide +kernel) (pa_cons
        (pe_lc (own := [("link", 6)]) (g := gName 6) (tt := tTest (tOp (rEqP K true) (tVar 6) (tTup (tCons (tVar 2) (tCons (tVar 3) tNil))))) (te := tVar 6) (by rfl) scWol.nd (pi_tup (pv 5)) (blkOk_by (own := [("link", 6)]) (N := nWol) (sc := defScope sWol) (by decide +kernel)) (fun _ _ _ _ _ => pg_name (i := 6) scWol.nd rfl (Or.inl rfl)) (fun _ _ _ _ _ => pts_one (pt_cmpR (op_neP hu64) (pv 6) (pe_tup (pa_cons (pv 2) (pa_cons (pv 3) pa_nil))) (nomark _))) (fun _ _ _ _ _ => pv 6)) pa_nil)) pa_nil)))))))), ?_⟩
    have st' := st
    obtain ⟨dx, fs, kvs, h1, h2, h3, h4, h5, h6, h7⟩ := st'
    obtain ⟨v, hv, tv, mv⟩ := h6.get nd mz
    obtain ⟨b, u1, u2, rfl, hb, t1, t2⟩ := tv.pair
    obtain ⟨am, vm, rfl, ham, tm⟩ := t1.tup
    obtain ⟨al, vl, rfl, hal, tl⟩ := t2.tup
    have em := Tts.strs tm
    subst em
    obtain ⟨zl, rfl, el, tz⟩ := Tts.refs tl
    have lz : zl.length ≤ 60 := by
      rw [el, List.length_map] at l2
      exact l2
    refine ⟨.ref a, rfl, a, dx, fs, rfl, h1, look_none h7 (by decide +kernel), .str z, rfl, .str y, rfl, .str x, rfl, a, la, t, ms, ks, ps, z, y, x, rfl, st, mz, my, mx, ?_⟩
    refine ⟨.ref a, rfl, a, C, dx, fs, .ref t, rfl, h1, L.cl, L.nt, h3, .str z, rfl, t, .ref b, rfl, .inl ⟨kvs, Sum.inr z, .inl h5, rfl, by rw [hv]⟩, b, _, rfl, tup_of hb, rfl, _, _, rfl, _, _, rfl, rfl, ?_⟩
    refine ⟨.str y, rfl, .str x, rfl, by show 2 ≤ sizeLine; decide, fun e1 n1 => ?_⟩
    have f1 : (upd H e1 (.tup [.str y, .str x])) e1 = some (.tup [.str y, .str x]) := upd_same
    have s1 : Same H (upd H e1 (.tup [.str y, .str x])) := same_new n1
    generalize upd H e1 (.tup [.str y, .str x]) = H1 at *
    refine ⟨.ref al, rfl, notIn_t (a := (y, x)) (xs := (getP ps z).2.items) (tt_pair f1 tt_str tt_str).dt (.inr (t2.kq s1.kq).dt) ⟨false, by simp [me], iteF ?_⟩⟩
    have hal1 := s1 _ _ hal
    refine ⟨.ref a, rfl, a, dx, fs, rfl, s1 _ _ h1, look_none h7 (by decide +kernel), .str z, rfl, .ref am, rfl, .ref al, rfl, al, rfl, ⟨_, tup_of hal1⟩, fun D nD => ?_⟩
    refine lc_on (h := fun e : Addr × (Str × Str) => V.ref e.1) (xs := zl) (by have := walk_tup (K := K) (a := al) (xs := zl.map fun z => V.ref z.1); rw [List.length_map] at this; exact this) rfl (fun e => !decide (e.2 = (y, x))) (fun e => V.ref e.1) nD (fun H4 s4 => tup_of (s4 _ _ hal1)) (by omega) (fun e he H4 s4 Q' q' => ?_) (fun e he _ H4 s4 Q' q' => ⟨_, rfl, q' H4 (Same.refl H4)⟩) fun H4 s4 e4 => ?_
    · refine ⟨_, rfl, .str y, rfl, .str x, rfl, by show 2 ≤ sizeLine; decide, fun e2 n2 => ?_⟩
      have f5 : (upd H4 e2 (.tup [.str y, .str x])) e2 = some (.tup [.str y, .str x]) := upd_same
      have s5 : Same H4 (upd H4 e2 (.tup [.str y, .str x])) := same_new n2
      generalize upd H4 e2 (.tup [.str y, .str x]) = H5 at *
      refine ne_t (a := e.2) (b := (y, x)) (((tz e he).kq s1.kq).kq (s4.trans s5).kq).dt (tt_pair f5 tt_str tt_str).dt ⟨_, rfl, ?_⟩
      exact q' H5 s5
    · have S4 := s1.trans s4
      refine ⟨D, _, rfl, .inl ⟨lst_of e4, fun p5 n5 => ?_⟩⟩
      have f5 : (upd H4 p5 (.tup ((zl.filter fun e => !decide (e.2 = (y, x))).map fun e => V.ref e.1))) p5 = some (.tup ((zl.filter fun e => !decide (e.2 = (y, x))).map fun e => V.ref e.1)) := upd_same
      have s5 : Same H4 (upd H4 p5 (.tup ((zl.filter fun e => !decide (e.2 = (y, x))).map fun e => V.ref e.1))) := same_new n5
      generalize upd H4 p5 (.tup ((zl.filter fun e => !decide (e.2 = (y, x))).map fun e => V.ref e.1)) = H5 at *
      have S5 := S4.trans s5
      have ef : (zl.filter fun e => !decide (e.2 = (y, x))).map (·.2) = (getP ps z).2.items.filter fun l => !decide (l = (y, x)) := by
        rw [el, List.filter_map]
        rfl
      have tl5 : Tt H5 (.ref p5) (Tup.mk ((getP ps z).2.items.filter fun l => !decide (l = (y, x)))) := by
        rw [← ef]
        exact tt_tup f5 (tts_of fun e he => (tz e ((List.mem_filter.mp he).1)).kq S5.kq)
      refine ⟨a, la, t, am, .ref p5, ms, ks, (getP ps z).1.items, _, ps, z, rfl, st.same S5, S5 _ _ ham, tl5, l1, ?_, nd, lp, fun b' t' H6 s6 nb nt st6 => ?_⟩
      · exact Nat.le_trans (List.length_filter_le _ _) l2
      · exact q b' t' H6 (S5.trans s6) (S5.free nb) (S5.free nt) st6
end
end Tf

/-! stores changed: without_thing -/
namespace Tf
open PySem PySem.Spec PyProof.Rows L2 PySem.W
abbrev sWot : Stmt := inClass sStore 14
abbrev nWot : List Str := ["self", "thing", "found", "one", "marks", "links", "link"]
theorem scWot : FnScope nWot ["self", "thing"] (defScope sWot) := ⟨rfl, rfl, rfl, by decide +kernel, rfl, by decide +kernel, by decide +kernel⟩
def cutP (z : Str) (p : Pr) : Pr := (p.1, ⟨p.2.items.filter fun l => !decide (l.2 = z)⟩)
/-- without a thing and the links to it -/
def woutP (ps : Ps) (z : Str) : Ps := (ps.filter fun p => !decide (p.1 = z)).map fun p => (p.1, cutP z p.2)
theorem woutP_names (ps : Ps) (z : Str) : (woutP ps z).map (·.1) = (ps.map (·.1)).filter fun x => !decide (x = z) := by
  unfold woutP
  rw [List.map_map, List.filter_map]
  rfl
theorem woutP_nd {ps : Ps} {z : Str} (nd : (ps.map (·.1)).Nodup) : ((woutP ps z).map (·.1)).Nodup := by
  rw [woutP_names]
  exact nd.filter _
theorem woutP_len (ps : Ps) (z : Str) : (woutP ps z).length ≤ ps.length := by
  unfold woutP
  rw [List.length_map]
  exact List.length_filter_le _ _
def spWot (CL C CM : Addr) : Sp := fun vs H Q _ => ∃ (a la t : Addr) (ms ks : List Str) (ps : Ps) (z : Str), vs = [.ref a, .str z] ∧ StoreAt CL C H a la t ms ks ps ∧ z ∈ ps.map (·.1) ∧ (ps.map (·.1)).Nodup ∧ ps.length ≤ 61 ∧ (∀ p ∈ ps, p.2.2.items.length ≤ 60) ∧
  ∀ (b t' : Addr) (H' : Hp), Same H H' → H b = none → H t' = none → StoreAt CL CM H' b la t' ms ks (sortS (woutP ps z)) → Q (.ref b) H'
section
variable {P : Program} {w : World} {K : PySem.W.Frag} {mg : Str → Option Value} {base : Heap}
theorem ok_wot {f CL C CM : Addr} {fd : FuncData} {k : Nat} (F : Fun K "without_thing" "Store.without_thing" sWot f fd) (L : SCls K C) (GT : CdN P w K mg base k "require_thing" ["store", "thing"] (spRt CL C)) (GI : CdN P w K mg base k "store_in" ["language", "things"] (spSi CL CM)) (mT : mg "tuple" = none) : FnOk P w K mg base CX0 (k + 1) f fd ["self", "thing"] (spWot CL C CM) := by
  refine F.ok scWot (fun vs H Q E h => ?_) (fun cdv A outer s H vs Q E hr h => ?_)
  · obtain ⟨a, la, t, ms, ks, ps, z, rfl, _⟩ := h
    rfl
  · obtain ⟨a, la, t, ms, ks, ps, z, rfl, st, mz, nd, lp, l2, q⟩ := h
    have hu : (A.deeper (envOfC "Store.without_thing" (defScope sWot) s.heap.objs.size f cdv)).units + 1 < cLine := by have := hr.un; omega
    refine ⟨_, pss_cons (ps_expr (pe_cdn GT hr (pa_cons (pv 0) (pa_cons (pv 1) pa_nil))))
      (pss_cons (ps_set (i := 2) scWot.nd rfl (.inl rfl) pe_dnewK)
      (pss_cons (ps_lock (ps_for PassesOwn.never rfl (pi_items (pe_fld (pv 0) (by rfl))) (pg_tup (by rfl) (pgs_cons (pg_name (i := 3) scWot.nd rfl (.inl rfl)) (pgs_cons (pg_tup (by rfl) (pgs_cons (pg_name (i := 4) scWot.nd rfl (.inl rfl)) (pgs_cons (pg_name (i := 5) scWot.nd rfl (.inl rfl)) pgs_nil))) pgs_nil)))
        (pss_one (ps_if (pt_cmpR op_ne (pv 3) (pv 1) (nomark _))
          (pss_one (ps_dput hu (pv 2) (pv 3) (pe_tup (pa_cons (pv 4) (pa_cons (pe_callTy call_tuple_of (by rfl) mT (by decide +kernel) (pa_cons
            (pe_lc (own := [("link", 6)]) (g := gName 6) (tt := tTest (tOp rNe (tOp (rIxT K) (tVar 6) (tC (.int 1))) (tVar 1))) (te := tVar 6) (by rfl) scWot.nd (pi_tup (pv 5)) (blkOk_by (own := [("link", 6)]) (N := nWot) (sc := defScope sWot) (by decide +kernel)) (fun _ _ _ _ _ => pg_name (i := 6) scWot.nd rfl (Or.inl rfl)) (fun _ _ _ _ _ => pts_one (pt_cmpR op_ne (pe_ix ix_tup (pv 6) pe_int (fun _ _ => rfl)) (pv 1) (nomark _))) (fun _ _ _ _ _ => pv 6)) pa_nil)) pa_nil))) rfl)) pss_nil))))
      (pss_one (ps_ret (pe_cdn GI hr (pa_cons (pe_fld (pv 0) (by rfl)) (pa_cons (pv 2) pa_nil))))))), ?_⟩
    refine ⟨.ref a, rfl, .str z, rfl, a, la, t, ms, ks, ps, z, rfl, st, mz, ?_⟩
    obtain ⟨dx, fs, kvs, h1, h2, h3, h4, h5, h6, h7⟩ := st
    intro pf nf
    have e1 : (upd H pf (.dK [])) pf = some (.dK []) := upd_same
    have s1 : Same H (upd H pf (.dK [])) := same_new nf
    generalize upd H pf (.dK []) = H1 at *
    have ntf : t ≠ pf := ne_of_none h5 nf
    have ht1 := s1 _ _ h5
    have nat : a ≠ t := ne_of h1 h5 (fun z' => nomatch z')
    refine ⟨t, _, ht1, trivial, fun od => ⟨.ref a, rfl, a, C, dx, fs, .ref t, rfl, by rw [upd_ne nat]; exact s1 _ _ h1, L.cl, L.nt, h3, t, od, kvs, rfl, upd_same, ?_⟩⟩
    have eL : (upd H1 t (.frz od (.dK kvs))) t = some (.frz od (.dK kvs)) := upd_same
    have fL : (upd H1 t (.frz od (.dK kvs))) pf = some (.dK []) := by rw [upd_ne ntf.symm]; exact e1
    have kqL : Kq H (upd H1 t (.frz od (.dK kvs))) := s1.kq.trans (Kq.lock ht1)
    have un : ∀ G : Hp, (∀ b o, b ≠ pf → (upd H1 t (.frz od (.dK kvs))) b = some o → G b = some o) → Same H (upd G t (.dK kvs)) := fun G kp b o e => by
      by_cases c : b = t
      · subst c
        rw [upd_same, ← e, h5]
      · rw [upd_ne c]
        exact kp b o (ne_of_none e nf) (by rw [upd_ne c]; exact s1 _ _ e)
    generalize upd H1 t (.frz od (.dK kvs)) = HL at eL fL kqL un ⊢
    refine for_it walk_items (fun i σ G => ∃ (o3 o4 o5 : Option V) (ks' : List (Key × V)), σ = [some (.ref a), some (.str z), some (.ref pf), o3, o4, o5, none] ∧ (∀ b o, b ≠ pf → HL b = some o → G b = some o) ∧ G pf = some (.dK ks') ∧ PsR G ks' (woutP (ps.take i) z)) ⟨none, none, none, [], rfl, fun _ _ _ e => e, fL, .nil⟩ (fun i σ G _ ⟨_, _, _, _, _, kp, _⟩ => kp _ _ ntf eL) ?_ ?_
    · rintro i x σ G G' hi ⟨o3, o4, o5, ks', rfl, kp, fG, rG⟩ ⟨T, x1, y, rfl, nt, rfl, ex1, ey⟩
      have hi' : i < kvs.length := hi
      dsimp only at ex1 ey
      rw [List.getElem?_eq_getElem hi'] at ex1 ey
      obtain ⟨p, ep, ek, tv⟩ := paired_get h6 (List.getElem?_eq_getElem hi')
      have ex' : x1 = V.str p.1 := by
        have z' : kV kvs[i].1 = x1 := Option.some.inj ex1
        rw [← z', ek]
        rfl
      have ey' : kvs[i].2 = y := Option.some.inj ey
      subst ex' ey'
      have mp : p ∈ ps := List.mem_of_getElem? ep
      have tk : ps.take (i + 1) = ps.take i ++ [p] := by rw [List.take_add_one, ep]; rfl
      have ktG : Kt H G := fun b xs e => kp b _ (ne_of_none e nf) (kqL.tup e)
      obtain ⟨b, u1, u2, ev, hb, t1, t2⟩ := tv.pair
      obtain ⟨al, vl, rfl, hal, tl⟩ := t2.tup
      rw [ev]
      have eT : (upd G T (.tup [.str p.1, .ref b])) T = some (.tup [.str p.1, .ref b]) := upd_same
      have sT : Same G (upd G T (.tup [.str p.1, .ref b])) := same_new nt
      generalize upd G T (.tup [.str p.1, .ref b]) = G1 at *
      have ktG1 : Kt H G1 := fun c xs e => sT _ _ (ktG c xs e)
      refine ⟨T, _, rfl, tup_of eT, rfl, _, _, rfl, _, _, rfl, b, _, rfl, tup_of (ktG1 _ _ hb), rfl, _, _, rfl, _, _, rfl, rfl, rfl, ?_⟩
      refine ⟨.str p.1, rfl, .str z, rfl, rfl, _, rfl, ?_⟩
      have ed : decide (V.str p.1 = V.str z) = decide (p.1 = z) := decide_eq_decide.mpr ⟨fun c => by injection c, fun c => by rw [c]⟩
      rw [ed]
      have fG1 := sT _ _ fG
      have kp1 : ∀ b o, b ≠ pf → HL b = some o → G1 b = some o := fun b o nb e => sT _ _ (kp b o nb e)
      have rG1 : PsR G1 ks' (woutP (ps.take i) z) := rG.kq sT.kq
      by_cases c : p.1 = z
      · rw [decide_eq_true c]
        refine iteF ⟨_, _, _, ks', rfl, kp1, fG1, ?_⟩
        have e : woutP (ps.take (i + 1)) z = woutP (ps.take i) z := by
          unfold woutP
          rw [tk, List.filter_append, List.filter_cons_of_neg (by rw [decide_eq_true c]; exact Bool.false_ne_true), List.filter_nil, List.append_nil]
        rw [e]
        exact rG1
      · rw [decide_eq_false c]
        refine iteT ?_
        obtain ⟨zl, rfl, el, tz⟩ := Tts.refs tl
        have lz : zl.length ≤ 60 := by
          have z' := l2 p mp
          rw [el, List.length_map] at z'
          exact z'
        have halG := ktG1 _ _ hal
        refine ⟨u1, rfl, .ref al, rfl, al, rfl, ⟨_, tup_of halG⟩, fun D nD => ?_⟩
        refine lc_on (h := fun e : Addr × (Str × Str) => V.ref e.1) (xs := zl) (by have := walk_tup (K := K) (a := al) (xs := zl.map fun z => V.ref z.1); rw [List.length_map] at this; exact this) rfl (fun e => !decide (e.2.2 = z)) (fun e => V.ref e.1) nD (fun H4 s4 => tup_of (s4 _ _ halG)) (by omega) (fun e he H4 s4 Q' q' => ?_) (fun e he _ H4 s4 Q' q' => ⟨_, rfl, q' H4 (Same.refl H4)⟩) fun G4 s4 e4 => ?_
        · obtain ⟨cc, x1, x2, ec, hc, y1, y2⟩ := ((tz e he).kt ktG1).pair
          have ec' : e.1 = cc := by injection ec
          subst ec'
          rw [y1.str, y2.str] at hc
          refine ⟨_, rfl, e.1, _, 1, .str e.2.2, rfl, rfl, tup_of (s4 _ _ hc), rfl, .str z, rfl, rfl, _, rfl, ?_⟩
          have ed2 : decide (V.str e.2.2 = V.str z) = decide (e.2.2 = z) := decide_eq_decide.mpr ⟨fun c => by injection c, fun c => by rw [c]⟩
          rw [ed2]
          exact q' H4 (Same.refl H4)
        · refine ⟨D, _, rfl, .inl ⟨lst_of e4, fun p5 n5 => ?_⟩⟩
          have f5 : (upd G4 p5 (.tup ((zl.filter fun e => !decide (e.2.2 = z)).map fun e => V.ref e.1))) p5 = some (.tup ((zl.filter fun e => !decide (e.2.2 = z)).map fun e => V.ref e.1)) := upd_same
          have s5 : Same G4 (upd G4 p5 (.tup ((zl.filter fun e => !decide (e.2.2 = z)).map fun e => V.ref e.1))) := same_new n5
          generalize upd G4 p5 (.tup ((zl.filter fun e => !decide (e.2.2 = z)).map fun e => V.ref e.1)) = G5 at *
          have ef : (zl.filter fun e => !decide (e.2.2 = z)).map (·.2) = p.2.2.items.filter fun l => !decide (l.2 = z) := by
            rw [el, List.filter_map]
            rfl
          have S5 := s4.trans s5
          have ktG5 : Kt H G5 := fun c xs e => S5 _ _ (ktG1 c xs e)
          have tl5 : Tt G5 (.ref p5) (Tup.mk (p.2.2.items.filter fun l => !decide (l.2 = z))) := by
            rw [← ef]
            exact tt_tup f5 (tts_of fun e he => (tz e (List.mem_filter.mp he).1).kt ktG5)
          refine ⟨by show 2 ≤ sizeLine; decide, fun p6 n6 => ?_⟩
          have f6 : (upd G5 p6 (.tup [u1, .ref p5])) p6 = some (.tup [u1, .ref p5]) := upd_same
          have s6 : Same G5 (upd G5 p6 (.tup [u1, .ref p5])) := same_new n6
          generalize upd G5 p6 (.tup [u1, .ref p5]) = G6 at *
          have S6 := S5.trans s6
          have f6G := S6 _ _ fG1
          have lr := Paired.length rG
          have lw := woutP_len (ps.take i) z
          rw [List.length_take] at lw
          refine ⟨.ref pf, rfl, .str p.1, rfl, pf, _, rfl, DPut.k (k := Sum.inr p.1) f6G (small1000 (by omega)), ?_⟩
          have miss : valV ks' (Sum.inr p.1) = none := rG.miss (by
            rw [woutP_names]
            intro hm'
            have hm2 := (List.mem_filter.mp hm').1
            obtain ⟨p', hp', e'⟩ := List.mem_map.mp hm2
            obtain ⟨j, hj, e2⟩ := List.getElem_of_mem hp'
            rw [List.length_take] at hj
            rw [List.getElem_take] at e2
            have hip : i < ps.length := by
              have := Paired.length h6
              omega
            have epi : ps[i] = p := by
              rw [List.getElem?_eq_getElem hip] at ep
              exact Option.some.inj ep
            have e3 : (ps.map (·.1))[j]'(by rw [List.length_map]; omega) = (ps.map (·.1))[i]'(by rw [List.length_map]; exact hip) := by
              rw [List.getElem_map, List.getElem_map, e2, epi]
              exact e'
            have e4 := (List.getElem_inj nd).mp e3
            omega)
          rw [putK_new _ miss]
          have kt : Kt G6 (upd G6 pf (.dK (ks' ++ [(Sum.inr p.1, .ref p6)]))) := kt_dk f6G
          refine ⟨_, _, _, _, rfl, fun b o nb e => by rw [upd_ne nb]; exact S6 _ _ (kp1 b o nb e), upd_same, ?_⟩
          have e : woutP (ps.take (i + 1)) z = woutP (ps.take i) z ++ [(p.1, cutP z p.2)] := by
            unfold woutP
            rw [tk, List.filter_append, List.filter_cons_of_pos (by rw [decide_eq_false c]; rfl), List.filter_nil, List.map_append]
            rfl
          rw [e]
          refine PsR.append ((rG1.kq S6.kq).kt kt) (.cons ⟨rfl, ?_⟩ .nil)
          exact (tt_pair f6 ((t1.kt ktG5).kq s6.kq) (tl5.kq s6.kq)).kt kt
    rintro σ G ⟨o3, o4, o5, ks', rfl, kp, fG, rG⟩
    have lk : kvs.length = ps.length := Paired.length h6
    rw [lk, List.take_length] at rG
    refine ⟨kp _ _ ntf eL, ?_⟩
    have SU := un G kp
    have fU : (upd G t (.dK kvs)) pf = some (.dK ks') := by rw [upd_ne ntf.symm]; exact fG
    have rU : PsR (upd G t (.dK kvs)) ks' (woutP ps z) := rG.kq (Kq.unlock (kp _ _ ntf eL))
    generalize upd G t (.dK kvs) = U at SU fU rU ⊢
    refine ⟨.ref a, rfl, a, C, dx, fs, .ref la, rfl, SU _ _ h1, L.cl, L.nl, h2, .ref pf, rfl, la, pf, ms, ks, ks', woutP ps z, rfl, h4.kq SU.kq, fU, rU, woutP_nd nd, by have := woutP_len ps z; omega, fun b t' H' s' nb nt st' => ?_⟩
    exact q b t' H' (SU.trans s') (SU.free nb) (SU.free nt) st'
end
end Tf

/-! stores joined -/
namespace Tf
open PySem PySem.Spec PyProof.Rows L2 PySem.W
abbrev sJp : Stmt := top 28
abbrev sJt : Stmt := top 29
theorem scJp : FnScope ["pair", "other"] ["pair", "other"] (defScope sJp) := ⟨rfl, rfl, rfl, by decide +kernel, rfl, by decide +kernel, by decide +kernel⟩
theorem scJt : FnScope ["things", "others", "found", "thing"] ["things", "others"] (defScope sJt) := ⟨rfl, rfl, rfl, by decide +kernel, rfl, by decide +kernel, by decide +kernel⟩
theorem cat_tup {K : PySem.W.Frag} {H : Hp} {a b : Addr} {xs ys : List V} {R : VK} (ha : H a = some (.tup xs)) (hb : H b = some (.tup ys)) (l : xs.length + ys.length ≤ 1000) (h : ∀ c H', Same H H' → H' c = some (.tup (xs ++ ys)) → R (.ref c) H') : rCatA K (.ref a) (.ref b) H R := by
  refine ⟨a, b, xs, ys, rfl, rfl, tup_of ha, tup_of hb, small1k l, fun e => ?_, fun _ e => ?_, fun _ _ p np => ?_⟩
  · refine h b H (Same.refl H) ?_
    rw [e]
    exact hb
  · refine h a H (Same.refl H) ?_
    rw [e, List.append_nil]
    exact ha
  · exact h p _ (same_new np) upd_same
def joinP (p r : Pr) : Pr := (⟨canon (p.1.items ++ r.1.items)⟩, ⟨setO (p.2.items ++ r.2.items)⟩)
def spJp : Sp := fun vs H Q _ => ∃ (v u : V) (p r : Pr), vs = [v, u] ∧ Tt H v p ∧ Tt H u r ∧ p.1.items.length + r.1.items.length ≤ 60 ∧ p.2.items.length + r.2.items.length ≤ 60 ∧ ∀ (x : V) (H' : Hp), Same H H' → Tt H' x (joinP p r) → Q x H'
/-- both together: the first one's things, then the others -/
def bothP (ps qs : Ps) : Ps := (ps.map fun p => (p.1, if p.1 ∈ qs.map (·.1) then joinP p.2 (getP qs p.1) else p.2)) ++ qs.filter fun q => !decide (q.1 ∈ ps.map (·.1))
section
variable {P : Program} {w : World} {K : PySem.W.Frag} {mg : Str → Option Value} {base : Heap}
theorem ok_jp {f : Addr} {fd : FuncData} {k : Nat} (F : Fun K "joined_pair" "joined_pair" sJp f fd) (GS : CdN P w K mg base k "different_items" ["items"] spDiS) (GL : CdN P w K mg base k "different_items" ["items"] spDiP) : FnOk P w K mg base CX0 (k + 1) f fd ["pair", "other"] spJp := by
  refine F.ok scJp (fun vs H Q E h => ?_) (fun cdv A outer s H vs Q E hr h => ?_)
  · obtain ⟨v, u, p, r, rfl, _⟩ := h
    rfl
  · obtain ⟨v, u, p, r, rfl, tv, tu, l1, l2, q⟩ := h
    refine ⟨_, pss_one (ps_ret (pe_tup (pa_cons (pe_cdn GS hr (pa_cons (pe_op op_catA (pe_ix ix_tup (pv 0) pe_int (fun _ _ => rfl)) (pe_ix ix_tup (pv 1) pe_int (fun _ _ => rfl))) pa_nil)) (pa_cons (pe_cdn GL hr (pa_cons (pe_op op_catA (pe_ix ix_tup (pv 0) pe_int (fun _ _ => rfl)) (pe_ix ix_tup (pv 1) pe_int (fun _ _ => rfl))) pa_nil)) pa_nil)))), ?_⟩
    obtain ⟨a, v1, v2, rfl, ha, t1, t2⟩ := tv.pair
    obtain ⟨b, u1, u2, rfl, hb, t3, t4⟩ := tu.pair
    obtain ⟨am, vm, rfl, ham, tm⟩ := t1.tup
    obtain ⟨al, vl, rfl, hal, tl⟩ := t2.tup
    obtain ⟨bm, wm, rfl, hbm, sm⟩ := t3.tup
    obtain ⟨bl, wl, rfl, hbl, sl⟩ := t4.tup
    have em := Tts.strs tm
    have en := Tts.strs sm
    subst em en
    have l3 := Tts.length tl
    have l4 := Tts.length sl
    refine ⟨.ref a, rfl, a, _, 0, .ref am, rfl, rfl, tup_of ha, rfl, .ref b, rfl, b, _, 0, .ref bm, rfl, rfl, tup_of hb, rfl, cat_tup ham hbm (by rw [List.length_map, List.length_map]; omega) fun c1 H1 s1 e1 => ?_⟩
    rw [← List.map_append] at e1
    refine ⟨c1, _, rfl, e1, by rw [List.length_append]; omega, fun p1 H2 s2 n1 e2 => ?_⟩
    have S2 := s1.trans s2
    refine ⟨.ref a, rfl, a, _, 1, .ref al, rfl, rfl, tup_of (S2 _ _ ha), rfl, .ref b, rfl, b, _, 1, .ref bl, rfl, rfl, tup_of (S2 _ _ hb), rfl, cat_tup (S2 _ _ hal) (S2 _ _ hbl) (by omega) fun c2 H3 s3 e3 => ?_⟩
    have S3 := S2.trans s3
    refine ⟨.ref c2, p.2.items ++ r.2.items, rfl, tt_tup e3 (Tts.append (Tts.kq tl S3.kq) (Tts.kq sl S3.kq)), by rw [List.length_append]; omega, fun p2 H4 s4 n4 e4 => ?_⟩
    refine ⟨by show 2 ≤ sizeLine; decide, fun p3 n3 => ?_⟩
    have e5 : (upd H4 p3 (.tup [.ref p1, .ref p2])) p3 = some (.tup [.ref p1, .ref p2]) := upd_same
    have s5 : Same H4 (upd H4 p3 (.tup [.ref p1, .ref p2])) := same_new n3
    generalize upd H4 p3 (.tup [.ref p1, .ref p2]) = H5 at *
    refine q (.ref p3) H5 (S3.trans (s4.trans s5)) ?_
    exact tt_pair e5 (tt_tup (s5 _ _ (s4 _ _ (s3 _ _ e2))) (tts_strs _)) (e4.kq s5.kq)
end
end Tf

/-! stores joined: joined_things -/
namespace Tf
open PySem PySem.Spec PyProof.Rows L2 PySem.W
def bothA (ps qs : Ps) : Ps := ps.map fun p => (p.1, if p.1 ∈ qs.map (·.1) then joinP p.2 (getP qs p.1) else p.2)
def bothB (ps qs : Ps) : Ps := qs.filter fun q => !decide (q.1 ∈ ps.map (·.1))
theorem bothP_is (ps qs : Ps) : bothP ps qs = bothA ps qs ++ bothB ps qs := rfl
theorem bothA_names (ps qs : Ps) : (bothA ps qs).map (·.1) = ps.map (·.1) := by
  unfold bothA
  rw [List.map_map]
  rfl
/-- pairs that may be joined -/
def Jn (ps qs : Ps) : Prop := ∀ p ∈ ps, p.1 ∈ qs.map (·.1) → p.2.1.items.length + (getP qs p.1).1.items.length ≤ 60 ∧ p.2.2.items.length + (getP qs p.1).2.items.length ≤ 60
def spJt : Sp := fun vs H Q _ => ∃ (t u : Addr) (kvs jvs : List (Key × V)) (ps qs : Ps), vs = [.ref t, .ref u] ∧ H t = some (.dK kvs) ∧ H u = some (.dK jvs) ∧ PsR H kvs ps ∧ PsR H jvs qs ∧ (ps.map (·.1)).Nodup ∧ (qs.map (·.1)).Nodup ∧ ps.length ≤ 60 ∧ qs.length ≤ 60 ∧ Jn ps qs ∧
  ∀ (p : Addr) (ks' : List (Key × V)) (H' : Hp), Same H H' → H p = none → H' p = some (.dK ks') → PsR H' ks' (bothP ps qs) → Q (.ref p) H'
theorem take_off {ps : Ps} {i : Nat} {p : Str × Pr} (nd : (ps.map (·.1)).Nodup) (e : ps[i]? = some p) : p.1 ∉ (ps.take i).map (·.1) := fun hm => by
  obtain ⟨p', hp', e'⟩ := List.mem_map.mp hm
  obtain ⟨j, hj, e2⟩ := List.getElem_of_mem hp'
  rw [List.length_take] at hj
  rw [List.getElem_take] at e2
  obtain ⟨hi, e3⟩ := List.getElem?_eq_some_iff.mp e
  have e4 : (ps.map (·.1))[j]'(by rw [List.length_map]; omega) = (ps.map (·.1))[i]'(by rw [List.length_map]; exact hi) := by
    rw [List.getElem_map, List.getElem_map, e2, e3]
    exact e'
  have e5 := (List.getElem_inj nd).mp e4
  omega
section
variable {P : Program} {w : World} {K : PySem.W.Frag} {mg : Str → Option Value} {base : Heap}
theorem ok_jt {f : Addr} {fd : FuncData} {k : Nat} (F : Fun K "joined_things" "joined_things" sJt f fd) (GJ : CdN P w K mg base k "joined_pair" ["pair", "other"] spJp) : FnOk P w K mg base CX0 (k + 1) f fd ["things", "others"] spJt := by
  refine F.ok scJt (fun vs H Q E h => ?_) (fun cdv A outer s H vs Q E hr h => ?_)
  · obtain ⟨t, u, kvs, jvs, ps, qs, rfl, _⟩ := h
    rfl
  · obtain ⟨t, u, kvs, jvs, ps, qs, rfl, ht, hu', hps, hqs, ndp, ndq, lp, lq, jn, q⟩ := h
    have hu : (A.deeper (envOfC "joined_things" (defScope sJt) s.heap.objs.size f cdv)).units + 1 < cLine := by have := hr.un; omega
    refine ⟨_, pss_cons (ps_set (i := 2) scJt.nd rfl (.inl rfl) pe_dnewK)
      (pss_cons (ps_lock (ps_for PassesOwn.never rfl (pi_keys (pv 0)) (pg_name (i := 3) scJt.nd rfl (Or.inl rfl))
        (pss_one (ps_dput hu (pv 2) (pv 3) (pe_mid (pe_ifExp (pt_cmp (pc_din hu (pv 3) (pv 1)) (by rfl)) (pe_cdn GJ hr (pa_cons (pe_dget hu (pv 0) (pv 3) (fun _ _ => rfl)) (pa_cons (pe_dget hu (pv 1) (pv 3) (fun _ _ => rfl)) pa_nil))) (pe_dget hu (pv 0) (pv 3) (fun _ _ => rfl)))) rfl))))
      (pss_cons (ps_lock (ps_for PassesOwn.never rfl (pi_keys (pv 1)) (pg_name (i := 3) scJt.nd rfl (Or.inl rfl))
        (pss_one (ps_if (pt_cmp (pc_dnotin hu (pv 3) (pv 0)) (by rfl)) (pss_one (ps_dput hu (pv 2) (pv 3) (pe_dget hu (pv 1) (pv 3) (fun _ _ => rfl)) rfl)) pss_nil))))
      (pss_one (ps_ret (pv 2))))), ?_⟩
    have lk : kvs.length = ps.length := Paired.length hps
    have lj : jvs.length = qs.length := Paired.length hqs
    intro pf nf
    have e1 : (upd H pf (.dK [])) pf = some (.dK []) := upd_same
    have s1 : Same H (upd H pf (.dK [])) := same_new nf
    generalize upd H pf (.dK []) = H1 at *
    have ntf : t ≠ pf := ne_of_none ht nf
    have nuf : u ≠ pf := ne_of_none hu' nf
    have ht1 := s1 _ _ ht
    refine ⟨t, _, ht1, trivial, fun od => ⟨.ref t, rfl, t, od, rfl, .inl ⟨_, upd_same, ?_⟩⟩⟩
    have eL : (upd H1 t (.frz od (.dK kvs))) t = some (.frz od (.dK kvs)) := upd_same
    have fL : (upd H1 t (.frz od (.dK kvs))) pf = some (.dK []) := by rw [upd_ne ntf.symm]; exact e1
    have kqL : Kq H (upd H1 t (.frz od (.dK kvs))) := s1.kq.trans (Kq.lock ht1)
    have un : ∀ G : Hp, (∀ b o, b ≠ pf → (upd H1 t (.frz od (.dK kvs))) b = some o → G b = some o) → Same H (upd G t (.dK kvs)) := fun G kp b o e => by
      by_cases c : b = t
      · subst c
        rw [upd_same, ← e, ht]
      · rw [upd_ne c]
        exact kp b o (ne_of_none e nf) (by rw [upd_ne c]; exact s1 _ _ e)
    generalize upd H1 t (.frz od (.dK kvs)) = HL at eL fL kqL un ⊢
    have rdL : ∀ G : Hp, (∀ b o, b ≠ pf → HL b = some o → G b = some o) → ∀ (c : Addr) (l : List (Key × V)), H c = some (.dK l) → Rd G c (.dK l) := fun G kp c l e => by
      rcases kqL.dk c l (.inl e) with r | ⟨o, r⟩
      · exact .inl (kp _ _ (ne_of_none e nf) r)
      · exact .inr ⟨o, kp _ _ (ne_of_none e nf) r⟩
    have ktL : ∀ G : Hp, (∀ b o, b ≠ pf → HL b = some o → G b = some o) → Kt H G := fun G kp b xs e => kp b _ (ne_of_none e nf) (kqL.tup e)
    refine for_it walk_keysY (fun i σ G => ∃ (o3 : Option V) (ks' : List (Key × V)), σ = [some (.ref t), some (.ref u), some (.ref pf), o3] ∧ (∀ b o, b ≠ pf → HL b = some o → G b = some o) ∧ G pf = some (.dK ks') ∧ PsR G ks' (bothA (ps.take i) qs)) ⟨none, [], rfl, fun _ _ _ e => e, fL, .nil⟩ (fun i σ G _ ⟨_, _, _, kp, _⟩ => kp _ _ ntf eL) ?_ ?_
    · rintro i x σ G G' hi ⟨o3, ks', rfl, kp, fG, rG⟩ ⟨rfl, ey⟩
      rw [List.getElem?_map, List.getElem?_eq_getElem hi] at ey
      obtain ⟨p, ep, ek, _⟩ := paired_get hps (List.getElem?_eq_getElem hi)
      have ey' : V.str p.1 = x := by
        have z : kV kvs[i].1 = x := Option.some.inj ey
        rw [ek] at z
        exact z
      subst ey'
      have mp : p ∈ ps := List.mem_of_getElem? ep
      have mz : p.1 ∈ ps.map (·.1) := List.mem_map.mpr ⟨p, mp, rfl⟩
      have gp : getP ps p.1 = p.2 := getP_mem ndp (show (p.1, p.2) ∈ ps from mp)
      obtain ⟨v, hv, tv, _⟩ := hps.get ndp mz
      rw [gp] at tv
      have tk : ps.take (i + 1) = ps.take i ++ [p] := by rw [List.take_add_one, ep]; rfl
      have rt := rdL G' kp t kvs ht
      have ru := rdL G' kp u jvs hu'
      have ktG := ktL G' kp
      refine ⟨fun x H' => Same G' H' ∧ Tt H' x (if p.1 ∈ qs.map (·.1) then joinP p.2 (getP qs p.1) else p.2), ?_, ?_⟩
      · refine ⟨.str p.1, rfl, .ref u, rfl, u, _, rfl, .inl ⟨jvs, Sum.inr p.1, ru, rfl, rfl⟩, _, rfl, ?_⟩
        rw [dk_val hqs]
        by_cases c : p.1 ∈ qs.map (·.1)
        · rw [decide_eq_true c, if_pos c]
          obtain ⟨v2, hv2, tv2, _⟩ := hqs.get ndq c
          obtain ⟨j1, j2⟩ := jn p mp c
          exact iteT ⟨.ref t, rfl, .str p.1, rfl, t, v, rfl, .inl ⟨kvs, Sum.inr p.1, rt, rfl, by rw [hv]⟩, .ref u, rfl, .str p.1, rfl, u, v2, rfl, .inl ⟨jvs, Sum.inr p.1, ru, rfl, by rw [hv2]⟩, v, v2, p.2, getP qs p.1, rfl, tv.kt ktG, tv2.kt ktG, j1, j2, fun x H' s' tx => ⟨s', tx⟩⟩
        · rw [decide_eq_false c, if_neg c]
          exact iteF ⟨.ref t, rfl, .str p.1, rfl, t, v, rfl, .inl ⟨kvs, Sum.inr p.1, rt, rfl, by rw [hv]⟩, Same.refl G', tv.kt ktG⟩
      rintro x H' ⟨s', tx⟩
      have f' := s' _ _ fG
      have lr := Paired.length rG
      unfold bothA at lr
      rw [List.length_map, List.length_take] at lr
      refine ⟨.ref pf, rfl, .str p.1, rfl, pf, _, rfl, DPut.k (k := Sum.inr p.1) f' (small1000 (by omega)), ?_⟩
      have miss : valV ks' (Sum.inr p.1) = none := rG.miss (by rw [bothA_names]; exact take_off ndp ep)
      rw [putK_new _ miss]
      have kt : Kt H' (upd H' pf (.dK (ks' ++ [(Sum.inr p.1, x)]))) := kt_dk f'
      refine ⟨_, _, rfl, fun b o nb e => by rw [upd_ne nb]; exact s' _ _ (kp b o nb e), upd_same, ?_⟩
      unfold bothA
      rw [tk, List.map_append]
      exact PsR.append ((rG.kq s'.kq).kt kt) (.cons ⟨rfl, tx.kt kt⟩ .nil)
    rintro σ G ⟨o3, ks', rfl, kp, fG, rG⟩
    rw [lk, List.take_length] at rG
    refine ⟨kp _ _ ntf eL, ?_⟩
    have SU := un G kp
    have fU : (upd G t (.dK kvs)) pf = some (.dK ks') := by rw [upd_ne ntf.symm]; exact fG
    have rU : PsR (upd G t (.dK kvs)) ks' (bothA ps qs) := rG.kq (Kq.unlock (kp _ _ ntf eL))
    generalize upd G t (.dK kvs) = U at SU fU rU ⊢
    clear rdL ktL un kp rG fG eL fL kqL
    have hu1 := SU _ _ hu'
    refine ⟨u, _, hu1, trivial, fun od2 => ⟨.ref u, rfl, u, od2, rfl, .inl ⟨_, upd_same, ?_⟩⟩⟩
    have eL : (upd U u (.frz od2 (.dK jvs))) u = some (.frz od2 (.dK jvs)) := upd_same
    have fL : (upd U u (.frz od2 (.dK jvs))) pf = some (.dK ks') := by rw [upd_ne nuf.symm]; exact fU
    have kqU : Kq U (upd U u (.frz od2 (.dK jvs))) := Kq.lock hu1
    have kqL : Kq H (upd U u (.frz od2 (.dK jvs))) := SU.kq.trans kqU
    have un : ∀ G : Hp, (∀ b o, b ≠ pf → (upd U u (.frz od2 (.dK jvs))) b = some o → G b = some o) → Same H (upd G u (.dK jvs)) := fun G kp b o e => by
      by_cases c : b = u
      · subst c
        rw [upd_same, ← e, hu']
      · rw [upd_ne c]
        exact kp b o (ne_of_none e nf) (by rw [upd_ne c]; exact SU _ _ e)
    have rL : PsR (upd U u (.frz od2 (.dK jvs))) ks' (bothA ps qs) := rU.kq kqU
    generalize upd U u (.frz od2 (.dK jvs)) = HL at eL fL kqL un rL ⊢
    refine for_it walk_keysY (fun i σ G => ∃ (o3 : Option V) (ks' : List (Key × V)), σ = [some (.ref t), some (.ref u), some (.ref pf), o3] ∧ (∀ b o, b ≠ pf → HL b = some o → G b = some o) ∧ G pf = some (.dK ks') ∧ PsR G ks' (bothA ps qs ++ bothB ps (qs.take i))) ⟨o3, ks', rfl, fun _ _ _ e => e, fL, by rw [show bothB ps (qs.take 0) = [] from rfl, List.append_nil]; exact rL⟩ (fun i σ G _ ⟨_, _, _, kp, _⟩ => kp _ _ nuf eL) ?_ ?_
    · rintro i x σ G G' hi ⟨o3, ks', rfl, kp, fG, rG⟩ ⟨rfl, ey⟩
      rw [List.getElem?_map, List.getElem?_eq_getElem hi] at ey
      obtain ⟨p, ep, ek, _⟩ := paired_get hqs (List.getElem?_eq_getElem hi)
      have ey' : V.str p.1 = x := by
        have z : kV jvs[i].1 = x := Option.some.inj ey
        rw [ek] at z
        exact z
      subst ey'
      have mp : p ∈ qs := List.mem_of_getElem? ep
      have mz : p.1 ∈ qs.map (·.1) := List.mem_map.mpr ⟨p, mp, rfl⟩
      have gp : getP qs p.1 = p.2 := getP_mem ndq (show (p.1, p.2) ∈ qs from mp)
      obtain ⟨v, hv, tv, _⟩ := hqs.get ndq mz
      rw [gp] at tv
      have tk : qs.take (i + 1) = qs.take i ++ [p] := by rw [List.take_add_one, ep]; rfl
      have rd : ∀ (c : Addr) (l : List (Key × V)), H c = some (.dK l) → Rd G' c (.dK l) := fun c l e => by
        rcases kqL.dk c l (.inl e) with r | ⟨o, r⟩
        · exact .inl (kp _ _ (ne_of_none e nf) r)
        · exact .inr ⟨o, kp _ _ (ne_of_none e nf) r⟩
      have ktG : Kt H G' := fun b xs e => kp b _ (ne_of_none e nf) (kqL.tup e)
      refine ⟨.str p.1, rfl, .ref t, rfl, t, _, rfl, .inl ⟨kvs, Sum.inr p.1, rd t kvs ht, rfl, rfl⟩, _, rfl, ?_⟩
      rw [dk_val hps]
      by_cases c : p.1 ∈ ps.map (·.1)
      · rw [decide_eq_true c]
        refine iteF ⟨_, ks', rfl, kp, fG, ?_⟩
        have e : bothB ps (qs.take (i + 1)) = bothB ps (qs.take i) := by
          unfold bothB
          rw [tk, List.filter_append, List.filter_cons_of_neg (by rw [decide_eq_true c]; exact Bool.false_ne_true), List.filter_nil, List.append_nil]
        rw [e]
        exact rG
      · rw [decide_eq_false c]
        refine iteT ?_
        have lr := Paired.length rG
        have lb : (bothB ps (qs.take i)).length ≤ qs.length := Nat.le_trans (List.length_filter_le _ _) (by rw [List.length_take]; omega)
        have la : (bothA ps qs).length = ps.length := by unfold bothA; rw [List.length_map]
        rw [List.length_append] at lr
        refine ⟨.ref u, rfl, .str p.1, rfl, u, v, rfl, .inl ⟨jvs, Sum.inr p.1, rd u jvs hu', rfl, by rw [hv]⟩, .ref pf, rfl, .str p.1, rfl, pf, _, rfl, DPut.k (k := Sum.inr p.1) fG (small1000 (by omega)), ?_⟩
        have miss : valV ks' (Sum.inr p.1) = none := rG.miss (by
          rw [List.map_append, bothA_names, List.mem_append]
          rintro (z | z)
          · exact c z
          · obtain ⟨p', hp', e'⟩ := List.mem_map.mp z
            exact take_off ndq ep (List.mem_map.mpr ⟨p', (List.mem_filter.mp hp').1, e'⟩))
        rw [putK_new _ miss]
        have kt : Kt G' (upd G' pf (.dK (ks' ++ [(Sum.inr p.1, v)]))) := kt_dk fG
        refine ⟨_, _, rfl, fun b o nb e => by rw [upd_ne nb]; exact kp b o nb e, upd_same, ?_⟩
        have e : bothB ps (qs.take (i + 1)) = bothB ps (qs.take i) ++ [p] := by
          unfold bothB
          rw [tk, List.filter_append, List.filter_cons_of_pos (by rw [decide_eq_false c]; rfl), List.filter_nil]
        rw [e, ← List.append_assoc]
        exact PsR.append (rG.kt kt) (.cons ⟨rfl, (tv.kt ktG).kt kt⟩ .nil)
    rintro σ G ⟨o3', ks2, rfl, kp, fG, rG⟩
    rw [lj, List.take_length] at rG
    refine ⟨kp _ _ nuf eL, ?_⟩
    have SU2 := un G kp
    have fU2 : (upd G u (.dK jvs)) pf = some (.dK ks2) := by rw [upd_ne nuf.symm]; exact fG
    have rU2 : PsR (upd G u (.dK jvs)) ks2 (bothA ps qs ++ bothB ps qs) := rG.kq (Kq.unlock (kp _ _ nuf eL))
    exact ⟨.ref pf, rfl, q pf ks2 _ SU2 nf fU2 rU2⟩
end
end Tf

/-! stores: what is reached -/
namespace Tf
open PySem PySem.Spec PyProof.Rows L2 PySem.W
abbrev sRin : Stmt := top 31
theorem scRin : FnScope ["things", "thing", "known", "waiting", "at", "kind", "end"] ["things", "thing"] (defScope sRin) := ⟨rfl, rfl, rfl, by decide +kernel, rfl, by decide +kernel, by decide +kernel⟩
/-- y is reached from z by links -/
inductive Rch (ps : Ps) (z : Str) : Str → Prop
  | here : Rch ps z z
  | next {x y k : Str} : Rch ps z x → (k, y) ∈ (getP ps x).2.items → Rch ps z y
/-- links lead to things -/
def Cls1 (ps : Ps) : Prop := ∀ p ∈ ps, ∀ e ∈ p.2.2.items, e.2 ∈ ps.map (·.1)
def spRin : Sp := fun vs H Q _ => ∃ (t : Addr) (kvs : List (Key × V)) (ps : Ps) (z : Str), vs = [.ref t, .str z] ∧ H t = some (.dK kvs) ∧ PsR H kvs ps ∧ (ps.map (·.1)).Nodup ∧ z ∈ ps.map (·.1) ∧ Cls1 ps ∧ ps.length ≤ 60 ∧
  ∀ (p : Addr) (ws : List Str) (H' : Hp), Same H H' → H p = none → H' p = some (.lst (ws.map V.str)) → ws.Nodup → (∀ x, x ∈ ws ↔ Rch ps z x) → (∀ x ∈ ws, x ∈ ps.map (·.1)) → Q (.ref p) H'
/-- what has been met so far -/
structure Met (ps : Ps) (z : Str) (ws : List Str) (n : Nat) : Prop where
  nd : ws.Nodup
  z0 : z ∈ ws
  rc : ∀ x ∈ ws, Rch ps z x
  nm : ∀ x ∈ ws, x ∈ ps.map (·.1)
  cl : ∀ x ∈ ws.take n, ∀ e ∈ (getP ps x).2.items, e.2 ∈ ws
theorem Met.all {ps : Ps} {z : Str} {ws : List Str} (m : Met ps z ws ws.length) {x : Str} (h : Rch ps z x) : x ∈ ws := by
  induction h with
  | here => exact m.z0
  | next _ hl ih => exact m.cl _ (by rw [List.take_length]; exact ih) _ hl
theorem Met.len {ps : Ps} {z : Str} {ws : List Str} {n : Nat} (m : Met ps z ws n) : ws.length ≤ ps.length := by
  have := nodup_le m.nd m.nm
  rw [List.length_map] at this
  exact this
section
variable {P : Program} {w : World} {K : PySem.W.Frag} {mg : Str → Option Value} {base : Heap}
theorem ok_rin {f : Addr} {fd : FuncData} {k : Nat} (F : Fun K "reached_in" "reached_in" sRin f fd) (mN : mg "len" = none) : FnOk P w K mg base CX0 (k + 1) f fd ["things", "thing"] spRin := by
  refine F.ok scRin (fun vs H Q E h => ?_) (fun cdv A outer s H vs Q E hr h => ?_)
  · obtain ⟨t, kvs, ps, z, rfl, _⟩ := h
    rfl
  · obtain ⟨t, kvs, ps, z, rfl, ht, hps, nd, mz, cl1, lp, q⟩ := h
    have hu : (A.deeper (envOfC "reached_in" (defScope sRin) s.heap.objs.size f cdv)).units + 1 < cLine := by have := hr.un; omega
    refine ⟨_, pss_cons (ps_par3 (i := 2) (j := 3) (l := 4) (by rfl) scRin.nd rfl rfl rfl (by decide) (by decide) (by decide) rfl rfl rfl (pa_cons (pe_disp (pps_cons (pv 1) pe_bl pps_nil) (by rfl) (by rfl) (fun z => by cases z) (by decide)) (pa_cons (pe_lst (pa_cons (pv 1) pa_nil)) (pa_cons pe_int pa_nil))) (by rfl))
      (pss_cons (ps_while PassesOwn.never (pt_cmpR op_lt (pv 4) (pe_callB call_lenS (by rfl) mN PySem.boot_len (pa_cons (pv 3) pa_nil)) (nomark _))
        (pss_cons (ps_for PassesOwn.never rfl (pi_tup (pe_ix ix_tup (pe_dget hu (pv 0) (pe_ix ix_list (pv 3) (pv 4) (fun _ _ => rfl)) (fun _ _ => rfl)) pe_int (fun _ _ => rfl))) (pg_tup (by rfl) (pgs_cons (pg_name (i := 5) scRin.nd rfl (.inl rfl)) (pgs_cons (pg_name (i := 6) scRin.nd rfl (.inl rfl)) pgs_nil)))
          (pss_one (ps_if (pt_cmp (pc_dnotin hu (pv 6) (pv 2)) (by rfl)) (pss_cons (ps_dput hu (pv 2) (pv 6) pe_bl rfl) (pss_one (ps_expr (pe_bm PySem.F.plainAttrs_list PySem.F.slot_list_append PySem.F.type_list_append mt_append (pv 3) (pa_cons (pv 6) pa_nil))))) pss_nil)))
        (pss_one (ps_aug (i := 4) scRin.nd rfl (.inl rfl) pe_int ip_add))))
      (pss_one (ps_ret (pv 3)))), ?_⟩
    intro pd npd
    have e1 : (upd H pd (.dK [])) pd = some (.dK []) := upd_same
    have s1 : Same H (upd H pd (.dK [])) := same_new npd
    generalize upd H pd (.dK []) = H1 at *
    refine ⟨.str z, rfl, e1, [(Sum.inr z, .bl true)], rfl, by show 1 ≤ 15; decide, ?_⟩
    have em : mergeK [] [((Sum.inr z : Key), V.bl true)] = [z].map keyT := rfl
    rw [em]
    have s2 : Same H (upd H1 pd (.dK ([z].map keyT))) := s1.mut npd
    have e2 : (upd H1 pd (.dK ([z].map keyT))) pd = some (.dK ([z].map keyT)) := upd_same
    generalize upd H1 pd (.dK ([z].map keyT)) = H2 at s2 e2 ⊢
    refine ⟨.str z, rfl, by show 1 ≤ sizeLine; decide, fun pw npw => ?_⟩
    have nwH : H pw = none := s2.free npw
    have ndw : pd ≠ pw := ne_of_none e2 npw
    have e3 : (upd H2 pw (.lst [.str z])) pw = some (.lst [.str z]) := upd_same
    have s3 : Same H2 (upd H2 pw (.lst [.str z])) := same_new npw
    generalize upd H2 pw (.lst [.str z]) = H3 at *
    refine ⟨_, _, _, rfl, ?_⟩
    refine ⟨fun m σ G => ∃ (ws : List Str) (n : Nat) (o5 o6 : Option V), m = ps.length - n ∧ n ≤ ws.length ∧ σ = [some (.ref t), some (.str z), some (.ref pd), some (.ref pw), some (.int (n : Int)), o5, o6] ∧ (∀ b o, H b = some o → G b = some o) ∧ G pd = some (.dK (ws.map keyT)) ∧ G pw = some (.lst (ws.map V.str)) ∧ Met ps z ws n,
      ⟨_, [z], 0, none, none, rfl, Nat.zero_le _, rfl, fun b o e => s3 _ _ (s2 _ _ e), s3 _ _ e2, e3, ⟨by simp, List.mem_singleton.mpr rfl, fun x hx => by rw [List.mem_singleton.mp hx]; exact .here, fun x hx => by rw [List.mem_singleton.mp hx]; exact mz, fun x hx => by cases hx⟩⟩, ?_⟩
    rintro m σ G ⟨ws, n, o5, o6, rfl, ln, rfl, kp, gd, gw, mt⟩
    have lw := mt.len
    refine ⟨_, rfl, .ref pw, rfl, pw, _, rfl, .inl (lst_of gw), _, _, rfl, rfl, _, rfl, ?_⟩
    rw [List.length_map]
    by_cases c : n < ws.length
    · rw [decide_eq_true (show (n : Int) < (ws.length : Int) by omega)]
      refine iteT ⟨fun σ' G' => ∃ (ws' : List Str) (o5 o6 : Option V), n + 1 ≤ ws'.length ∧ σ' = [some (.ref t), some (.str z), some (.ref pd), some (.ref pw), some (.int ((n + 1 : Nat) : Int)), o5, o6] ∧ (∀ b o, H b = some o → G' b = some o) ∧ G' pd = some (.dK (ws'.map keyT)) ∧ G' pw = some (.lst (ws'.map V.str)) ∧ Met ps z ws' (n + 1), fun σ' G' ⟨ws', p5, p6, l', e, k', d', w', m'⟩ => ⟨ps.length - (n + 1), by omega, ws', n + 1, p5, p6, rfl, l', e, k', d', w', m'⟩, ?_⟩
      have mx : ws[n] ∈ ps.map (·.1) := mt.nm _ (List.getElem_mem c)
      obtain ⟨v, hv, tv, mv⟩ := hps.get nd mx
      obtain ⟨b, u1, u2, rfl, hb, t1, t2⟩ := tv.pair
      obtain ⟨al, vl, rfl, hal, tl⟩ := t2.tup
      obtain ⟨zl, rfl, el, tz⟩ := Tts.refs tl
      refine ⟨.ref t, rfl, .ref pw, rfl, _, rfl, pw, _, _, .str ws[n], rfl, rfl, lst_of gw, at_of (j := n) rfl (by rw [List.getElem?_map, List.getElem?_eq_getElem c]; rfl), t, .ref b, rfl, .inl ⟨kvs, Sum.inr ws[n], .inl (kp _ _ ht), rfl, by rw [hv]⟩, b, _, 1, .ref al, rfl, rfl, tup_of (kp _ _ hb), rfl, al, rfl, ⟨_, tup_of (kp _ _ hal)⟩, ?_⟩
      refine for_it (walk_tup (xs := zl.map fun z => V.ref z.1)) (fun i σ G => ∃ (more : List Str) (o5 o6 : Option V), σ = [some (.ref t), some (.str z), some (.ref pd), some (.ref pw), some (.int (n : Int)), o5, o6] ∧ (∀ b o, H b = some o → G b = some o) ∧ G pd = some (.dK ((ws ++ more).map keyT)) ∧ G pw = some (.lst ((ws ++ more).map V.str)) ∧ Met ps z (ws ++ more) n ∧ ∀ e ∈ (zl.take i).map (·.2), e.2 ∈ ws ++ more)
        ⟨[], _, _, rfl, kp, by rw [List.append_nil]; exact gd, by rw [List.append_nil]; exact gw, by rw [List.append_nil]; exact mt, fun e he => by cases he⟩ (fun i σ G _ ⟨_, _, _, _, k', _⟩ => tup_of (k' _ _ hal)) ?_ ?_
      · rintro i x σ G1 G2 hi ⟨more, p5, p6, rfl, k', d', w', m', c'⟩ ⟨rfl, ex⟩
        rw [List.length_map] at hi
        rw [List.getElem?_map, List.getElem?_eq_getElem hi] at ex
        have ex' : V.ref zl[i].1 = x := Option.some.inj ex
        subst ex'
        generalize he : zl[i] = e at *
        have me : e ∈ zl := by rw [← he]; exact List.getElem_mem hi
        have mel : e.2 ∈ (getP ps ws[n]).2.items := by rw [el]; exact List.mem_map.mpr ⟨e, me, rfl⟩
        have tk : zl.take (i + 1) = zl.take i ++ [e] := by rw [List.take_add_one, List.getElem?_eq_getElem hi, he]; rfl
        obtain ⟨cc, x1, x2, ec, hc, y1, y2⟩ := (tz e me).pair
        have ec' : e.1 = cc := by injection ec
        subst ec'
        rw [y1.str, y2.str] at hc
        refine ⟨e.1, _, rfl, tup_of (k' _ _ hc), rfl, _, _, rfl, _, _, rfl, rfl, ?_⟩
        refine ⟨.str e.2.2, rfl, .ref pd, rfl, pd, _, rfl, .inl ⟨_, Sum.inr e.2.2, .inl d', rfl, rfl⟩, _, rfl, ?_⟩
        have hv' : (valV ((ws ++ more).map keyT) (Sum.inr e.2.2)).isSome = decide (e.2.2 ∈ ws ++ more) := by
          rw [← valV_any, List.any_map]
          by_cases h : e.2.2 ∈ ws ++ more
          · rw [decide_eq_true h]
            exact List.any_eq_true.mpr ⟨_, h, decide_eq_true rfl⟩
          · rw [decide_eq_false h]
            refine List.any_eq_false.mpr fun y hy q' => h ?_
            have z' : (Sum.inr y : Key) = Sum.inr e.2.2 := of_decide_eq_true q'
            rw [← Sum.inr.inj z']
            exact hy
        rw [hv']
        by_cases h : e.2.2 ∈ ws ++ more
        · rw [decide_eq_true h]
          refine iteF ⟨more, _, _, rfl, k', d', w', m', fun e' he' => ?_⟩
          rw [tk, List.map_append, List.mem_append] at he'
          rcases he' with he' | he'
          · exact c' e' he'
          · rw [List.mem_singleton.mp he']
            exact h
        · rw [decide_eq_false h]
          refine iteT ?_
          have lm := m'.len
          refine ⟨.ref pd, rfl, .str e.2.2, rfl, pd, _, rfl, DPut.k (k := Sum.inr e.2.2) d' (by rw [List.length_map]; exact small1000 (by omega)), ?_⟩
          rw [put_keyT, if_neg h]
          refine ⟨.ref pw, rfl, .inl ⟨rfl, _, lst_of (by rw [upd_ne ndw.symm]; exact w')⟩, .str e.2.2, rfl, pw, _, _, rfl, rfl, by rw [upd_ne ndw.symm]; exact w', by rw [List.length_map]; exact small1000 (by omega), ?_⟩
          have rx : Rch ps z e.2.2 := .next (k := e.2.1) (mt.rc _ (List.getElem_mem c)) mel
          have mx2 : e.2.2 ∈ ps.map (·.1) := cl1 _ mv e.2 mel
          refine ⟨more ++ [e.2.2], _, _, rfl, fun b' o e' => ?_, ?_, ?_, ?_, fun e' he' => ?_⟩
          · rw [upd_ne (ne_of_none e' nwH), upd_ne (ne_of_none e' npd)]
            exact k' _ _ e'
          · rw [upd_ne ndw, upd_same, List.append_assoc]
          · rw [upd_same]
            simp only [List.map_append, List.append_assoc, List.map_cons, List.map_nil]
          · rw [← List.append_assoc]
            refine ⟨?_, List.mem_append_left _ m'.z0, fun x hx => ?_, fun x hx => ?_, fun x hx l hl => ?_⟩
            · rw [List.nodup_append]
              refine ⟨m'.nd, by simp, fun a' ha' b' hb' e' => h ?_⟩
              have hb2 : b' = e.2.2 := by simpa using hb'
              rw [← hb2, ← e']
              exact ha'
            · rcases List.mem_append.mp hx with hx | hx
              · exact m'.rc x hx
              · rw [List.mem_singleton.mp hx]
                exact rx
            · rcases List.mem_append.mp hx with hx | hx
              · exact m'.nm x hx
              · rw [List.mem_singleton.mp hx]
                exact mx2
            · refine List.mem_append_left _ (m'.cl x ?_ l hl)
              rw [List.take_append_of_le_length (by rw [List.length_append]; omega)] at hx
              exact hx
          · rw [← List.append_assoc]
            rw [tk, List.map_append, List.mem_append] at he'
            rcases he' with he' | he'
            · exact List.mem_append_left _ (c' e' he')
            · rw [List.mem_singleton.mp he']
              exact List.mem_append_right _ (List.mem_singleton.mpr rfl)
      · rintro σ G1 ⟨more, p5, p6, rfl, k', d', w', m', c'⟩
        rw [List.length_map, List.take_length] at c'
        refine ⟨_, rfl, _, _, rfl, rfl, ws ++ more, p5, p6, by rw [List.length_append]; omega, ?_, k', d', w', ⟨m'.nd, m'.z0, m'.rc, m'.nm, fun x hx l hl => ?_⟩⟩
        · rw [Int.natCast_add]
          rfl
        · have tk : (ws ++ more).take (n + 1) = (ws ++ more).take n ++ [ws[n]] := by
            rw [List.take_add_one, List.getElem?_append_left c, List.getElem?_eq_getElem c]
            rfl
          rw [tk, List.mem_append] at hx
          rcases hx with hx | hx
          · exact m'.cl x hx l hl
          · rw [List.mem_singleton.mp hx] at hl
            rw [el] at hl
            exact c' l hl
    · rw [decide_eq_false (show ¬ (n : Int) < (ws.length : Int) by omega)]
      have en : n = ws.length := by omega
      subst en
      exact iteF ⟨.ref pw, rfl, q pw ws G kp nwH gw mt.nd (fun x => ⟨mt.rc x, mt.all⟩) mt.nm⟩
end
end Tf

/-! stores: reached, require_mark -/
namespace Tf
open PySem PySem.Spec PyProof.Rows L2 PySem.W
abbrev sRea : Stmt := inClass sStore 17
abbrev sRm : Stmt := top 15
abbrev nRea : List Str := ["self", "thing", "one"]
theorem scRea : FnScope nRea ["self", "thing"] (defScope sRea) := ⟨rfl, rfl, rfl, by decide +kernel, rfl, by decide +kernel, by decide +kernel⟩
theorem scRm : FnScope ["language", "mark"] ["language", "mark"] (defScope sRm) := ⟨rfl, rfl, rfl, by decide +kernel, rfl, by decide +kernel, by decide +kernel⟩
def onlyP (ps : Ps) (ws : List Str) : Ps := ws.map fun x => (x, getP ps x)
theorem onlyP_names (ps : Ps) (ws : List Str) : (onlyP ps ws).map (·.1) = ws := by
  unfold onlyP
  rw [List.map_map]
  exact List.map_id' _
def spRea (CL C CM : Addr) : Sp := fun vs H Q _ => ∃ (a la t : Addr) (ms ks : List Str) (ps : Ps) (z : Str), vs = [.ref a, .str z] ∧ StoreAt CL C H a la t ms ks ps ∧ z ∈ ps.map (·.1) ∧ (ps.map (·.1)).Nodup ∧ Cls1 ps ∧ ps.length ≤ 60 ∧
  ∀ (b t' : Addr) (ws : List Str) (H' : Hp), Same H H' → H b = none → H t' = none → ws.Nodup → (∀ x, x ∈ ws ↔ Rch ps z x) → (∀ x ∈ ws, x ∈ ps.map (·.1)) → StoreAt CL CM H' b la t' ms ks (sortS (onlyP ps ws)) → Q (.ref b) H'
def spRm (CL : Addr) : Sp := fun vs H Q _ => ∃ (la : Addr) (ms ks : List Str) (y : Str), vs = [.ref la, .str y] ∧ LangAt CL H la ms ks ∧ y ∈ ms ∧ Q .non H
section
variable {P : Program} {w : World} {K : PySem.W.Frag} {mg : Str → Option Value} {base : Heap}
theorem ok_rm {f CL : Addr} {fd : FuncData} {k : Nat} (F : Fun K "require_mark" "require_mark" sRm f fd) (L : LCls K CL) (PM : PpN P w K mg base k CL "marks" (spLmk CL true)) : FnOk P w K mg base CX0 (k + 2) f fd ["language", "mark"] (spRm CL) := by
  refine F.ok scRm (fun vs H Q E h => ?_) (fun cdv A outer s H vs Q E hr h => ?_)
  · obtain ⟨la, ms, ks, y, rfl, _⟩ := h
    rfl
  · obtain ⟨la, ms, ks, y, rfl, hL, m, q⟩ := h
    refine ⟨_, pss_one (ps_if (pt_cmpR op_notIn_seq (pv 1) (pe_ppn L.cl PM hr (pv 0)) (by rfl)) (pss_one ps_off) pss_nil), ?_⟩
    have hL' := hL
    obtain ⟨dx, fs, pm, pk, h1, _⟩ := hL'
    refine ⟨_, rfl, .ref la, rfl, la, dx, fs, rfl, h1, la, ms, ks, rfl, hL, fun p hp => ⟨p, _, rfl, .inr (tup_of hp), rfl, flat_strs _, ?_⟩⟩
    rw [if_pos rfl, if_pos rfl, inV_strs, decide_eq_true m]
    exact ⟨false, rfl, iteF q⟩
theorem ok_rea {f CL C CM : Addr} {fd : FuncData} {k : Nat} (F : Fun K "reached" "Store.reached" sRea f fd) (L : SCls K C) (GT : CdN P w K mg base k "require_thing" ["store", "thing"] (spRt CL C)) (GR : CdN P w K mg base k "reached_in" ["things", "thing"] spRin) (GI : CdN P w K mg base k "store_in" ["language", "things"] (spSi CL CM)) : FnOk P w K mg base CX0 (k + 1) f fd ["self", "thing"] (spRea CL C CM) := by
  refine F.ok scRea (fun vs H Q E h => ?_) (fun cdv A outer s H vs Q E hr h => ?_)
  · obtain ⟨a, la, t, ms, ks, ps, z, rfl, _⟩ := h
    rfl
  · obtain ⟨a, la, t, ms, ks, ps, z, rfl, st, mz, nd, cl1, lp, q⟩ := h
    have hu : (A.deeper (envOfC "Store.reached" (defScope sRea) s.heap.objs.size f cdv)).units + 1 < cLine := by have := hr.un; omega
    refine ⟨_, pss_cons (ps_expr (pe_cdn GT hr (pa_cons (pv 0) (pa_cons (pv 1) pa_nil))))
      (pss_one (ps_ret (pe_cdn GI hr (pa_cons (pe_fld (pv 0) (by rfl)) (pa_cons
        (pe_dc (own := [("one", 2)]) (g := gName 2) (tt := tYes) (tk := tVar 2) (tv := tDGet (tFld K (tVar 0) "own_things") (tVar 2)) (by rfl) scRea.nd (pi_list (pe_cdn GR hr (pa_cons (pe_fld (pv 0) (by rfl)) (pa_cons (pv 1) pa_nil)))) (blkOk_by (own := [("one", 2)]) (N := nRea) (sc := defScope sRea) (by decide +kernel)) (fun _ _ _ _ _ => pg_name (i := 2) scRea.nd rfl (Or.inl rfl)) (fun _ _ _ _ _ => pts_nil) (fun _ _ _ _ _ => pv 2) (fun _ _ _ _ _ => pe_dget hu (pe_fld (pv 0) (by rfl)) (pv 2) (fun _ _ => rfl))) pa_nil))))), ?_⟩
    refine ⟨.ref a, rfl, .str z, rfl, a, la, t, ms, ks, ps, z, rfl, st, mz, ?_⟩
    obtain ⟨dx, fs, kvs, h1, h2, h3, h4, h5, h6, h7⟩ := st
    refine ⟨.ref a, rfl, a, C, dx, fs, .ref la, rfl, h1, L.cl, L.nl, h2, .ref a, rfl, a, C, dx, fs, .ref t, rfl, h1, L.cl, L.nt, h3, .str z, rfl, t, kvs, ps, z, rfl, h5, h6, nd, mz, cl1, lp, fun pw ws H1 s1 nw ew ndw rch nmw => ?_⟩
    have lw : ws.length ≤ ps.length := by
      have := nodup_le ndw nmw
      rw [List.length_map] at this
      exact this
    refine ⟨pw, rfl, ⟨_, lst_of ew⟩, fun D nD => dc_walk (walk_list (xs := ws.map V.str)) (fun i G => Same H1 G ∧ ∃ ks', G D = some (.dK ks') ∧ PsR G ks' (onlyP ps (ws.take i))) ⟨same_new nD, [], upd_same, .nil⟩ (fun i G _ p => lst_of (p.1 _ _ ew)) (fun i x G G' hi p y => ?_) fun G p => ?_⟩
    · obtain ⟨sG, ks', eD, pr⟩ := p
      obtain ⟨rfl, ex⟩ := y
      rw [List.length_map] at hi
      rw [List.getElem?_map, List.getElem?_eq_getElem hi] at ex
      have ex' : V.str ws[i] = x := Option.some.inj ex
      subst ex'
      have mx : ws[i] ∈ ps.map (·.1) := nmw _ (List.getElem_mem hi)
      obtain ⟨v, hv, tv, _⟩ := h6.get nd mx
      have SG := s1.trans sG
      have tkn : ws.take (i + 1) = ws.take i ++ [ws[i]] := by rw [List.take_add_one, List.getElem?_eq_getElem hi]; rfl
      refine ⟨by simp [wipe], ?_⟩
      unfold tYes
      simp only [↓reduceIte]
      have lr := Paired.length pr
      unfold onlyP at lr
      rw [List.length_map, List.length_take] at lr
      refine ⟨.str ws[i], rfl, .ref a, rfl, a, C, dx, fs, .ref t, rfl, SG _ _ h1, L.cl, L.nt, h3, .str ws[i], rfl, t, v, rfl, .inl ⟨kvs, Sum.inr ws[i], .inl (SG _ _ h5), rfl, by rw [hv]⟩, ks', Sum.inr ws[i], rfl, eD, small1000 (by omega), sG.mut nD, _, upd_same, ?_⟩
      have miss : valV ks' (Sum.inr ws[i]) = none := pr.miss (by
        rw [onlyP_names]
        intro hm'
        obtain ⟨j, hj, e⟩ := List.getElem_of_mem hm'
        rw [List.getElem_take] at e
        rw [List.length_take] at hj
        have e2 := (List.getElem_inj ndw).mp e
        omega)
      rw [putK_new _ miss]
      have e : onlyP ps (ws.take (i + 1)) = onlyP ps (ws.take i) ++ [(ws[i], getP ps ws[i])] := by
        unfold onlyP
        rw [tkn, List.map_append]
        rfl
      rw [e]
      have kt : Kt G' (upd G' D (.dK (ks' ++ [(Sum.inr ws[i], v)]))) := kt_dk eD
      exact PsR.append (pr.kt kt) (.cons ⟨rfl, (tv.kq SG.kq).kt kt⟩ .nil)
    obtain ⟨sG, ks', eD, pr⟩ := p
    rw [List.length_map, List.take_length] at pr
    have SG := s1.trans sG
    refine ⟨la, D, ms, ks, ks', onlyP ps ws, rfl, h4.kq SG.kq, eD, pr, by rw [onlyP_names]; exact ndw, by unfold onlyP; rw [List.length_map]; omega, fun b t' H' s' nb nt st' => ?_⟩
    exact q b t' ws H' (SG.trans s') (SG.free nb) (SG.free nt) ndw rch nmw st'
end
end Tf

/-! stores joined: | -/
namespace Tf
open PySem PySem.Spec PyProof.Rows L2 PySem.W
abbrev sSor : Stmt := inClass sStore 18
theorem scSor : FnScope ["self", "other"] ["self", "other"] (defScope sSor) := ⟨rfl, rfl, rfl, by decide +kernel, rfl, by decide +kernel, by decide +kernel⟩
theorem bothP_nd {ps qs : Ps} (np : (ps.map (·.1)).Nodup) (nq : (qs.map (·.1)).Nodup) : ((bothP ps qs).map (·.1)).Nodup := by
  rw [bothP_is, List.map_append, bothA_names, List.nodup_append]
  refine ⟨np, ?_, fun a ha b hb e => ?_⟩
  · unfold bothB
    exact List.Pairwise.sublist (List.filter_sublist.map _) nq
  · obtain ⟨q, hq, rfl⟩ := List.mem_map.mp hb
    have z := (List.mem_filter.mp hq).2
    have z2 : decide (q.1 ∈ ps.map (·.1)) = true := decide_eq_true (by rw [← e]; exact ha)
    rw [z2] at z
    cases z
theorem bothP_len (ps qs : Ps) : (bothP ps qs).length ≤ ps.length + qs.length := by
  rw [bothP_is, List.length_append]
  unfold bothA bothB
  rw [List.length_map]
  have := List.length_filter_le (fun q : Str × Pr => !decide (q.1 ∈ ps.map (·.1))) qs
  omega
def spSor (CL C D CM : Addr) : Sp := fun vs H Q _ => ∃ (a la t b lb u : Addr) (ms ks : List Str) (ps qs : Ps), vs = [.ref a, .ref b] ∧ StoreAt CL C H a la t ms ks ps ∧ StoreAt CL D H b lb u ms ks qs ∧ (ps.map (·.1)).Nodup ∧ (qs.map (·.1)).Nodup ∧ ps.length + qs.length ≤ 60 ∧ Jn ps qs ∧
  ∀ (x t' : Addr) (H' : Hp), Same H H' → H x = none → H t' = none → StoreAt CL CM H' x la t' ms ks (sortS (bothP ps qs)) → Q (.ref x) H'
section
variable {P : Program} {w : World} {K : PySem.W.Frag} {mg : Str → Option Value} {base : Heap}
theorem ok_sor {f CL CS C D CM : Addr} {fd : FuncData} {k : Nat} (F : Fun K "__or__" "Store.__or__" sSor f fd) (L : SCls K C) (LD : SCls K D) (I : SIs K CS D) (EL : OwN P w K mg base k CL "__eq__" (spLeq K CL)) (NL : NeO K CL) (nLL : PySem.W.notFirst K CL (.ref CL) = true) (GJ : CdN P w K mg base (k + 1) "joined_things" ["things", "others"] spJt) (GI : CdN P w K mg base (k + 1) "store_in" ["language", "things"] (spSi CL CM)) (gS : mg "Store" = some (.ref CS)) (mI : mg "isinstance" = none) : FnOk P w K mg base CX0 (k + 2) f fd ["self", "other"] (spSor CL C D CM) := by
  refine F.ok scSor (fun vs H Q E h => ?_) (fun cdv A outer s H vs Q E hr h => ?_)
  · obtain ⟨a, la, t, b, lb, u, ms, ks, ps, qs, rfl, _⟩ := h
    rfl
  · obtain ⟨a, la, t, b, lb, u, ms, ks, ps, qs, rfl, st, su, np, nq, ll, jn, q⟩ := h
    refine ⟨_, pss_cons (ps_if (PW.pt (pw_or (pt_not (pt_val (pe_callB call_isi (by rfl) mI (by decide +kernel) (pa_cons (pv 1) (pa_cons (pe_glob (v := .ref CS) rfl gS rfl) pa_nil))))) (pw_or1 (pt_cmpR (op_neN EL NL.ne NL.mo hr) (pe_fld (pv 0) (by rfl)) (pe_fld (pv 1) (by rfl)) (nomark _))))) (pss_one ps_off) pss_nil)
      (pss_one (ps_ret (pe_cdn GI hr (pa_cons (pe_fld (pv 0) (by rfl)) (pa_cons (pe_cdn GJ hr (pa_cons (pe_fld (pv 0) (by rfl)) (pa_cons (pe_fld (pv 1) (by rfl)) pa_nil))) pa_nil))))), ?_⟩
    obtain ⟨dx, fs, kvs, h1, h2, h3, h4, h5, h6, h7⟩ := st
    obtain ⟨dy, gs, jvs, g1, g2, g3, g4, g5, g6, g7⟩ := su
    refine ⟨.ref b, rfl, .ref b, .ref CS, .ref D, .ref CS, true, rfl, .own CS, .base (.ins g1 LD.cl I.ha I.hn I.ht I.hm), I.me, true, rfl, iteF ?_⟩
    have hLa := h4
    obtain ⟨dl, fl, pm, pk, l1, _⟩ := h4
    have hLb := g4
    obtain ⟨dl', fl', pm', pk', l1', _⟩ := g4
    refine ⟨.ref a, rfl, a, C, dx, fs, .ref la, rfl, h1, L.cl, L.nl, h2, .ref b, rfl, b, D, dy, gs, .ref lb, rfl, g1, LD.cl, LD.nl, g2, la, dl, fl, .ref CL, rfl, l1, TyL.ins l1', nLL, la, .ref lb, ms, ks, rfl, hLa, .inr ⟨lb, ms, ks, rfl, hLb, _, rfl, _, rfl, ?_⟩⟩
    rw [if_pos rfl, decide_eq_true rfl, decide_eq_true rfl]
    refine iteF ?_
    refine ⟨.ref a, rfl, a, C, dx, fs, .ref la, rfl, h1, L.cl, L.nl, h2, .ref a, rfl, a, C, dx, fs, .ref t, rfl, h1, L.cl, L.nt, h3, .ref b, rfl, b, D, dy, gs, .ref u, rfl, g1, LD.cl, LD.nt, g3, t, u, kvs, jvs, ps, qs, rfl, h5, g5, h6, g6, np, nq, by omega, by omega, jn, fun p ks' H1 s1 n1 e1 r1 => ?_⟩
    refine ⟨la, p, ms, ks, ks', bothP ps qs, rfl, hLa.kq s1.kq, e1, r1, bothP_nd np nq, by have := bothP_len ps qs; omega, fun x t' H' s' nx nt st' => ?_⟩
    exact q x t' H' (s1.trans s') (s1.free nx) (s1.free nt) st'
end
end Tf

/-! stores changed: with_thing, with_marks -/
namespace Tf
open PySem PySem.Spec PyProof.Rows L2 PySem.W
abbrev sWt : Stmt := inClass sStore 9
abbrev sWm : Stmt := inClass sStore 10
theorem scWt : FnScope ["self", "name", "marks", "mark"] ((["self", "name"] : List Str) ++ [("marks" : Str)]) (defScope sWt) := ⟨rfl, rfl, rfl, by decide +kernel, rfl, by decide +kernel, by decide +kernel⟩
theorem scWm : FnScope ["self", "thing", "marks", "mark"] ((["self", "thing"] : List Str) ++ [("marks" : Str)]) (defScope sWm) := ⟨rfl, rfl, rfl, by decide +kernel, rfl, by decide +kernel, by decide +kernel⟩
def spWtB (CL C CM : Addr) : Sp := fun vs H Q _ => ∃ (a la t pm : Addr) (ms ks zs : List Str) (ps : Ps) (z : Str), vs = [.ref a, .str z, .ref pm] ∧ StoreAt CL C H a la t ms ks ps ∧ H pm = some (.tup (zs.map V.str)) ∧ (∀ x ∈ zs, x ∈ ms) ∧ zs.length ≤ 60 ∧ nameB z = true ∧ z ∉ ps.map (·.1) ∧ (ps.map (·.1)).Nodup ∧ ps.length ≤ 61 ∧
  ∀ (x t' : Addr) (H' : Hp), Same H H' → H x = none → H t' = none → StoreAt CL CM H' x la t' ms ks (sortS (setP ps z (⟨canon zs⟩, ⟨setO []⟩))) → Q (.ref x) H'
def spWt (CL C CM : Addr) : Sp := fun vs H Q _ => ∃ (a la t : Addr) (ms ks zs : List Str) (ps : Ps) (z : Str), vs = [.ref a, .str z] ++ zs.map V.str ∧ StoreAt CL C H a la t ms ks ps ∧ (∀ x ∈ zs, x ∈ ms) ∧ zs.length ≤ 60 ∧ nameB z = true ∧ z ∉ ps.map (·.1) ∧ (ps.map (·.1)).Nodup ∧ ps.length ≤ 61 ∧
  ∀ (x t' : Addr) (H' : Hp), Same H H' → H x = none → H t' = none → StoreAt CL CM H' x la t' ms ks (sortS (setP ps z (⟨canon zs⟩, ⟨setO []⟩))) → Q (.ref x) H'
section
variable {P : Program} {w : World} {K : PySem.W.Frag} {mg : Str → Option Value} {base : Heap}
theorem body_wt {f CL C CM : Addr} {k : Nat} (L : SCls K C) (GN : CdN P w K mg base k "is_name" ["value"] (spName K)) (GM : CdN P w K mg base k "require_mark" ["language", "mark"] (spRm CL)) (GW : MtN P w K mg base k C "with_pair" ["self", "thing", "marks", "links"] (spWp CL C CM))
    (cdv : Value) (A : Around) (outer : List Env) (s : Shared) (H : Hp) (vs : List V) (Q : VK) (E : XK) (hr : Room k (A.deeper (envOfC "Store.with_thing" (defScope sWt) s.heap.objs.size f cdv))) (h : spWtB CL C CM vs H Q E) :
    ∃ t, PSs (cxOf CX0 P w K mg base ["self", "name", "marks", "mark"] "Store.with_thing" (defScope sWt) f cdv A outer s H E).nox (defBody sWt) t ∧ t { nx := fun _ H' => Q .non H', rt := Q } (start ["self", "name", "marks", "mark"] vs) H := by
  obtain ⟨a, la, t, pm, ms, ks, zs, ps, z, rfl, st, hm, sub, lz, nz, off, nd, lp, q⟩ := h
  have hu : (A.deeper (envOfC "Store.with_thing" (defScope sWt) s.heap.objs.size f cdv)).units + 1 < cLine := by have := hr.un; omega
  refine ⟨_, pss_cons (ps_if (PW.pt (pw_or (pt_not (pt_val (pe_cdn GN hr (pa_cons (pv 1) pa_nil)))) (pw_or1 (pt_cmp (pc_din hu (pv 1) (pe_fld (pv 0) (by rfl))) (by rfl))))) (pss_one ps_off) pss_nil)
    (pss_cons (ps_for PassesOwn.never rfl (pi_tup (pv 2)) (pg_name (i := 3) scWt.nd rfl (Or.inl rfl)) (pss_one (ps_expr (pe_cdn GM hr (pa_cons (pe_fld (pv 0) (by rfl)) (pa_cons (pv 3) pa_nil))))))
    (pss_one (ps_ret (pe_mtn L.cl GW hr (pv 0) (pa_cons (pv 1) (pa_cons (pv 2) (pa_cons (pe_tup pa_nil) pa_nil))))))), ?_⟩
  refine ⟨.str z, rfl, _, rfl, .inl ⟨z, rfl, ?_⟩, .inl ⟨z, rfl⟩, fun H1 s1 => ?_⟩
  · have := nameB_len nz
    omega
  have ez : isN (.str z) = true := nz
  rw [ez]
  refine ⟨true, rfl, iteF ?_⟩
  have st1 := st.same s1
  have st1' := st1
  obtain ⟨dx, fs, kvs, h1, h2, h3, h4, h5, h6, h7⟩ := st1'
  refine ⟨.str z, rfl, .ref a, rfl, a, C, dx, fs, .ref t, rfl, h1, L.cl, L.nt, h3, t, _, rfl, .inl ⟨kvs, Sum.inr z, .inl h5, rfl, rfl⟩, _, rfl, ?_⟩
  rw [dk_val h6, decide_eq_false off]
  refine iteF ?_
  have hm1 := s1 _ _ hm
  refine ⟨.ref pm, rfl, pm, rfl, ⟨_, tup_of hm1⟩, for_it (walk_tup (xs := zs.map V.str)) (fun i σ G => ∃ o3 : Option V, σ = [some (.ref a), some (.str z), some (.ref pm), o3] ∧ G = H1) ⟨none, rfl, rfl⟩ (fun i σ G _ ⟨_, _, e⟩ => by rw [e]; exact tup_of hm1) ?_ ?_⟩
  · rintro i x σ G G' hi ⟨o3, rfl, rfl⟩ ⟨rfl, ex⟩
    rw [List.length_map] at hi
    rw [List.getElem?_map, List.getElem?_eq_getElem hi] at ex
    have ex' : V.str zs[i] = x := Option.some.inj ex
    subst ex'
    exact ⟨.ref a, rfl, a, C, dx, fs, .ref la, rfl, h1, L.cl, L.nl, h2, .str zs[i], rfl, la, ms, ks, zs[i], rfl, h4, sub _ (List.getElem_mem hi), _, rfl, rfl⟩
  · rintro σ G ⟨o3, rfl, rfl⟩
    refine ⟨.ref a, rfl, a, dx, fs, rfl, h1, look_none h7 (by decide +kernel), .str z, rfl, .ref pm, rfl, Nat.zero_le _, fun e1 n1 => ?_⟩
    have s2 : Same G (upd G e1 (.tup [])) := same_new n1
    refine ⟨a, la, t, pm, .ref e1, ms, ks, zs, [], ps, z, rfl, st1.same s2, s2 _ _ hm1, tt_tup upd_same .nil, lz, Nat.zero_le _, nd, lp, fun x t' H' s' nx nt st' => ?_⟩
    have S2 := s1.trans s2
    exact q x t' H' (S2.trans s') (S2.free nx) (S2.free nt) st'
theorem ok_wt {f CL C CM : Addr} {fd : FuncData} {k : Nat} (F : Fun K "with_thing" "Store.with_thing" sWt f fd) (L : SCls K C) (GN : CdN P w K mg base k "is_name" ["value"] (spName K)) (GM : CdN P w K mg base k "require_mark" ["language", "mark"] (spRm CL)) (GW : MtN P w K mg base k C "with_pair" ["self", "thing", "marks", "links"] (spWp CL C CM)) : FnR P w K mg base CX0 (k + 1) f (spWt CL C CM) := by
  obtain ⟨oc, od, kV, doc, pm, an, cdv, ct, osl, rfl, lk, hcd⟩ := F.ex
  have G := StX.fn_star (CX := CX0) (ps := ["self", "name"]) (pv := "marks") (sp := spWtB CL C CM) lk hcd scWt StX.cxUp_none (fun us rest hl => by
    match us, hl with
    | [u1, u2], _ => cases rest with
      | nil => rfl
      | cons r rs => rfl) (fun A outer s H vs Q E hr h => by
    obtain ⟨t, h1, h2⟩ := body_wt L GN GM GW cdv A outer s H vs Q E hr h
    exact ⟨t, h1.nox, h2⟩)
  intro A outer s H us vs Q E hr e0 r hs
  obtain ⟨a, la, t, ms, ks, zs, ps, z, rfl, st, sub, lz, nz, off, nd, lp, q⟩ := hs
  refine G A outer s H us _ Q E hr e0 r ⟨[.ref a, .str z], zs.map V.str, rfl, rfl, by rw [List.length_map]; exact small1k (by omega), fun p np => ?_⟩
  have s1 : Same H (upd H p (.tup (zs.map V.str))) := same_new np
  exact ⟨a, la, t, p, ms, ks, zs, ps, z, rfl, st.same s1, upd_same, sub, lz, nz, off, nd, lp, fun x t' H' s' nx nt st' => q x t' H' (s1.trans s') (s1.free nx) (s1.free nt) st'⟩
end
end Tf

/-! stores changed: with_marks -/
namespace Tf
open PySem PySem.Spec PyProof.Rows L2 PySem.W
def spWmB (CL C CM : Addr) : Sp := fun vs H Q _ => ∃ (a la t pm : Addr) (ms ks zs : List Str) (ps : Ps) (z : Str), vs = [.ref a, .str z, .ref pm] ∧ StoreAt CL C H a la t ms ks ps ∧ H pm = some (.tup (zs.map V.str)) ∧ (∀ x ∈ zs, x ∈ ms) ∧ zs.length ≤ 60 ∧ z ∈ ps.map (·.1) ∧ (ps.map (·.1)).Nodup ∧ ps.length ≤ 61 ∧ (getP ps z).2.items.length ≤ 60 ∧
  ∀ (x t' : Addr) (H' : Hp), Same H H' → H x = none → H t' = none → StoreAt CL CM H' x la t' ms ks (sortS (setP ps z (⟨canon zs⟩, ⟨setO (getP ps z).2.items⟩))) → Q (.ref x) H'
def spWm (CL C CM : Addr) : Sp := fun vs H Q _ => ∃ (a la t : Addr) (ms ks zs : List Str) (ps : Ps) (z : Str), vs = [.ref a, .str z] ++ zs.map V.str ∧ StoreAt CL C H a la t ms ks ps ∧ (∀ x ∈ zs, x ∈ ms) ∧ zs.length ≤ 60 ∧ z ∈ ps.map (·.1) ∧ (ps.map (·.1)).Nodup ∧ ps.length ≤ 61 ∧ (getP ps z).2.items.length ≤ 60 ∧
  ∀ (x t' : Addr) (H' : Hp), Same H H' → H x = none → H t' = none → StoreAt CL CM H' x la t' ms ks (sortS (setP ps z (⟨canon zs⟩, ⟨setO (getP ps z).2.items⟩))) → Q (.ref x) H'
section
variable {P : Program} {w : World} {K : PySem.W.Frag} {mg : Str → Option Value} {base : Heap}
theorem body_wm {f CL C CM : Addr} {k : Nat} (L : SCls K C) (GT : CdN P w K mg base k "require_thing" ["store", "thing"] (spRt CL C)) (GM : CdN P w K mg base k "require_mark" ["language", "mark"] (spRm CL)) (GW : MtN P w K mg base k C "with_pair" ["self", "thing", "marks", "links"] (spWp CL C CM))
    (cdv : Value) (A : Around) (outer : List Env) (s : Shared) (H : Hp) (vs : List V) (Q : VK) (E : XK) (hr : Room k (A.deeper (envOfC "Store.with_marks" (defScope sWm) s.heap.objs.size f cdv))) (h : spWmB CL C CM vs H Q E) :
    ∃ t, PSs (cxOf CX0 P w K mg base ["self", "thing", "marks", "mark"] "Store.with_marks" (defScope sWm) f cdv A outer s H E).nox (defBody sWm) t ∧ t { nx := fun _ H' => Q .non H', rt := Q } (start ["self", "thing", "marks", "mark"] vs) H := by
  obtain ⟨a, la, t, pm, ms, ks, zs, ps, z, rfl, st, hm, sub, lz, mz, nd, lp, l2, q⟩ := h
  have hu : (A.deeper (envOfC "Store.with_marks" (defScope sWm) s.heap.objs.size f cdv)).units + 1 < cLine := by have := hr.un; omega
  refine ⟨_, pss_cons (ps_expr (pe_cdn GT hr (pa_cons (pv 0) (pa_cons (pv 1) pa_nil))))
    (pss_cons (ps_for PassesOwn.never rfl (pi_tup (pv 2)) (pg_name (i := 3) scWm.nd rfl (Or.inl rfl)) (pss_one (ps_expr (pe_cdn GM hr (pa_cons (pe_fld (pv 0) (by rfl)) (pa_cons (pv 3) pa_nil))))))
    (pss_one (ps_ret (pe_mtn L.cl GW hr (pv 0) (pa_cons (pv 1) (pa_cons (pv 2) (pa_cons (pe_ix ix_tup (pe_dget hu (pe_fld (pv 0) (by rfl)) (pv 1) (fun _ _ => rfl)) pe_int (fun _ _ => rfl)) pa_nil))))))), ?_⟩
  refine ⟨.ref a, rfl, .str z, rfl, a, la, t, ms, ks, ps, z, rfl, st, mz, ?_⟩
  have st' := st
  obtain ⟨dx, fs, kvs, h1, h2, h3, h4, h5, h6, h7⟩ := st'
  refine ⟨.ref pm, rfl, pm, rfl, ⟨_, tup_of hm⟩, for_it (walk_tup (xs := zs.map V.str)) (fun i σ G => ∃ o3 : Option V, σ = [some (.ref a), some (.str z), some (.ref pm), o3] ∧ G = H) ⟨none, rfl, rfl⟩ (fun i σ G _ ⟨_, _, e⟩ => by rw [e]; exact tup_of hm) ?_ ?_⟩
  · rintro i x σ G G' hi ⟨o3, rfl, eG⟩ ⟨rfl, ex⟩
    subst eG
    rw [List.length_map] at hi
    rw [List.getElem?_map, List.getElem?_eq_getElem hi] at ex
    have ex' : V.str zs[i] = x := Option.some.inj ex
    subst ex'
    exact ⟨.ref a, rfl, a, C, dx, fs, .ref la, rfl, h1, L.cl, L.nl, h2, .str zs[i], rfl, la, ms, ks, zs[i], rfl, h4, sub _ (List.getElem_mem hi), _, rfl, rfl⟩
  · rintro σ G ⟨o3, rfl, eG⟩
    subst eG
    obtain ⟨v, hv, tv, _⟩ := h6.get nd mz
    obtain ⟨b, u1, u2, rfl, hb, t1, t2⟩ := tv.pair
    refine ⟨.ref a, rfl, a, dx, fs, rfl, h1, look_none h7 (by decide +kernel), .str z, rfl, .ref pm, rfl, .ref a, rfl, a, C, dx, fs, .ref t, rfl, h1, L.cl, L.nt, h3, .str z, rfl, t, .ref b, rfl, .inl ⟨kvs, Sum.inr z, .inl h5, rfl, by rw [hv]⟩, b, _, 1, u2, rfl, rfl, tup_of hb, rfl, ?_⟩
    exact ⟨a, la, t, pm, u2, ms, ks, zs, (getP ps z).2.items, ps, z, rfl, st, hm, t2, lz, l2, nd, lp, fun x t' H' s' nx nt st' => q x t' H' s' nx nt st'⟩
theorem ok_wm {f CL C CM : Addr} {fd : FuncData} {k : Nat} (F : Fun K "with_marks" "Store.with_marks" sWm f fd) (L : SCls K C) (GT : CdN P w K mg base k "require_thing" ["store", "thing"] (spRt CL C)) (GM : CdN P w K mg base k "require_mark" ["language", "mark"] (spRm CL)) (GW : MtN P w K mg base k C "with_pair" ["self", "thing", "marks", "links"] (spWp CL C CM)) : FnR P w K mg base CX0 (k + 1) f (spWm CL C CM) := by
  obtain ⟨oc, od, kV, doc, pm, an, cdv, ct, osl, rfl, lk, hcd⟩ := F.ex
  have G := StX.fn_star (CX := CX0) (ps := ["self", "thing"]) (pv := "marks") (sp := spWmB CL C CM) lk hcd scWm StX.cxUp_none (fun us rest hl => by
    match us, hl with
    | [u1, u2], _ => cases rest with
      | nil => rfl
      | cons r rs => rfl) (fun A outer s H vs Q E hr h => by
    obtain ⟨t, h1, h2⟩ := body_wm L GT GM GW cdv A outer s H vs Q E hr h
    exact ⟨t, h1.nox, h2⟩)
  intro A outer s H us vs Q E hr e0 r hs
  obtain ⟨a, la, t, ms, ks, zs, ps, z, rfl, st, sub, lz, mz, nd, lp, l2, q⟩ := hs
  refine G A outer s H us _ Q E hr e0 r ⟨[.ref a, .str z], zs.map V.str, rfl, rfl, by rw [List.length_map]; exact small1k (by omega), fun p np => ?_⟩
  have s1 : Same H (upd H p (.tup (zs.map V.str))) := same_new np
  exact ⟨a, la, t, p, ms, ks, zs, ps, z, rfl, st.same s1, upd_same, sub, lz, mz, nd, lp, l2, fun x t' H' s' nx nt st' => q x t' H' (s1.trans s') (s1.free nx) (s1.free nt) st'⟩
end
end Tf

/-! stores renamed: new_names -/
namespace Tf
open PySem PySem.Spec PyProof.Rows L2 PySem.W
abbrev sNn : Stmt := top 30
abbrev nNn : List Str := ["things", "names", "thing", "found"]
theorem scNn : FnScope nNn ["things", "names"] (defScope sNn) := ⟨rfl, rfl, rfl, by decide +kernel, rfl, by decide +kernel, by decide +kernel⟩
def kvT (ns : List (Str × Str)) : List (Key × V) := ns.map fun p => (Sum.inr p.1, .str p.2)
def nu (ns : List (Str × Str)) (x : Str) : Str := ((ns.find? fun p => decide (p.1 = x)).map (·.2)).getD x
theorem val_nu (x : Str) : ∀ ns : List (Str × Str), (valV (kvT ns) (Sum.inr x)).getD (.str x) = .str (nu ns x)
  | [] => rfl
  | p :: ns => by
    have e : kvT (p :: ns) = (Sum.inr p.1, V.str p.2) :: kvT ns := rfl
    rw [e]
    by_cases c : p.1 = x
    · rw [valV_pos (by rw [c])]
      unfold nu
      rw [List.find?_cons_of_pos (by exact decide_eq_true c)]
      rfl
    · rw [valV_neg (fun z => c (Sum.inr.inj z)), val_nu x ns]
      unfold nu
      rw [List.find?_cons_of_neg (by rw [decide_eq_true_eq]; exact c)]
theorem kvT_miss {x : Str} : ∀ {ns : List (Str × Str)}, x ∉ ns.map (·.1) → valV (kvT ns) (Sum.inr x) = none
  | [], _ => rfl
  | p :: ns, h => by
    have e : kvT (p :: ns) = (Sum.inr p.1, V.str p.2) :: kvT ns := rfl
    rw [List.map_cons, List.mem_cons, not_or] at h
    rw [e, valV_neg (fun z => h.1 (Sum.inr.inj z).symm)]
    exact kvT_miss h.2
def wholeN (ns : List (Str × Str)) (xs : List Str) : List (Str × Str) := xs.map fun x => (x, nu ns x)
theorem wholeN_keys (ns : List (Str × Str)) (xs : List Str) : (wholeN ns xs).map (·.1) = xs := by
  unfold wholeN
  rw [List.map_map]
  exact List.map_id' _
theorem whole_hit (ns : List (Str × Str)) {x : Str} : ∀ {xs : List Str}, x ∈ xs → valV (kvT (wholeN ns xs)) (Sum.inr x) = some (.str (nu ns x))
  | y :: ys, h => by
    have e : kvT (wholeN ns (y :: ys)) = (Sum.inr y, V.str (nu ns y)) :: kvT (wholeN ns ys) := rfl
    rw [e]
    by_cases c : y = x
    · rw [valV_pos (by rw [c]), c]
    · rw [valV_neg (fun z => c (Sum.inr.inj z))]
      rcases List.mem_cons.mp h with h | h
      · exact absurd h.symm c
      · exact whole_hit ns h
theorem wholeN_at (ns : List (Str × Str)) {xs : List Str} {i : Nat} (h : i < xs.length) : (kvT (wholeN ns xs))[i]? = some (Sum.inr xs[i], V.str (nu ns xs[i])) := by
  unfold kvT wholeN
  rw [List.getElem?_map, List.getElem?_map, List.getElem?_eq_getElem h]
  rfl
theorem nu_off {ns : List (Str × Str)} {xs : List Str} (nd : (xs.map (nu ns)).Nodup) {i : Nat} (h : i < xs.length) : nu ns xs[i] ∉ (xs.take i).map (nu ns) := fun hm => by
  obtain ⟨y, hy, e⟩ := List.mem_map.mp hm
  obtain ⟨j, hj, e2⟩ := List.getElem_of_mem hy
  rw [List.length_take] at hj
  rw [List.getElem_take] at e2
  have e3 : (xs.map (nu ns))[j]'(by rw [List.length_map]; omega) = (xs.map (nu ns))[i]'(by rw [List.length_map]; exact h) := by
    rw [List.getElem_map, List.getElem_map, e2]
    exact e
  have e4 := (List.getElem_inj nd).mp e3
  omega
def onesT (zs : List Str) : List (Key × V) := zs.map fun z => (Sum.inr z, .bl true)
theorem onesT_miss {x : Str} : ∀ {zs : List Str}, x ∉ zs → valV (onesT zs) (Sum.inr x) = none
  | [], _ => rfl
  | z :: zs, h => by
    have e : onesT (z :: zs) = (Sum.inr z, V.bl true) :: onesT zs := rfl
    rw [List.mem_cons, not_or] at h
    rw [e, valV_neg (fun y => h.1 (Sum.inr.inj y).symm)]
    exact onesT_miss h.2
def spNn : Sp := fun vs H Q _ => ∃ (t n : Addr) (kvs : List (Key × V)) (ps : Ps) (ns : List (Str × Str)), vs = [.ref t, .ref n] ∧ H t = some (.dK kvs) ∧ PsR H kvs ps ∧ H n = some (.dK (kvT ns)) ∧ (ps.map (·.1)).Nodup ∧ ps.length ≤ 60 ∧ ns.length ≤ 60 ∧ (∀ p ∈ ns, p.1 ∈ ps.map (·.1)) ∧ (∀ x ∈ ps.map (·.1), nameB (nu ns x) = true) ∧ ((ps.map (·.1)).map (nu ns)).Nodup ∧
  ∀ (p : Addr) (H' : Hp), Same H H' → H p = none → H' p = some (.dK (kvT (wholeN ns (ps.map (·.1))))) → Q (.ref p) H'
section
variable {P : Program} {w : World} {K : PySem.W.Frag} {mg : Str → Option Value} {base : Heap}
theorem ok_nn {f : Addr} {fd : FuncData} {k : Nat} (F : Fun K "new_names" "new_names" sNn f fd) (GN : CdN P w K mg base k "is_name" ["value"] (spName K)) (mI : mg "isinstance" = none) (mD : mg "dict" = none) (mA : mg "all" = none) (mS : mg "str" = none) (mO : mg "sorted" = none) (mL : mg "list" = none) (mN : mg "len" = none) : FnOk P w K mg base CX0 (k + 1) f fd ["things", "names"] spNn := by
  refine F.ok scNn (fun vs H Q E h => ?_) (fun cdv A outer s H vs Q E hr h => ?_)
  · obtain ⟨t, n, kvs, ps, ns, rfl, _⟩ := h
    rfl
  · obtain ⟨t, n, kvs, ps, ns, rfl, ht, hps, hn, nd, lp, ln, sub, nmb, ndn, q⟩ := h
    have hu : (A.deeper (envOfC "new_names" (defScope sNn) s.heap.objs.size f cdv)).units + 1 < cLine := by have := hr.un; omega
    refine ⟨_, pss_cons (ps_if (PW.pt (pw_or (pt_not (pt_val (pe_callB call_isi (by rfl) mI (by decide +kernel) (pa_cons (pv 1) (pa_cons (pe_bltn (v := .ty "dict") (by rfl) mD (by decide +kernel) rfl) pa_nil))))) (pw_or1 (pt_not (pt_val (pe_callB (cr_all rfl) (by rfl) mA (by decide +kernel) (pa_cons (pe_lock (pe_lc (own := [("thing", 2)]) (g := gName 2) (tt := tYes) (te := tIsa K 2 "str") (by rfl) scNn.nd (pi_keys (pv 1)) (blkOk_by (own := [("thing", 2)]) (N := nNn) (sc := defScope sNn) (by decide +kernel)) (fun _ _ _ _ _ => pg_name (i := 2) scNn.nd rfl (Or.inl rfl)) (fun _ _ _ _ _ => pts_nil) (fun _ _ _ _ _ => pe_callB call_isi (by rfl) mI (by decide +kernel) (pa_cons (pv 2) (pa_cons (pe_bltn (v := .ty "str") (by rfl) mS (by decide +kernel) rfl) pa_nil))))) pa_nil))))))) (pss_one ps_off) pss_nil)
      (pss_cons (ps_for PassesOwn.never rfl (pi_list (pe_callB cr_sortedS (by rfl) mO (by decide +kernel) (pa_cons (pe_callTy (call_list_dK rfl) (by rfl) mL (by decide +kernel) (pa_cons (pv 1) pa_nil)) pa_nil))) (pg_name (i := 2) scNn.nd rfl (Or.inl rfl)) (pss_one (ps_if (pt_cmp (pc_dnotin hu (pv 2) (pv 0)) (by rfl)) (pss_one ps_off) pss_nil)))
      (pss_cons (ps_lock (ps_set (i := 3) scNn.nd rfl (.inr rfl) (pe_dc (own := [("thing", 2)]) (g := gName 2) (tt := tYes) (tk := tVar 2) (tv := tDGet2 (tVar 1) (tVar 2) (tVar 2)) (by rfl) scNn.nd (pi_keys (pv 0)) (blkOk_by (own := [("thing", 2)]) (N := nNn) (sc := defScope sNn) (by decide +kernel)) (fun _ _ _ _ _ => pg_name (i := 2) scNn.nd rfl (Or.inl rfl)) (fun _ _ _ _ _ => pts_nil) (fun _ _ _ _ _ => pv 2) (fun _ _ _ _ _ => pe_dget2 hu (pv 1) (pv 2) (pv 2) ⟨rfl, rfl, rfl, rfl⟩))))
      (pss_cons (ps_if (pt_not (pt_val (pe_callB (cr_all rfl) (by rfl) mA (by decide +kernel) (pa_cons (pe_lock (pe_lc (own := [("thing", 2)]) (g := gName 2) (tt := tYes) (te := tCall (spName K) [] E0 (tCons (tDGet (tVar 3) (tVar 2)) tNil)) (by rfl) scNn.nd (pi_keys (pv 3)) (blkOk_by (own := [("thing", 2)]) (N := nNn) (sc := defScope sNn) (by decide +kernel)) (fun _ _ _ _ _ => pg_name (i := 2) scNn.nd rfl (Or.inl rfl)) (fun _ _ _ _ _ => pts_nil) (fun _ _ _ _ _ => pe_cdn GN hr (pa_cons (pe_dget hu (pv 3) (pv 2) (fun _ _ => rfl)) pa_nil)))) pa_nil)))) (pss_one ps_off) pss_nil)
      (pss_cons (ps_if (pt_cmpR op_lt (pe_callB call_lenD (by rfl) mN PySem.boot_len (pa_cons (pe_lock (pe_dc (own := [("thing", 2)]) (g := gName 2) (tt := tYes) (tk := tDGet (tVar 3) (tVar 2)) (tv := tC (.bl true)) (by rfl) scNn.nd (pi_keys (pv 3)) (blkOk_by (own := [("thing", 2)]) (N := nNn) (sc := defScope sNn) (by decide +kernel)) (fun _ _ _ _ _ => pg_name (i := 2) scNn.nd rfl (Or.inl rfl)) (fun _ _ _ _ _ => pts_nil) (fun _ _ _ _ _ => pe_dget hu (pv 3) (pv 2) (fun _ _ => rfl)) (fun _ _ _ _ _ => pe_bl))) pa_nil)) (pe_callB call_lenD (by rfl) mN PySem.boot_len (pa_cons (pv 3) pa_nil)) (nomark _)) (pss_one ps_off) pss_nil)
      (pss_one (ps_ret (pv 3))))))), ?_⟩
    have lk : kvs.length = ps.length := Paired.length hps
    have key : ∀ kv ∈ kvT ns, ∃ p ∈ ns, kV kv.1 = .str p.1 := fun kv hkv => by
      obtain ⟨p, hp, rfl⟩ := List.mem_map.mp hkv
      exact ⟨p, hp, rfl⟩
    have lkn : (kvT ns).length = ns.length := by unfold kvT; rw [List.length_map]
    -- a dict of texts
    refine ⟨.ref n, rfl, .ref n, .ty "dict", .type "dict", .type "dict", true, rfl, .ty _, .base (.dK hn), kit_ty (by decide +kernel), true, rfl, iteF ?_⟩
    refine ⟨n, _, hn, trivial, fun od => ⟨.ref n, rfl, n, od, rfl, .inl ⟨_, upd_same, fun D nD => ?_⟩⟩⟩
    have eL : (upd H n (.frz od (.dK (kvT ns)))) n = some (.frz od (.dK (kvT ns))) := upd_same
    have nDn : D ≠ n := fun e => by rw [e, eL] at nD; cases nD
    refine lc_map (h := fun kv : Key × V => kV kv.1) (xs := kvT ns) walk_keysY rfl (fun _ => V.bl true) nD (fun H' s' => s' _ _ eL) (by omega) (fun kv hkv H' s' Q' q' => ?_) fun H3 s3 e3 => ?_
    · obtain ⟨p, hp, e⟩ := key kv hkv
      refine ⟨_, rfl, _, .ty "str", .type "str", .type "str", true, rfl, .ty _, ?_, kit_ty (by decide +kernel), q' H' (Same.refl H')⟩
      rw [e]
      exact .base (.str _)
    refine ⟨s3 _ _ eL, ?_⟩
    have s4 : Same H (upd H3 n (.dK (kvT ns))) := Same.unlock hn s3
    have e4 : (upd H3 n (.dK (kvT ns))) D = some (.lst (((kvT ns).map fun _ => true).map V.bl)) := by
      rw [upd_ne nDn, e3, List.map_map]
      rfl
    generalize upd H3 n (.dK (kvT ns)) = H4 at s4 e4 ⊢
    refine ⟨D, (kvT ns).map fun _ => true, rfl, lst_of e4, ?_⟩
    rw [all_true]
    refine ⟨true, rfl, iteF ?_⟩
    -- of things
    refine ⟨.ref n, rfl, n, _, rfl, s4 _ _ hn, fun p5 n5 => ?_⟩
    have ek : ((kvT ns).map fun kv => kV kv.1) = (ns.map (·.1)).map V.str := by
      unfold kvT
      rw [List.map_map, List.map_map]
      rfl
    rw [ek]
    have e5 : (upd H4 p5 (.lst ((ns.map (·.1)).map V.str))) p5 = some (.lst ((ns.map (·.1)).map V.str)) := upd_same
    have s5 : Same H4 (upd H4 p5 (.lst ((ns.map (·.1)).map V.str))) := same_new n5
    generalize upd H4 p5 (.lst ((ns.map (·.1)).map V.str)) = H5 at *
    refine ⟨p5, ns.map (·.1), rfl, lst_of e5, by rw [List.length_map]; omega, fun ys p6 pm so n6 => ?_⟩
    have e6 : (upd H5 p6 (.lst (ys.map V.str))) p6 = some (.lst (ys.map V.str)) := upd_same
    have s6 : Same H5 (upd H5 p6 (.lst (ys.map V.str))) := same_new n6
    generalize upd H5 p6 (.lst (ys.map V.str)) = H6 at *
    have S6 : Same H H6 := s4.trans (s5.trans s6)
    refine ⟨p6, rfl, ⟨_, lst_of e6⟩, for_it (walk_list (xs := ys.map V.str)) (fun i σ G => ∃ o2 : Option V, σ = [some (.ref t), some (.ref n), o2, none] ∧ H6 = G) ⟨none, rfl, rfl⟩ (fun i σ G _ ⟨_, _, e⟩ => by rw [← e]; exact lst_of e6) ?_ ?_⟩
    · rintro i x σ G G' hi ⟨o2, rfl, rfl⟩ ⟨rfl, ex⟩
      rw [List.length_map] at hi
      rw [List.getElem?_map, List.getElem?_eq_getElem hi] at ex
      have ex' : V.str ys[i] = x := Option.some.inj ex
      subst ex'
      have mem : ys[i] ∈ ps.map (·.1) := by
        obtain ⟨p, hp, e⟩ := List.mem_map.mp (pm.mem_iff.mp (List.getElem_mem hi))
        rw [← e]
        exact sub p hp
      refine ⟨.str ys[i], rfl, .ref t, rfl, t, _, rfl, .inl ⟨kvs, Sum.inr ys[i], .inl (S6 _ _ ht), rfl, rfl⟩, _, rfl, ?_⟩
      rw [dk_val hps, decide_eq_true mem]
      exact iteF ⟨_, rfl, rfl⟩
    rintro σ G ⟨o2, rfl, rfl⟩
    -- the whole
    have ht6 := S6 _ _ ht
    refine ⟨t, _, ht6, trivial, fun od2 => ⟨.ref t, rfl, t, od2, rfl, .inl ⟨_, upd_same, fun D2 nD2 => ?_⟩⟩⟩
    have eL2 : (upd H6 t (.frz od2 (.dK kvs))) t = some (.frz od2 (.dK kvs)) := upd_same
    have kq2 : Kq H (upd H6 t (.frz od2 (.dK kvs))) := S6.kq.trans (Kq.lock ht6)
    have un2 : ∀ G, Same (upd H6 t (.frz od2 (.dK kvs))) G → Same H (upd G t (.dK kvs)) := fun G s' => S6.trans (Same.unlock ht6 s')
    have nDt : D2 ≠ t := fun e => by rw [e, eL2] at nD2; cases nD2
    have nD2H : H D2 = none := by
      cases c : H D2 with
      | none => rfl
      | some o =>
        exfalso
        have z := S6 _ _ c
        rw [upd_ne nDt] at nD2
        rw [z] at nD2
        cases nD2
    generalize upd H6 t (.frz od2 (.dK kvs)) = HL at nD2 eL2 kq2 un2 ⊢
    refine dc_walk walk_keysY (fun i G => Same HL G ∧ G D2 = some (.dK (kvT (wholeN ns ((ps.take i).map (·.1)))))) ⟨same_new nD2, upd_same⟩ (fun i G _ p => p.1 _ _ eL2) (fun i x G G' hi p y => ?_) fun G p => ?_
    · obtain ⟨sG, eD⟩ := p
      obtain ⟨rfl, ex⟩ := y
      rw [List.getElem?_map, List.getElem?_eq_getElem hi] at ex
      obtain ⟨p, ep, ekk, _⟩ := paired_get hps (List.getElem?_eq_getElem hi)
      have ex' : V.str p.1 = x := by
        have z : kV kvs[i].1 = x := Option.some.inj ex
        rw [ekk] at z
        exact z
      subst ex'
      have tk : ps.take (i + 1) = ps.take i ++ [p] := by rw [List.take_add_one, ep]; rfl
      have rn : Rd G' n (.dK (kvT ns)) := sG.le.dk (kq2.dk n _ (.inl hn))
      have lw : (kvT (wholeN ns ((ps.take i).map (·.1)))).length ≤ ps.length := by
        unfold kvT wholeN
        rw [List.length_map, List.length_map, List.length_map, List.length_take]
        omega
      refine ⟨by simp [wipe], ?_⟩
      unfold tYes
      simp only [↓reduceIte]
      refine ⟨.str p.1, rfl, .ref n, rfl, n, rfl, .inl ⟨_, rn⟩, .str p.1, rfl, .str p.1, rfl, _, .inl ⟨kvT ns, Sum.inr p.1, rn, rfl, rfl⟩, ?_⟩
      rw [val_nu]
      refine ⟨_, Sum.inr p.1, rfl, eD, small1000 (by omega), sG.mut nD2, ?_⟩
      rw [upd_same, putK_new _ (kvT_miss (by rw [wholeN_keys]; exact take_off nd ep)), tk, List.map_append]
      unfold kvT wholeN
      rw [List.map_append, List.map_append]
      rfl
    obtain ⟨sG, eD⟩ := p
    rw [lk, List.take_length] at eD
    refine ⟨sG _ _ eL2, ?_⟩
    have SU := un2 G sG
    have eU : (upd G t (.dK kvs)) D2 = some (.dK (kvT (wholeN ns (ps.map (·.1))))) := by rw [upd_ne nDt]; exact eD
    generalize upd G t (.dK kvs) = U at SU eU ⊢
    have lwn : (kvT (wholeN ns (ps.map (·.1)))).length = ps.length := by
      unfold kvT wholeN
      rw [List.length_map, List.length_map, List.length_map]
    -- names
    refine ⟨D2, _, eU, trivial, fun od3 => ⟨.ref D2, rfl, D2, od3, rfl, .inl ⟨_, upd_same, fun D3 nD3 => ?_⟩⟩⟩
    have eL3 : (upd U D2 (.frz od3 (.dK (kvT (wholeN ns (ps.map (·.1))))))) D2 = some (.frz od3 (.dK (kvT (wholeN ns (ps.map (·.1)))))) := upd_same
    have nD32 : D3 ≠ D2 := fun e => by rw [e, eL3] at nD3; cases nD3
    have keyw : ∀ kv ∈ kvT (wholeN ns (ps.map (·.1))), ∃ x ∈ ps.map (·.1), kv.1 = Sum.inr x := fun kv hkv => by
      obtain ⟨p, hp, rfl⟩ := List.mem_map.mp hkv
      obtain ⟨x, hx, rfl⟩ := List.mem_map.mp hp
      exact ⟨x, hx, rfl⟩
    refine lc_map (h := fun kv : Key × V => kV kv.1) (xs := kvT (wholeN ns (ps.map (·.1)))) walk_keysY rfl (fun _ => V.bl true) nD3 (fun H' s' => s' _ _ eL3) (by omega) (fun kv hkv H' s' Q' q' => ?_) fun H7 s7 e7 => ?_
    · obtain ⟨x, hx, e⟩ := keyw kv hkv
      have nx := nmb x hx
      refine ⟨.ref D2, rfl, _, rfl, D2, .str (nu ns x), rfl, .inl ⟨_, kv.1, .inr ⟨od3, s' _ _ eL3⟩, rfl, by rw [e, whole_hit ns hx]⟩, _, rfl, .inl ⟨_, rfl, ?_⟩, .inl ⟨_, rfl⟩, fun H5 s5 => ?_⟩
      · have := nameB_len nx
        omega
      · have e2 : isN (.str (nu ns x)) = true := nx
        rw [e2]
        exact q' H5 s5
    refine ⟨s7 _ _ eL3, ?_⟩
    have s8 : Same U (upd H7 D2 (.dK (kvT (wholeN ns (ps.map (·.1)))))) := Same.unlock eU s7
    have e8 : (upd H7 D2 (.dK (kvT (wholeN ns (ps.map (·.1)))))) D3 = some (.lst (((kvT (wholeN ns (ps.map (·.1)))).map fun _ => true).map V.bl)) := by
      rw [upd_ne nD32, e7, List.map_map]
      rfl
    generalize upd H7 D2 (.dK (kvT (wholeN ns (ps.map (·.1))))) = H8 at s8 e8 ⊢
    refine ⟨D3, (kvT (wholeN ns (ps.map (·.1)))).map fun _ => true, rfl, lst_of e8, ?_⟩
    rw [all_true]
    refine ⟨true, rfl, iteF ?_⟩
    -- all of them
    have eW := s8 _ _ eU
    refine ⟨D2, _, eW, trivial, fun od4 => ⟨.ref D2, rfl, D2, od4, rfl, .inl ⟨_, upd_same, fun D4 nD4 => ?_⟩⟩⟩
    have eL4 : (upd H8 D2 (.frz od4 (.dK (kvT (wholeN ns (ps.map (·.1))))))) D2 = some (.frz od4 (.dK (kvT (wholeN ns (ps.map (·.1)))))) := upd_same
    have nD42 : D4 ≠ D2 := fun e => by rw [e, eL4] at nD4; cases nD4
    have un4 : ∀ G, Same (upd H8 D2 (.frz od4 (.dK (kvT (wholeN ns (ps.map (·.1))))))) G → Same H8 (upd G D2 (.dK (kvT (wholeN ns (ps.map (·.1)))))) := fun G s' => Same.unlock eW s'
    generalize upd H8 D2 (.frz od4 (.dK (kvT (wholeN ns (ps.map (·.1)))))) = HM at nD4 eL4 un4 ⊢
    refine dc_walk walk_keysY (fun i G => Same HM G ∧ G D4 = some (.dK (onesT (((ps.map (·.1)).take i).map (nu ns))))) ⟨same_new nD4, upd_same⟩ (fun i G _ p => p.1 _ _ eL4) (fun i x G G' hi p y => ?_) fun G p => ?_
    · obtain ⟨sG, eD⟩ := p
      obtain ⟨rfl, ex⟩ := y
      have hi' : i < (ps.map (·.1)).length := by
        rw [List.length_map]
        omega
      rw [List.getElem?_map, wholeN_at ns hi'] at ex
      have ex' : V.str (ps.map (·.1))[i] = x := Option.some.inj ex
      subst ex'
      have mx : (ps.map (·.1))[i] ∈ ps.map (·.1) := List.getElem_mem hi'
      have off : nu ns (ps.map (·.1))[i] ∉ ((ps.map (·.1)).take i).map (nu ns) := nu_off ndn hi'
      have tk : (ps.map (·.1)).take (i + 1) = (ps.map (·.1)).take i ++ [(ps.map (·.1))[i]] := by rw [List.take_add_one, List.getElem?_eq_getElem hi']; rfl
      generalize (ps.map (·.1))[i] = z at mx off tk ⊢
      have lw : (onesT (((ps.map (·.1)).take i).map (nu ns))).length ≤ ps.length := by
        unfold onesT
        rw [List.length_map, List.length_map, List.length_take, List.length_map]
        omega
      refine ⟨by simp [wipe], ?_⟩
      unfold tYes
      simp only [↓reduceIte]
      refine ⟨.ref D2, rfl, .str z, rfl, D2, .str (nu ns z), rfl, .inl ⟨_, Sum.inr z, .inr ⟨od4, sG _ _ eL4⟩, rfl, by rw [whole_hit ns mx]⟩, ?_⟩
      refine ⟨_, Sum.inr (nu ns z), rfl, eD, small1000 (by omega), sG.mut nD4, ?_⟩
      rw [upd_same, putK_new _ (onesT_miss off), tk, List.map_append]
      unfold onesT
      rw [List.map_append]
      rfl
    obtain ⟨sG, eD⟩ := p
    refine ⟨sG _ _ eL4, ?_⟩
    have SX := un4 G sG
    have eD4 : (upd G D2 (.dK (kvT (wholeN ns (ps.map (·.1)))))) D4 = some (.dK (onesT (((ps.map (·.1)).take (kvT (wholeN ns (ps.map (·.1)))).length).map (nu ns)))) := by rw [upd_ne nD42]; exact eD
    have eX2 := SX _ _ eW
    generalize upd G D2 (.dK (kvT (wholeN ns (ps.map (·.1))))) = X4 at SX eD4 eX2 ⊢
    refine ⟨D4, _, rfl, eD4, .ref D2, rfl, D2, _, rfl, eX2, _, _, rfl, rfl, _, rfl, ?_⟩
    have ll : (onesT (((ps.map (·.1)).take (kvT (wholeN ns (ps.map (·.1)))).length).map (nu ns))).length = (kvT (wholeN ns (ps.map (·.1)))).length := by
      unfold onesT
      rw [List.length_map, List.length_map, List.length_take, List.length_map]
      omega
    rw [ll, decide_eq_false (Int.lt_irrefl _)]
    refine iteF ?_
    refine ⟨.ref D2, rfl, ?_⟩
    exact q D2 X4 (SU.trans (s8.trans SX)) nD2H eX2
end
end Tf

/-! stores changed: renamed_by -/
namespace Tf
open PySem PySem.Spec PyProof.Rows L2 PySem.W
abbrev sRb : Stmt := inClass sStore 16
abbrev nRb : List Str := ["self", "names", "new", "found", "thing", "marks", "links", "kind", "end"]
theorem scRb : FnScope nRb ["self", "names"] (defScope sRb) := ⟨rfl, rfl, rfl, by decide +kernel, rfl, by decide +kernel, by decide +kernel⟩
def nuL (ns : List (Str × Str)) (l : Str × Str) : Str × Str := (l.1, nu ns l.2)
def nuP (ns : List (Str × Str)) (p : Pr) : Pr := (p.1, ⟨setO (p.2.items.map (nuL ns))⟩)
/-- with new names, in the old order -/
def nameS (ns : List (Str × Str)) (ps : Ps) : Ps := ps.map fun p => (nu ns p.1, nuP ns p.2)
theorem nameS_names (ns : List (Str × Str)) (ps : Ps) : (nameS ns ps).map (·.1) = (ps.map (·.1)).map (nu ns) := by
  unfold nameS
  rw [List.map_map, List.map_map]
  rfl
def spRb (CL C CM : Addr) : Sp := fun vs H Q _ => ∃ (a la t n : Addr) (ms ks : List Str) (ps : Ps) (ns : List (Str × Str)), vs = [.ref a, .ref n] ∧ StoreAt CL C H a la t ms ks ps ∧ H n = some (.dK (kvT ns)) ∧ (ps.map (·.1)).Nodup ∧ ps.length ≤ 60 ∧ ns.length ≤ 60 ∧ (∀ p ∈ ns, p.1 ∈ ps.map (·.1)) ∧ (∀ x ∈ ps.map (·.1), nameB (nu ns x) = true) ∧ ((ps.map (·.1)).map (nu ns)).Nodup ∧ (∀ p ∈ ps, p.2.2.items.length ≤ 60 ∧ ∀ l ∈ p.2.2.items, l.2 ∈ ps.map (·.1)) ∧
  ∀ (b t' : Addr) (H' : Hp), Same H H' → H b = none → H t' = none → StoreAt CL CM H' b la t' ms ks (sortS (nameS ns ps)) → Q (.ref b) H'
section
variable {P : Program} {w : World} {K : PySem.W.Frag} {mg : Str → Option Value} {base : Heap}
theorem ok_rb {f CL C CM : Addr} {fd : FuncData} {k : Nat} (F : Fun K "renamed_by" "Store.renamed_by" sRb f fd) (L : SCls K C) (GN : CdN P w K mg base k "new_names" ["things", "names"] spNn) (GD : CdN P w K mg base k "different_items" ["items"] spDiP) (GI : CdN P w K mg base k "store_in" ["language", "things"] (spSi CL CM)) (mT : mg "tuple" = none) : FnOk P w K mg base CX0 (k + 1) f fd ["self", "names"] (spRb CL C CM) := by
  refine F.ok scRb (fun vs H Q E h => ?_) (fun cdv A outer s H vs Q E hr h => ?_)
  · obtain ⟨a, la, t, n, ms, ks, ps, ns, rfl, _⟩ := h
    rfl
  · obtain ⟨a, la, t, n, ms, ks, ps, ns, rfl, st, hn, nd, lp, ln, sub, nmb, ndn, ends, q⟩ := h
    have hu : (A.deeper (envOfC "Store.renamed_by" (defScope sRb) s.heap.objs.size f cdv)).units + 1 < cLine := by have := hr.un; omega
    refine ⟨_, pss_cons (ps_set (i := 2) scRb.nd rfl (.inr rfl) (pe_cdn GN hr (pa_cons (pe_fld (pv 0) (by rfl)) (pa_cons (pv 1) pa_nil))))
      (pss_cons (ps_set (i := 3) scRb.nd rfl (.inl rfl) pe_dnewK)
      (pss_cons (ps_lock (ps_for PassesOwn.never rfl (pi_items (pe_fld (pv 0) (by rfl))) (pg_tup (by rfl) (pgs_cons (pg_name (i := 4) scRb.nd rfl (.inl rfl)) (pgs_cons (pg_tup (by rfl) (pgs_cons (pg_name (i := 5) scRb.nd rfl (.inl rfl)) (pgs_cons (pg_name (i := 6) scRb.nd rfl (.inl rfl)) pgs_nil))) pgs_nil)))
        (pss_one (ps_dput hu (pv 3) (pe_dget hu (pv 2) (pv 4) (fun _ _ => rfl)) (pe_tup (pa_cons (pv 5) (pa_cons (pe_cdn GD hr (pa_cons (pe_callTy call_tuple_of (by rfl) mT (by decide +kernel) (pa_cons
            (pe_lc (own := [("kind", 7), ("end", 8)]) (g := gTup K 2 (gCons (gName 7) (gCons (gName 8) gNil))) (tt := tYes) (te := tTup (tCons (tVar 7) (tCons (tDGet (tVar 2) (tVar 8)) tNil))) (by rfl) scRb.nd (pi_tup (pv 6)) (blkOk_by (own := [("kind", 7), ("end", 8)]) (N := nRb) (sc := defScope sRb) (by decide +kernel)) (fun _ _ _ _ _ => pg_tup (by rfl) (pgs_cons (pg_name (i := 7) scRb.nd rfl (Or.inl rfl)) (pgs_cons (pg_name (i := 8) scRb.nd rfl (Or.inl rfl)) pgs_nil))) (fun _ _ _ _ _ => pts_nil) (fun _ _ _ _ _ => pe_tup (pa_cons (pv 7) (pa_cons (pe_dget hu (pv 2) (pv 8) (fun _ _ => rfl)) pa_nil)))) pa_nil)) pa_nil)) pa_nil))) (by rfl)))))
      (pss_one (ps_ret (pe_cdn GI hr (pa_cons (pe_fld (pv 0) (by rfl)) (pa_cons (pv 3) pa_nil))))))), ?_⟩
    obtain ⟨dx, fs, kvs, h1, h2, h3, h4, h5, h6, h7⟩ := st
    refine ⟨.ref a, rfl, a, C, dx, fs, .ref t, rfl, h1, L.cl, L.nt, h3, .ref n, rfl, t, n, kvs, ps, ns, rfl, h5, h6, hn, nd, lp, ln, sub, nmb, ndn, fun nw Hw sw nnw enw => ?_⟩
    intro pf nf
    have e1 : (upd Hw pf (.dK [])) pf = some (.dK []) := upd_same
    have s1 : Same Hw (upd Hw pf (.dK [])) := same_new nf
    generalize upd Hw pf (.dK []) = H1 at *
    have nfH : H pf = none := sw.free nf
    have S1 : Same H H1 := sw.trans s1
    have ntf : t ≠ pf := ne_of_none h5 nfH
    have nwf : nw ≠ pf := ne_of_none enw nf
    have ht1 := S1 _ _ h5
    have nat : a ≠ t := ne_of h1 h5 (fun z' => nomatch z')
    have nwt : nw ≠ t := fun e => by rw [e, h5] at nnw; cases nnw
    refine ⟨t, _, ht1, trivial, fun od => ⟨.ref a, rfl, a, C, dx, fs, .ref t, rfl, by rw [upd_ne nat]; exact S1 _ _ h1, L.cl, L.nt, h3, t, od, kvs, rfl, upd_same, ?_⟩⟩
    have eL : (upd H1 t (.frz od (.dK kvs))) t = some (.frz od (.dK kvs)) := upd_same
    have fL : (upd H1 t (.frz od (.dK kvs))) pf = some (.dK []) := by rw [upd_ne ntf.symm]; exact e1
    have wL : (upd H1 t (.frz od (.dK kvs))) nw = some (.dK (kvT (wholeN ns (ps.map (·.1))))) := by rw [upd_ne nwt]; exact s1 _ _ enw
    have kqL : Kq H (upd H1 t (.frz od (.dK kvs))) := S1.kq.trans (Kq.lock ht1)
    have un : ∀ G : Hp, (∀ b o, b ≠ pf → (upd H1 t (.frz od (.dK kvs))) b = some o → G b = some o) → Same H (upd G t (.dK kvs)) := fun G kp b o e => by
      by_cases c : b = t
      · subst c
        rw [upd_same, ← e, h5]
      · rw [upd_ne c]
        exact kp b o (ne_of_none e nfH) (by rw [upd_ne c]; exact S1 _ _ e)
    generalize upd H1 t (.frz od (.dK kvs)) = HL at eL fL wL kqL un ⊢
    refine for_it walk_items (fun i σ G => ∃ (o4 o5 o6 : Option V) (ks' : List (Key × V)), σ = [some (.ref a), some (.ref n), some (.ref nw), some (.ref pf), o4, o5, o6, none, none] ∧ (∀ b o, b ≠ pf → HL b = some o → G b = some o) ∧ G pf = some (.dK ks') ∧ PsR G ks' (nameS ns (ps.take i))) ⟨none, none, none, [], rfl, fun _ _ _ e => e, fL, .nil⟩ (fun i σ G _ ⟨_, _, _, _, _, kp, _⟩ => kp _ _ ntf eL) ?_ ?_
    · rintro i x σ G G' hi ⟨o4, o5, o6, ks', rfl, kp, fG, rG⟩ ⟨T, x1, y, rfl, nt, rfl, ex1, ey⟩
      have hi' : i < kvs.length := hi
      dsimp only at ex1 ey
      rw [List.getElem?_eq_getElem hi'] at ex1 ey
      obtain ⟨p, ep, ek, tv⟩ := paired_get h6 (List.getElem?_eq_getElem hi')
      have ex' : x1 = V.str p.1 := by
        have z' : kV kvs[i].1 = x1 := Option.some.inj ex1
        rw [← z', ek]
        rfl
      have ey' : kvs[i].2 = y := Option.some.inj ey
      subst ex' ey'
      have mp : p ∈ ps := List.mem_of_getElem? ep
      have mpn : p.1 ∈ ps.map (·.1) := List.mem_map_of_mem mp
      have tk : ps.take (i + 1) = ps.take i ++ [p] := by rw [List.take_add_one, ep]; rfl
      have ktG : Kt H G := fun b xs e => kp b _ (ne_of_none e nfH) (kqL.tup e)
      obtain ⟨b, u1, u2, ev, hb, t1, t2⟩ := tv.pair
      obtain ⟨al, vl, rfl, hal, tl⟩ := t2.tup
      rw [ev]
      have eT : (upd G T (.tup [.str p.1, .ref b])) T = some (.tup [.str p.1, .ref b]) := upd_same
      have sT : Same G (upd G T (.tup [.str p.1, .ref b])) := same_new nt
      generalize upd G T (.tup [.str p.1, .ref b]) = G1 at *
      have ktG1 : Kt H G1 := fun c xs e => sT _ _ (ktG c xs e)
      refine ⟨T, _, rfl, tup_of eT, rfl, _, _, rfl, _, _, rfl, b, _, rfl, tup_of (ktG1 _ _ hb), rfl, _, _, rfl, _, _, rfl, rfl, rfl, ?_⟩
      have fG1 := sT _ _ fG
      have wG1 := sT _ _ (kp _ _ nwf wL)
      have kp1 : ∀ b o, b ≠ pf → HL b = some o → G1 b = some o := fun b o nb e => sT _ _ (kp b o nb e)
      have rG1 : PsR G1 ks' (nameS ns (ps.take i)) := rG.kq sT.kq
      obtain ⟨zl, rfl, el, tz⟩ := Tts.refs tl
      obtain ⟨l2, l3⟩ := ends p mp
      have lz : zl.length ≤ 60 := by
        have z' := l2
        rw [el, List.length_map] at z'
        exact z'
      have halG := ktG1 _ _ hal
      refine ⟨u1, rfl, .ref al, rfl, al, rfl, ⟨_, tup_of halG⟩, fun D nD => ?_⟩
      have ndf : D ≠ pf := fun e => by rw [e, fG1] at nD; cases nD
      refine lc_it (by have := walk_tup (K := K) (a := al) (xs := zl.map fun z => V.ref z.1); rw [List.length_map] at this; exact this) (fun j G4 => Same G1 G4 ∧ ∃ vs, G4 D = some (.lst vs) ∧ Tts G4 vs ((p.2.2.items.take j).map (nuL ns))) ⟨same_new nD, [], upd_same, .nil⟩ (fun j G4 _ pp => tup_of (pp.1 _ _ halG)) (fun j x G4 G5 hj pp y => ?_) fun G4 pp => ?_
      · obtain ⟨s4, vs, e4, tt4⟩ := pp
        obtain ⟨rfl, ex⟩ := y
        rw [List.getElem?_map, List.getElem?_eq_getElem hj] at ex
        have ex' : V.ref zl[j].1 = x := Option.some.inj ex
        subst ex'
        have he : zl[j] ∈ zl := List.getElem_mem hj
        have elj : p.2.2.items[j]? = some zl[j].2 := by rw [el, List.getElem?_map, List.getElem?_eq_getElem hj]; rfl
        have tkl : p.2.2.items.take (j + 1) = p.2.2.items.take j ++ [zl[j].2] := by rw [List.take_add_one, elj]; rfl
        have ml : zl[j].2.2 ∈ ps.map (·.1) := l3 _ (List.mem_of_getElem? elj)
        generalize zl[j] = e at he elj tkl ml ⊢
        obtain ⟨c, x1, x2, ec, hc, y1, y2⟩ := ((tz e he).kt ktG1).pair
        have ec' : e.1 = c := by injection ec
        subst ec'
        rw [y1.str, y2.str] at hc
        refine ⟨e.1, _, rfl, tup_of (s4 _ _ hc), rfl, _, _, rfl, _, _, rfl, rfl, rfl, ?_⟩
        unfold tYes
        simp only [↓reduceIte]
        refine ⟨.str e.2.1, rfl, .ref nw, rfl, .str e.2.2, rfl, nw, .str (nu ns e.2.2), rfl, .inl ⟨_, Sum.inr e.2.2, .inl (s4 _ _ wG1), rfl, by rw [whole_hit ns ml]⟩, by show 2 ≤ sizeLine; decide, fun p3 n3 => ?_⟩
        have e6 : (upd G5 p3 (.tup [.str e.2.1, .str (nu ns e.2.2)])) p3 = some (.tup [.str e.2.1, .str (nu ns e.2.2)]) := upd_same
        have s6 : Same G5 (upd G5 p3 (.tup [.str e.2.1, .str (nu ns e.2.2)])) := same_new n3
        generalize upd G5 p3 (.tup [.str e.2.1, .str (nu ns e.2.2)]) = G6 at *
        have lv : vs.length ≤ 60 := by
          have z' := tt4.length
          rw [List.length_map, List.length_take] at z'
          omega
        refine ⟨vs, s6 _ _ e4, small1000 (by omega), (s4.trans s6).mut nD, _, upd_same, ?_⟩
        have kt6 : Kt G6 (upd G6 D (.lst (vs ++ [.ref p3]))) := (Kq.lst (s6 _ _ e4)).kt
        rw [tkl, List.map_append]
        have t6 : Tt G6 (.ref p3) (nuL ns e.2) := tt_pair e6 tt_str tt_str
        exact Tts.append (Paired.mapP (tt4.kq s6.kq) fun _ _ d => Tt.kt d kt6) (.cons (t6.kt kt6) .nil)
      obtain ⟨s4, vs, e4, tt4⟩ := pp
      have elz : p.2.2.items.length = zl.length := by rw [el, List.length_map]
      rw [← elz, List.take_length] at tt4
      have lv : vs.length ≤ 60 := by
        have z' := tt4.length
        rw [List.length_map] at z'
        omega
      refine ⟨D, _, rfl, .inl ⟨lst_of e4, fun p5 n5 => ?_⟩⟩
      have f5 : (upd G4 p5 (.tup vs)) p5 = some (.tup vs) := upd_same
      have s5 : Same G4 (upd G4 p5 (.tup vs)) := same_new n5
      generalize upd G4 p5 (.tup vs) = G5 at *
      have tl5 : Tt G5 (.ref p5) (Tup.mk (p.2.2.items.map (nuL ns))) := tt_tup f5 (tt4.kq s5.kq)
      refine ⟨.ref p5, p.2.2.items.map (nuL ns), rfl, tl5, by rw [List.length_map]; exact l2, fun p7 G7 s7 n7 t7 => ?_⟩
      have S7 := s4.trans (s5.trans s7)
      have ktG7 : Kt H G7 := fun c xs e => S7 _ _ (ktG1 c xs e)
      refine ⟨by show 2 ≤ sizeLine; decide, fun p6 n6 => ?_⟩
      have f6 : (upd G7 p6 (.tup [u1, .ref p7])) p6 = some (.tup [u1, .ref p7]) := upd_same
      have s6 : Same G7 (upd G7 p6 (.tup [u1, .ref p7])) := same_new n6
      generalize upd G7 p6 (.tup [u1, .ref p7]) = G6 at *
      have S6 := S7.trans s6
      have f6G := S6 _ _ fG1
      have lr := Paired.length rG
      have lw : (nameS ns (ps.take i)).length ≤ ps.length := by
        unfold nameS
        rw [List.length_map, List.length_take]
        omega
      refine ⟨.ref pf, rfl, .ref nw, rfl, .str p.1, rfl, nw, .str (nu ns p.1), rfl, .inl ⟨_, Sum.inr p.1, .inl (S6 _ _ wG1), rfl, by rw [whole_hit ns mpn]⟩, pf, _, rfl, DPut.k (k := Sum.inr (nu ns p.1)) f6G (small1000 (by omega)), ?_⟩
      have miss : valV ks' (Sum.inr (nu ns p.1)) = none := rG.miss (by
        rw [nameS_names, List.map_take]
        have hix : i < (ps.map (·.1)).length := by
          have := (List.getElem?_eq_some_iff.mp ep).1
          rw [List.length_map]
          exact this
        have ei : (ps.map (·.1))[i] = p.1 := by
          have z' : (ps.map (·.1))[i]? = some p.1 := by rw [List.getElem?_map, ep]; rfl
          rw [List.getElem?_eq_getElem hix] at z'
          exact Option.some.inj z'
        have z' := nu_off ndn hix
        rw [ei] at z'
        exact z')
      rw [putK_new _ miss]
      have kt : Kt G6 (upd G6 pf (.dK (ks' ++ [(Sum.inr (nu ns p.1), .ref p6)]))) := kt_dk f6G
      refine ⟨_, _, _, _, rfl, fun b o nb e => by rw [upd_ne nb]; exact S6 _ _ (kp1 b o nb e), upd_same, ?_⟩
      have e : nameS ns (ps.take (i + 1)) = nameS ns (ps.take i) ++ [(nu ns p.1, nuP ns p.2)] := by
        unfold nameS
        rw [tk, List.map_append]
        rfl
      rw [e]
      refine PsR.append ((rG1.kq S6.kq).kt kt) (.cons ⟨rfl, ?_⟩ .nil)
      exact (tt_pair f6 ((t1.kt ktG7).kq s6.kq) (t7.kq s6.kq)).kt kt
    rintro σ G ⟨o4, o5, o6, ks', rfl, kp, fG, rG⟩
    have lk : kvs.length = ps.length := Paired.length h6
    rw [lk, List.take_length] at rG
    refine ⟨kp _ _ ntf eL, ?_⟩
    have SU := un G kp
    have fU : (upd G t (.dK kvs)) pf = some (.dK ks') := by rw [upd_ne ntf.symm]; exact fG
    have rU : PsR (upd G t (.dK kvs)) ks' (nameS ns ps) := rG.kq (Kq.unlock (kp _ _ ntf eL))
    generalize upd G t (.dK kvs) = U at SU fU rU ⊢
    refine ⟨.ref a, rfl, a, C, dx, fs, .ref la, rfl, SU _ _ h1, L.cl, L.nl, h2, .ref pf, rfl, la, pf, ms, ks, ks', nameS ns ps, rfl, h4.kq SU.kq, fU, rU, by rw [nameS_names]; exact ndn, by unfold nameS; rw [List.length_map]; omega, fun b t' H' s' nb nt st' => ?_⟩
    exact q b t' H' (SU.trans s') (SU.free nb) (SU.free nt) st'
end
end Tf

/-! sets of tuples from a tuple -/
namespace TfN
open PySem PySem.Spec PyProof.Rows L2
section
variable {P : Program} {w : World} {A : Around} {E : Value → Shared → Prop} {s : Shared}
set_option maxHeartbeats 8000000 in
/-- set(l), l a tuple of tuples -/
theorem ks_tuple {l : Addr} {items : Array Value} (zs : List (Addr × NestedKey)) {Q : Value → Shared → Prop} (hh : A.handled = none) (hl : s.heap.IsTuple l items) (hit : items.toList = zs.map fun z => Value.ref z.1) (hz : ∀ z ∈ zs, Tk s.heap z.2 z.1) (few : zs.length + 1 < 64) (hu : A.units + 12 < cLine)
    (h : ∀ (h' : Heap) (tk : Nat) L es ep t, Ks w h' s.heap.objs.size L es ep t → L.Perm (firstsK zs) → (∀ b o, s.heap.get? b = some o → h'.get? b = some o) → Q (.ref s.heap.objs.size) { s with heap := h', toks := tk }) :
    wpAny (model P w) A (call (.type "set") [.ref l]) Q E s := by
  have isz : items.size = zs.length := by
    have q := congrArg List.length hit
    rw [Array.length_toList, List.length_map] at q
    exact q
  obtain ⟨c, tl, hmro⟩ := F.called_set.mro
  have hmade := F.called_set.made
  have hsub := F.called_set.sub
  refine wpAny_call (codeAny_of_tree ?_)
  show wpAny _ _ (callAny (.type "set") _) _ _ _
  refine wpAny_pure ⟨Code.quiet_builtin _ (by decide +kernel), codeAny_builtin F.entry_type_call ?_⟩
  rw [Around.under_plain (weight_type_call_type "set" [.ref l] []) rfl]
  have h1 := F.called_set.notType
  have h2 := F.called_set.canCreate
  have hct := F.typeCall_set_1 (.ref l)
  repeat (any_goals (first | assumption | wp_step))
  refine codeAny_mono (code_set_led1 (.ref l) (E := E) (Q₁ := fun obj s₁ => obj = .ref s.heap.objs.size ∧ s₁ = { s with heap := s.heap.push (newSetO w) }) ⟨rfl, rfl⟩) fun r s₁ hr => ?_
  cases r with
  | error e => exact hr
  | ok fl =>
    cases fl with
    | ret obj =>
      obtain ⟨rfl, rfl⟩ := hr
      have hS : (s.heap.push (newSetO w)).get? s.heap.objs.size = some (newSetO w) := Heap.get?_push_size _ rfl
      have hT : Shared.TypeIs { s with heap := s.heap.push (newSetO w) } (.ref s.heap.objs.size) "set" := ⟨_, hS, rfl⟩
      have hli := F.called_set.init.lookup
      have hbi := F.called_set.init.bind (.ref s.heap.objs.size)
      repeat (any_goals (first | assumption | wp_step))
      refine codeAny_mono (codeAny_call_builtin (R := wants (fun r s₂ => r = .none ∧ ∃ h' tk L es ep t, s₂ = { s with heap := h', toks := tk } ∧ Ks w h' s.heap.objs.size L es ep t ∧ L.Perm (firstsK zs) ∧ (∀ b o, s.heap.get? b = some o → h'.get? b = some o)) E) F.called_set.init.plain F.entry_set_init (check_set_init_1 hT ?_)) fun r₂ s₂ hr₂ => ?_
      · obtain ⟨ol, hol, hcl, nl, hdl⟩ := hl
        obtain ⟨ocls, odict, odata, oslots⟩ := ol
        simp only at hcl hdl
        subst hcl; subst hdl
        have hol' : (s.heap.push (newSetO w)).get? l = some { cls := .type "tuple", dict := odict, data := .seq items nl, slots := oslots } := Heap.get?_push_of_some _ hol
        have hsls := F.sub_tuple_set
        have hslf := F.sub_tuple_frozenset
        have hne : (Value.type "tuple" == Value.type "dict") = false := by decide
        have hl1 : (s.heap.push (newSetO w)).IsTuple l items := ⟨_, hol', rfl, nl, rfl⟩
        unfold Builtin.«set.__init__» noKeywords Builtin.Frozenset.updateFrom
        generalize hPI : pyIter = PI
        wp_walk
        subst hPI
        refine wpAny_pyIter_tuple hl1 ?_
        refine wpAny_bind (wpAny_runValue ?_)
        have lt : l < s.heap.objs.size := Heap.lt_size hol
        have hh3 : A.in1.in1.in1.handled = none := by simp [hh]
        have sz : (s.heap.push (newSetO w)).objs.size = s.heap.objs.size + 1 := Heap.size_push ..
        have neI : l ≠ (s.heap.push (newSetO w)).objs.size := by
          rw [sz]
          exact Nat.ne_of_lt (Nat.lt_succ_of_lt lt)
        have nf : s.heap.objs.size ∉ [(s.heap.push (newSetO w)).objs.size, l] := by
          rw [sz]
          simp only [List.mem_cons, List.not_mem_nil, or_false, not_or]
          exact ⟨Nat.ne_of_lt (Nat.lt_succ_self _), Nat.ne_of_gt lt⟩
        have hval : ∀ (i : Nat) (v : Value), items[i]? = some v → ∃ z, zs[i]? = some z ∧ v = .ref z.1 := fun i v hv => by
          have q : items.toList[i]? = some v := by rw [Array.getElem?_toList]; exact hv
          rw [hit, List.getElem?_map] at q
          cases hq : zs[i]? with
          | none => rw [hq] at q; cases q
          | some z =>
            rw [hq] at q
            exact ⟨z, rfl, (Option.some.inj q).symm⟩
        have off : ∀ b, s.heap.objs.size ≤ b → s.heap.get? b = none := fun b hb => by
          cases q : s.heap.get? b with
          | none => rfl
          | some o => exact absurd (Nat.lt_of_lt_of_le (Heap.lt_size q) hb) (Nat.lt_irrefl _)
        refine ks_loop ((Walks.tuple hh3 _ l neI items).toS) s.heap.objs.size nf zs isz few hval s.heap hz (off _ (Nat.le_refl _)) (fun b hb => off b (by rw [List.mem_singleton.mp hb, sz]; exact Nat.le_succ _)) (by simp only [Around.in1_units]; omega) (items.size - 0) 0 _ (by omega) (Nat.zero_le _) ⟨⟨_, Heap.get?_push_size _ rfl, rfl, rfl⟩, (hl1.push _)⟩
          (fun b o e => Heap.get?_push_of_some _ (Heap.get?_push_of_some _ e)) ⟨[], #[], 0, _, ks_fresh (Heap.get?_push_of_some _ hS), List.Perm.nil⟩ ?hR
        case hR =>
          intro s' L es ep t hm hS' g'
          obtain ⟨h', g2, d', tk', os'⟩ := s'
          have eg : g2 = s.gens := hm.gens
          have ed : d' = s.drawn := hm.drawn
          have eo : os' = s.os := hm.os
          subst eg; subst ed; subst eo
          show wpAny _ _ _ _ _ _
          refine wpAny_pure ?_
          show wpAny _ _ (ret Value.none) _ _ _
          refine wpAny_pure ⟨rfl, h', tk', L, es, ep, t, rfl, hS', g', fun b o e => ?_⟩
          have lb := Heap.lt_size e
          refine hm.heap b o (fun z => ?_) (Heap.get?_push_of_some _ (Heap.get?_push_of_some _ e))
          rw [sz] at z
          simp only [List.mem_cons, List.not_mem_nil, or_false] at z
          rcases z with z | z
          · exact absurd z (Nat.ne_of_lt lb)
          · exact absurd z (Nat.ne_of_lt (Nat.lt_succ_of_lt lb))
      · cases r₂ with
        | error e => exact hr₂
        | ok fl₂ =>
          cases fl₂ with
          | ret r =>
            obtain ⟨rfl, h', tk, L, es, ep, t, rfl, hS', g', hk'⟩ := hr₂
            repeat (any_goals (first | assumption | wp_step))
            exact h _ _ _ _ _ _ hS' g' hk'
          | _ => exact hr₂.elim
    | _ => exact hr.elim
end
end TfN
namespace L2
open PySem PySem.Spec PyProof.Rows PySem.W PySem.SeqAt TfN
open TfN
section
variable {X : Cx} {α : Type} [DecidableEq α] [OrdD α] [DKey α]
def rSetNB (K : PySem.W.Frag) (w : World) (α : Type) [DecidableEq α] [OrdD α] [DKey α] : List V → Hp → VK → Prop := fun vs H Q => ∃ (l : Addr) (zs : List (Addr × α)), vs = [.ref l] ∧ (SqL K H l (zs.map fun z => .ref z.1) ∨ SqT K H l (zs.map fun z => .ref z.1)) ∧ (∀ z ∈ zs, Dt K H (.ref z.1) z.2) ∧ zs.length ≤ 60 ∧ ∀ p o, H p = none → o = SetN w p (firstsK (zs.map nkz)) → Q (.ref p) (upd H p o)
theorem cr_setNB (hc : X.calm = true) (hu : X.A.units + 20 < cLine) (hz : Datum.depth α ≤ 8 := by decide) : CallR X (.type "set") (rSetNB X.K X.w α) := by
  intro pins s σ H vs us Q I r h
  obtain ⟨l, zs, rfl, hl, hd, hn, q⟩ := h
  rcases hl with hl | hl
  · exact cr_setN hc hu hz pins s σ H _ us Q I r ⟨l, zs, rfl, hl, hd, hn, q⟩
  rw [Vals.ref1 r]
  obtain ⟨its, rv, pl, _⟩ := I.tuple hl
  refine ks_tuple (zs.map nkz) (I.ok.hd hc) pl (by simpa using vals_refz rv) (fun z hm => ?_) (by rw [List.length_map]; omega) (by omega) fun h' tk L es ep t R p k => ?_
  · obtain ⟨y, my, rfl⟩ := List.mem_map.mp hm
    exact Dt.tk I (hd y my) hz
  · exact ⟨.ref s.heap.objs.size, _, I.laid (t' := tk) k (Nat.le_refl _) (setN_new (Kset.of R p)), rfl, q _ _ (I.hok.fresh (Nat.le_refl _)) rfl⟩
end
end L2

/-! tuples of three, ordered, as keys of sets -/
namespace L2
open PySem PySem.Spec PyProof.Rows PySem.W PySem.SeqAt
section
variable {α β γ : Type} [DecidableEq α] [OrdD α] [DecidableEq β] [OrdD β] [DecidableEq γ] [OrdD γ]
instance : OrdD (T3 α β γ) where
  anti p q h k := by
    have h' : (if p.a = q.a then (if p.b = q.b then DatumOrd.lt p.c q.c else DatumOrd.lt p.b q.b) else DatumOrd.lt p.a q.a) = false := h
    have k' : (if q.a = p.a then (if q.b = p.b then DatumOrd.lt q.c p.c else DatumOrd.lt q.b p.b) else DatumOrd.lt q.a p.a) = false := k
    by_cases e : p.a = q.a
    · rw [if_pos e] at h'
      rw [if_pos e.symm] at k'
      by_cases e2 : p.b = q.b
      · rw [if_pos e2] at h'
        rw [if_pos e2.symm] at k'
        exact T3.same e e2 (OrdD.anti _ _ h' k')
      · rw [if_neg e2] at h'
        rw [if_neg fun z => e2 z.symm] at k'
        exact absurd (OrdD.anti _ _ h' k') e2
    · rw [if_neg e] at h'
      rw [if_neg fun z => e z.symm] at k'
      exact absurd (OrdD.anti _ _ h' k') e
end
section
variable {α β γ : Type} [DecidableEq α] [Datum α] [DecidableEq β] [Datum β] [DecidableEq γ] [Datum γ]
instance : Srt (T3 α β γ) := ⟨.inl fun a => ⟨_, _, rfl⟩⟩
instance [DKey α] [DKey β] [DKey γ] : DKey (T3 α β γ) where
  nk p := .tup [DKey.nk p.a, DKey.nk p.b, DKey.nk p.c]
  dat p := by
    simp only [NestedKey.data, NestedKey.datas, DKey.dat]
    rfl
  dep p := by
    simp only [NestedKey.depth, NestedKey.depthAll]
    have h1 := DKey.dep p.a
    have h2 := DKey.dep p.b
    have h3 := DKey.dep p.c
    show _ ≤ max (max (Datum.depth α) (Datum.depth β)) (Datum.depth γ) + 1
    omega
variable {H : Hp}
theorem tt_t3 {a : Addr} {v u t : V} {x : α} {y : β} {z : γ} (h : H a = some (.tup [v, u, t])) (r : Tt H v x) (q : Tt H u y) (s : Tt H t z) : Tt H (.ref a) (T3.mk x y z) := Tr.tup h (.cons r (.cons q (.cons s .nil)))
theorem Tt.t3 {v : V} {p : T3 α β γ} (h : Tt H v p) : ∃ a u w t, v = .ref a ∧ H a = some (.tup [u, w, t]) ∧ Tt H u p.a ∧ Tt H w p.b ∧ Tt H t p.c := by
  cases h with
  | tup ha hr =>
    cases hr with
    | cons h1 hr =>
      cases hr with
      | cons h2 hr =>
        cases hr with
        | cons h3 hr =>
          cases hr
          exact ⟨_, _, _, _, rfl, ha, h1, h2, h3⟩
end
end L2

/-! plain laws on stores; rules for own methods and operators -/
namespace Tf
open PySem PySem.Spec PyProof.Rows L2 PySem.W
theorem snocRec {α : Type} {motive : List α → Prop} (nil : motive []) (snoc : ∀ (xs : List α) (x : α), motive xs → motive (xs ++ [x])) (xs : List α) : motive xs := by
  have h : ∀ ys : List α, motive ys.reverse := fun ys => by
    induction ys with
    | nil => exact nil
    | cons y ys ih =>
      rw [List.reverse_cons]
      exact snoc _ _ ih
  have := h xs.reverse
  rwa [List.reverse_reverse] at this
theorem nodup_mapOn {α β : Type} {f : α → β} : ∀ {xs : List α}, xs.Nodup → (∀ a ∈ xs, ∀ b ∈ xs, f a = f b → a = b) → (xs.map f).Nodup
  | [], _, _ => List.nodup_nil
  | x :: xs, nd, h => by
    have nd' := List.nodup_cons.mp nd
    rw [List.map_cons, List.nodup_cons]
    refine ⟨fun m => ?_, nodup_mapOn nd'.2 fun a ha b hb => h a (List.mem_cons_of_mem _ ha) b (List.mem_cons_of_mem _ hb)⟩
    obtain ⟨y, hy, e⟩ := List.mem_map.mp m
    have := h y (List.mem_cons_of_mem _ hy) x List.mem_cons_self e
    exact nd'.1 (this ▸ hy)
theorem inj_nd {α β : Type} {f : α → β} : ∀ {xs : List α}, (xs.map f).Nodup → ∀ {a b : α}, a ∈ xs → b ∈ xs → f a = f b → a = b
  | x :: xs, nd, a, b, ha, hb, e => by
    rw [List.map_cons, List.nodup_cons] at nd
    rcases List.mem_cons.mp ha with ea | ha'
    · rcases List.mem_cons.mp hb with eb | hb'
      · rw [ea, eb]
      · exact absurd (List.mem_map.mpr ⟨b, hb', by rw [← e, ea]⟩) nd.1
    · rcases List.mem_cons.mp hb with eb | hb'
      · exact absurd (List.mem_map.mpr ⟨a, ha', by rw [e, eb]⟩) nd.1
      · exact inj_nd nd.2 ha' hb' e
theorem look_cons (p : Str × Pr) (ps : Ps) (y : Str) : look (p :: ps) y = if p.1 = y then some p.2 else look ps y := by
  unfold look
  by_cases c : p.1 = y
  · rw [List.find?_cons_of_pos (by exact decide_eq_true c), if_pos c]
    rfl
  · rw [List.find?_cons_of_neg (by rw [decide_eq_true_eq]; exact c), if_neg c]
theorem look_put {z : Str} {x : Pr} (y : Str) : ∀ ps : Ps, look (putP ps z x) y = if y = z then (if z ∈ ps.map (·.1) then some x else none) else look ps y
  | [] => by
    by_cases c : y = z
    · rw [if_pos c, if_neg (fun h => nomatch h)]
      rfl
    · rw [if_neg c]
      rfl
  | p :: ps => by
    have e : putP (p :: ps) z x = (if p.1 = z then (p.1, x) else p) :: putP ps z x := rfl
    rw [e, look_cons, look_put y ps, look_cons]
    by_cases a : p.1 = z
    · rw [if_pos a]
      by_cases c : y = z
      · rw [if_pos c, if_pos c, if_pos (show p.1 = y by rw [a, c]), if_pos (by rw [List.map_cons, a]; exact List.mem_cons_self)]
      · have n : ¬ p.1 = y := fun h => c (by rw [← h, a])
        rw [if_neg c, if_neg c, if_neg n, if_neg n]
    · rw [if_neg a]
      by_cases c : y = z
      · have n : ¬ p.1 = y := fun h => a (by rw [h, c])
        rw [if_pos c, if_pos c, if_neg n]
        by_cases m : z ∈ ps.map (·.1)
        · rw [if_pos m, if_pos (by rw [List.map_cons]; exact List.mem_cons_of_mem _ m)]
        · rw [if_neg m, if_neg (by rw [List.map_cons, List.mem_cons]; exact fun h => h.elim (fun h => a h.symm) m)]
      · rw [if_neg c, if_neg c]
theorem look_app (ps qs : Ps) (y : Str) : look (ps ++ qs) y = (look ps y).or (look qs y) := by
  induction ps with
  | nil => rfl
  | cons p ps ih =>
    rw [List.cons_append, look_cons, look_cons, ih]
    by_cases c : p.1 = y
    · rw [if_pos c, if_pos c]
      rfl
    · rw [if_neg c, if_neg c]
theorem look_off {ps : Ps} {y : Str} (n : y ∉ ps.map (·.1)) : look ps y = none := by
  unfold look
  rw [List.find?_eq_none.mpr fun p hp c => n (List.mem_map.mpr ⟨p, hp, of_decide_eq_true c⟩)]
  rfl
theorem get_off {ps : Ps} {y : Str} (n : y ∉ ps.map (·.1)) : getP ps y = (⟨[]⟩, ⟨[]⟩) := by
  unfold getP
  rw [look_off n]
  rfl
theorem get_set (ps : Ps) (z : Str) (x : Pr) (y : Str) : getP (setP ps z x) y = if y = z then x else getP ps y := by
  unfold setP getP
  by_cases m : z ∈ ps.map (·.1)
  · rw [if_pos m, look_put, if_pos m]
    by_cases c : y = z
    · rw [if_pos c, if_pos c]
      rfl
    · rw [if_neg c, if_neg c]
  · rw [if_neg m, look_app]
    by_cases c : y = z
    · rw [if_pos c, c, look_off m, look_cons, if_pos rfl]
      rfl
    · rw [if_neg c, look_cons, if_neg (fun h : z = y => c h.symm)]
      have e : look ([] : Ps) y = none := rfl
      rw [e]
      cases look ps y <;> rfl
theorem mem_set {ps : Ps} {z y : Str} {x : Pr} : y ∈ (setP ps z x).map (·.1) ↔ y ∈ ps.map (·.1) ∨ y = z := by
  unfold setP
  by_cases m : z ∈ ps.map (·.1)
  · rw [if_pos m, putP_names]
    exact ⟨.inl, fun h => h.elim id (fun h => h ▸ m)⟩
  · rw [if_neg m, List.map_append, List.mem_append]
    exact ⟨fun h => h.imp id (fun h => List.mem_singleton.mp h), fun h => h.imp id (fun h => List.mem_singleton.mpr h)⟩
theorem perm_get {xs ys : Ps} (nx : (xs.map (·.1)).Nodup) (ny : (ys.map (·.1)).Nodup) (m : ∀ z, z ∈ xs.map (·.1) ↔ z ∈ ys.map (·.1)) (g : ∀ z ∈ xs.map (·.1), getP xs z = getP ys z) : xs.Perm ys := by
  have ex := get_self nx
  have ey := get_self ny
  have p : (xs.map (·.1)).Perm (ys.map (·.1)) := (List.perm_ext_iff_of_nodup nx ny).mpr fun z => m z
  have e : (xs.map (·.1)).map (fun z => (z, getP xs z)) = (xs.map (·.1)).map (fun z => (z, getP ys z)) := List.map_congr_left fun z hz => by rw [g z hz]
  rw [← ex, ← ey, e]
  exact p.map _
theorem get_normA {ps : Ps} (nd : (ps.map (·.1)).Nodup) (nm : Nrm ps) (z : Str) : getP (normS ps) z = getP ps z := by
  by_cases m : z ∈ ps.map (·.1)
  · exact get_norm nd nm m
  · rw [get_off m, get_off]
    rw [normS_names, mem_canon]
    exact m
theorem mem_normS {ps : Ps} {z : Str} : z ∈ (normS ps).map (·.1) ↔ z ∈ ps.map (·.1) := by rw [normS_names, mem_canon]
theorem setO_nd {α : Type} [DecidableEq α] [OrdD α] {xs : List α} (nd : xs.Nodup) : sortO xs = setO xs := setO_is ((sortO_perm xs).nodup_iff.mpr nd) (fun _ => mem_sortO) (sortO_pw xs)
theorem rch_norm {ps : Ps} {z x : Str} (nd : (ps.map (·.1)).Nodup) (nm : Nrm ps) : Rch (normS ps) z x ↔ Rch ps z x := by
  constructor
  · intro h
    induction h with
    | here => exact .here
    | next _ hl ih =>
      rw [get_normA nd nm] at hl
      exact .next ih hl
  · intro h
    induction h with
    | here => exact .here
    | next _ hl ih =>
      rw [← get_normA nd nm] at hl
      exact .next ih hl
theorem get_snoc {qs : Ps} {q : Str × Pr} (n : q.1 ∉ qs.map (·.1)) (z : Str) : getP (qs ++ [q]) z = if z = q.1 then q.2 else getP qs z := by
  have h := get_set qs q.1 q.2 z
  unfold setP at h
  rw [if_neg n] at h
  exact h
theorem both_get {ps qs : Ps} (np : (ps.map (·.1)).Nodup) (nq : (qs.map (·.1)).Nodup) {z : Str} (m : z ∈ ps.map (·.1) ∨ z ∈ qs.map (·.1)) : getP (bothP ps qs) z = if z ∈ ps.map (·.1) then (if z ∈ qs.map (·.1) then joinP (getP ps z) (getP qs z) else getP ps z) else getP qs z := by
  by_cases a : z ∈ ps.map (·.1)
  · rw [if_pos a]
    refine getP_mem (bothP_nd np nq) (List.mem_append_left _ (List.mem_map.mpr ⟨(z, getP ps z), mem_names np a, rfl⟩))
  · rw [if_neg a]
    have b : z ∈ qs.map (·.1) := m.elim (fun h => absurd h a) id
    exact getP_mem (bothP_nd np nq) (List.mem_append_right _ (List.mem_filter.mpr ⟨mem_names nq b, by show (!decide (z ∈ ps.map (·.1))) = true; rw [decide_eq_false a]; rfl⟩))
theorem both_mem {ps qs : Ps} {z : Str} : z ∈ (bothP ps qs).map (·.1) ↔ z ∈ ps.map (·.1) ∨ z ∈ qs.map (·.1) := by
  rw [bothP_is, List.map_append, List.mem_append, bothA_names]
  constructor
  · rintro (h | h)
    · exact .inl h
    · obtain ⟨q, hq, rfl⟩ := List.mem_map.mp h
      exact .inr (List.mem_map.mpr ⟨q, (List.mem_filter.mp hq).1, rfl⟩)
  · rintro (h | h)
    · exact .inl h
    · by_cases a : z ∈ ps.map (·.1)
      · exact .inl a
      · obtain ⟨q, hq, rfl⟩ := List.mem_map.mp h
        exact .inr (List.mem_map.mpr ⟨q, List.mem_filter.mpr ⟨hq, by rw [decide_eq_false a]; rfl⟩, rfl⟩)
theorem join_none {q : Pr} (h : normP q = q) : joinP (⟨[]⟩, ⟨[]⟩) q = q := h
theorem at_last (w0 : List Str) (y : Str) : atI ((w0 ++ [y]).map V.str) (-1) = some (V.str y) := by
  unfold atI ixN
  rw [if_neg (by decide), List.length_map, List.length_append, List.length_singleton, if_pos (by omega)]
  have e : (-1 + ((w0.length + 1 : Nat) : Int)).toNat = w0.length := by omega
  rw [e]
  show ((w0 ++ [y]).map V.str)[w0.length]? = _
  simp
theorem join_comm (p r : Pr) : joinP p r = joinP r p := by
  have h1 : canon (p.1.items ++ r.1.items) = canon (r.1.items ++ p.1.items) := canon_congr fun z => by rw [List.mem_append, List.mem_append, or_comm]
  have h2 : setO (p.2.items ++ r.2.items) = setO (r.2.items ++ p.2.items) := setO_congr fun z => by rw [List.mem_append, List.mem_append, or_comm]
  unfold joinP
  rw [h1, h2]
theorem join_self {p : Pr} (h : normP p = p) : joinP p p = p := by
  have h1 : canon (p.1.items ++ p.1.items) = canon p.1.items := canon_congr fun z => by rw [List.mem_append, or_self]
  have h2 : setO (p.2.items ++ p.2.items) = setO p.2.items := setO_congr fun z => by rw [List.mem_append, or_self]
  unfold joinP
  rw [h1, h2]
  exact h
theorem both_comm {ps qs : Ps} (np : (ps.map (·.1)).Nodup) (nq : (qs.map (·.1)).Nodup) : (bothP ps qs).Perm (bothP qs ps) := by
  refine perm_get (bothP_nd np nq) (bothP_nd nq np) (fun z => by rw [both_mem, both_mem, or_comm]) fun z hz => ?_
  have m := both_mem.mp hz
  rw [both_get np nq m, both_get nq np m.symm]
  by_cases a : z ∈ ps.map (·.1) <;> by_cases b : z ∈ qs.map (·.1)
  · rw [if_pos a, if_pos b, if_pos b, if_pos a, join_comm]
  · rw [if_pos a, if_neg b, if_neg b]
  · rw [if_neg a, if_pos b, if_neg a]
  · exact absurd m (fun h => h.elim a b)
theorem both_comm_same {ps qs : Ps} (np : (ps.map (·.1)).Nodup) (nq : (qs.map (·.1)).Nodup) : sameD (sortS (bothP ps qs)) (sortS (bothP qs ps)) = true :=
  same_perm (by rw [sortS_names]; exact nodup_canon _) ((sortS_perm (bothP_nd np nq)).trans ((both_comm np nq).trans (sortS_perm (bothP_nd nq np)).symm))
theorem nrm_norm {ps : Ps} (nd : (ps.map (·.1)).Nodup) (nm : Nrm ps) : Nrm (normS ps) := fun p hp => nm p ((normS_perm nd nm).mem_iff.mp hp)
theorem both_self_same {ps : Ps} (np : (ps.map (·.1)).Nodup) (nm : Nrm ps) : sameD (sortS (bothP ps ps)) ps = true := by
  refine same_perm np ((sortS_perm (bothP_nd np np)).trans (perm_get (bothP_nd np np) np (fun z => by rw [both_mem, or_self]) fun z hz => ?_))
  have m : z ∈ ps.map (·.1) := (both_mem.mp hz).elim id id
  rw [both_get np np (.inl m), if_pos m, if_pos m]
  exact join_self (nm _ (mem_names np m))
/-- pairs of few marks and links -/
def Few (ps : Ps) : Prop := ∀ p ∈ ps, p.2.1.items.length ≤ 30 ∧ p.2.2.items.length ≤ 30
theorem few_get {ps : Ps} (nd : (ps.map (·.1)).Nodup) (f : Few ps) (z : Str) : (getP ps z).1.items.length ≤ 30 ∧ (getP ps z).2.items.length ≤ 30 := by
  by_cases m : z ∈ ps.map (·.1)
  · exact f _ (mem_names nd m)
  · rw [get_off m]
    exact ⟨Nat.zero_le _, Nat.zero_le _⟩
theorem few_jn {ps qs : Ps} (nq : (qs.map (·.1)).Nodup) (fp : Few ps) (fq : Few qs) : Jn ps qs := fun p hp _ => by
  obtain ⟨a1, a2⟩ := fp p hp
  obtain ⟨b1, b2⟩ := few_get nq fq p.1
  exact ⟨by omega, by omega⟩
theorem few_norm {ps : Ps} (nd : (ps.map (·.1)).Nodup) (nm : Nrm ps) (f : Few ps) : Few (normS ps) := fun p hp => f p ((normS_perm nd nm).mem_iff.mp hp)
theorem normS_len {ps : Ps} (nd : (ps.map (·.1)).Nodup) (nm : Nrm ps) : (normS ps).length = ps.length := (normS_perm nd nm).length_eq
theorem ne_no {b : Bool} (e : b = true) : V.bl (if true = true then !b else b) = V.bl false := by rw [e]; rfl
theorem eq_yes {b : Bool} (e : b = true) : V.bl (if false = true then !b else b) = V.bl true := by rw [e]; rfl
theorem sort_mem {qs : Ps} {y : Str} : y ∈ (sortS qs).map (·.1) ↔ y ∈ qs.map (·.1) := by rw [sortS_names, mem_canon]
theorem paired_app {α β : Type} {R : α → β → Prop} : ∀ {xs : List α} {ys : List β} {x : α} {y : β}, Paired R xs ys → R x y → Paired R (xs ++ [x]) (ys ++ [y])
  | _, _, _, _, .nil, h => .cons h .nil
  | _, _, _, _, .cons a r, h => .cons a (paired_app r h)
theorem tts_each {α : Type} [DecidableEq α] [Datum α] {H : Hp} : ∀ {cs : List (V × α)}, (∀ c ∈ cs, Tt H c.1 c.2) → Tts H (cs.map (·.1)) (cs.map (·.2))
  | [], _ => .nil
  | c :: cs, h => .cons (h c List.mem_cons_self) (tts_each fun d hd => h d (List.mem_cons_of_mem _ hd))
theorem nu_cons (p : Str × Str) (ns : List (Str × Str)) (x : Str) : nu (p :: ns) x = if p.1 = x then p.2 else nu ns x := by
  unfold nu
  by_cases c : p.1 = x
  · rw [List.find?_cons_of_pos (by exact decide_eq_true c), if_pos c]
    rfl
  · rw [List.find?_cons_of_neg (by rw [decide_eq_true_eq]; exact c), if_neg c]
theorem nu_mem {x y : Str} : ∀ {ns : List (Str × Str)}, (ns.map (·.1)).Nodup → (x, y) ∈ ns → nu ns x = y
  | p :: ns, nd, h => by
    rw [List.map_cons, List.nodup_cons] at nd
    rw [nu_cons]
    rcases List.mem_cons.mp h with e | h
    · rw [← e, if_pos rfl]
    · have n : ¬ p.1 = x := fun e => nd.1 (List.mem_map.mpr ⟨(x, y), h, e.symm⟩)
      rw [if_neg n]
      exact nu_mem nd.2 h
theorem nu_out {x : Str} : ∀ {ns : List (Str × Str)}, x ∉ ns.map (·.1) → nu ns x = x
  | [], _ => rfl
  | p :: ns, h => by
    rw [List.map_cons, List.mem_cons, not_or] at h
    rw [nu_cons, if_neg fun e => h.1 e.symm]
    exact nu_out h.2
/-- a method told by its values -/
def MtR (P : Program) (w : World) (K : PySem.W.Frag) (mg : Str → Option Value) (base : Heap) (k : Nat) (C : Addr) (m : Str) (sp : Sp) : Prop := ∃ f : Addr, FnR P w K mg base CX0 k f sp ∧ Meth K C m f
section
variable {X : Cx} {k : Nat} {C : Addr} {m : Str} {sp : Sp} {o e : Expr} {es : List Expr} {ta : TE} {t : TA} {apos pos : Pos} {pl : Sem Bool}
theorem pe_mtr0 (c : Cls X.K C) (F : MtR X.prog X.w X.K X.mg X.base k C m sp) (hr : Room k X.A) (he : PE X o ta)
    (ht : eval (.Call (.Attribute o m apos) [] [] pos) X.env = (do
      let ov ← eval o X.env
      standAt apos.atName
      let (f, first) ← holding [ov] (getMethod ov m pl)
      callWith pos f first (backTo pos (starEach [] X.env)) (backToKw pos (keywordEach [] X.env))) := by rfl) : PE X (.Call (.Attribute o m apos) [] [] pos) (tMethR C m sp E0 ta tNil) := by
  obtain ⟨f, G, M⟩ := F
  exact pe_methR0 he c M G hr pass0 ht
theorem pe_mtr (c : Cls X.K C) (F : MtR X.prog X.w X.K X.mg X.base k C m sp) (hr : Room k X.A) (he : PE X o ta) (ha : PA X (e :: es) t)
    (hst : starEach (e :: es) X.env = (false, eval e X.env) :: starEach es X.env := by rfl) (hpl : (backTo pos (starEach es X.env)).any (·.1) = false := by rfl)
    (ht : eval (.Call (.Attribute o m apos) (e :: es) [] pos) X.env = (do
      let ov ← eval o X.env
      standAt apos.atName
      let (f, first) ← holding [ov] (getMethod ov m pl)
      callWith pos f first (backTo pos (starEach (e :: es) X.env)) (backToKw pos (keywordEach [] X.env))) := by rfl) : PE X (.Call (.Attribute o m apos) (e :: es) [] pos) (tMethR C m sp E0 ta t) := by
  obtain ⟨f, G, M⟩ := F
  exact pe_methR he c M G hr pass0 ha hst hpl ht
end
/-- an own operator -/
def BnN (P : Program) (w : World) (K : PySem.W.Frag) (mg : Str → Option Value) (base : Heap) (k : Nat) (C : Addr) (op : Operator) (sp : Sp) : Prop := ∃ f : Addr, FnR P w K mg base CX0 k f sp ∧ PySem.W.findIn K (.ref C) (PySem.dunder op.info.2) = some (some (.ref f)) ∧ PySem.W.isFn K (.ref f) = true ∧ PySem.W.selfFirst K C = true
theorem op_binN {X : Cx} {k : Nat} {C : Addr} {sp : Sp} {op : Operator} (F : BnN X.prog X.w X.K X.mg X.base k C op sp) (hr : Room k X.A) : OpR X (binaryOp op) (rBinO C sp E0) := by
  obtain ⟨f, G, h1, h2, h3⟩ := F
  exact op_binO h1 h2 h3 G hr pass0
/-- names drawn or left out, over any walk -/
theorem lc_drawW {J : It} {G : Hp → Prop} {d D : Addr} {zs : List Str} {tt : TT} {te : TE} {i : Nat} {σ : L2.St} {H1 : Hp} {Qd : Hp → Prop} (wk : Walk J zs.length G (YAt (zs.map V.str))) (hd : Dice H1 d) (nD : H1 D = none) (hG : ∀ H, Nr d H1 H → G H) (lz : zs.length ≤ 60)
    (ht : ∀ z ∈ zs, ∀ H, Nr d H1 H → Dice H d → ∀ R : Bool → Hp → Prop, (∀ b H', Nr d H H' → Dice H' d → R b H') → tt ((wipe σ [i]).set i (some (.str z))) H R)
    (he : ∀ z H (R : VK), R (.str z) H → te ((wipe σ [i]).set i (some (.str z))) H R)
    (hq : ∀ (H : Hp) (ys : List Str), Nr d H1 H → Dice H d → ys.Sublist zs → H D = some (.lst (ys.map V.str)) → Qd H) :
    ∃ W : Nat → Nat → Hp → Prop, (∃ m, W 0 m (upd H1 D (.lst []))) ∧ ∀ j m H, W j m H →
      (J.stop j H ∧ Qd H) ∨ (J.go j H ∧ ∃ Nx : Hp → Prop, (∀ H', Nx H' → ∃ m', m' < m ∧ W (j + 1) m' H') ∧ ∀ x H', J.yld j H x H' → gName i x (wipe σ [i]) H' fun σ2 H2 => wipe σ2 [i] = wipe σ [i] ∧ tt σ2 H2 fun b H3 =>
        if b = true then te σ2 H3 fun y H4 => ∃ acc, H4 D = some (.lst acc) ∧ acc.length < sizeLine ∧ Nx (upd H4 D (.lst (acc ++ [y]))) else Nx H3) := by
  have dD : d ≠ D := dice_ne hd nD
  refine lc_it wk (fun j H => Nr d H1 H ∧ Dice H d ∧ ∃ ys : List Str, ys.Sublist (zs.take j) ∧ H D = some (.lst (ys.map V.str))) ⟨(same_new nD).nr, hd.same (same_new nD), [], List.nil_sublist _, upd_same⟩ (fun j H _ p => hG H p.1) (fun j x H H' hj p y => ?_) fun H p => ?_
  · obtain ⟨nr, dc, ys, sub, eD⟩ := p
    obtain ⟨rfl, ex⟩ := y
    rw [List.getElem?_map, List.getElem?_eq_getElem hj] at ex
    have ex' : V.str zs[j] = x := Option.some.inj ex
    subst ex'
    have tk : zs.take (j + 1) = zs.take j ++ [zs[j]] := by rw [List.take_add_one, List.getElem?_eq_getElem hj]; rfl
    refine ⟨by simp [wipe], ht _ (List.getElem_mem hj) H' nr dc _ fun b H3 n3 dc3 => ?_⟩
    have eD3 := n3 D _ dD.symm eD
    cases b with
    | false => exact iteF ⟨nr.trans n3, dc3, ys, by rw [tk]; exact sub.trans (List.sublist_append_left _ _), eD3⟩
    | true =>
      refine iteT (he _ _ _ ⟨_, eD3, ?_, ?_, ?_, ys ++ [zs[j]], by rw [tk]; exact sub.append (List.Sublist.refl _), by rw [upd_same, List.map_append]; rfl⟩)
      · have := sub.length_le
        rw [List.length_map]
        rw [List.length_take] at this
        exact small1000 (by omega)
      · intro b o nb e
        rw [upd_ne (ne_of_none e nD)]
        exact n3 b o nb (nr b o nb e)
      · obtain ⟨x1, x2, x3, x4, x5⟩ := dc3
        exact ⟨x1, x2, x3, x4, by rw [upd_ne dD]; exact x5⟩
  · obtain ⟨nr, dc, ys, sub, eD⟩ := p
    rw [List.take_length] at sub
    exact hq H ys nr dc sub eD
/-- a new dict from a list of pairs of texts: the comprehension -/
theorem lc_pairs {J : It} {G : Hp → Prop} {D : Addr} {xs : List Str} {g : Str → Str × Str} {te : TE} {i : Nat} {σ : L2.St} {H1 : Hp} {Qd : Hp → Prop} (wk : Walk J xs.length G (YAt (xs.map V.str))) (nD : H1 D = none) (hG : ∀ H, Same H1 H → G H) (lx : xs.length ≤ 60)
    (he : ∀ x ∈ xs, ∀ H, Same H1 H → ∀ R : VK, (∀ p, H p = none → R (.ref p) (upd H p (.tup [.str (g x).1, .str (g x).2]))) → te ((wipe σ [i]).set i (some (.str x))) H R)
    (hq : ∀ (H : Hp) (ts : List Addr), Same H1 H → H D = some (.lst (ts.map V.ref)) → Paired (fun (p : Addr) (kv : Key × V) => H p = some (.tup [kV kv.1, kv.2])) ts (kvT (xs.map g)) → Qd H) :
    ∃ W : Nat → Nat → Hp → Prop, (∃ m, W 0 m (upd H1 D (.lst []))) ∧ ∀ j m H, W j m H →
      (J.stop j H ∧ Qd H) ∨ (J.go j H ∧ ∃ Nx : Hp → Prop, (∀ H', Nx H' → ∃ m', m' < m ∧ W (j + 1) m' H') ∧ ∀ x H', J.yld j H x H' → gName i x (wipe σ [i]) H' fun σ2 H2 => wipe σ2 [i] = wipe σ [i] ∧ tYes σ2 H2 fun b H3 =>
        if b = true then te σ2 H3 fun y H4 => ∃ acc, H4 D = some (.lst acc) ∧ acc.length < sizeLine ∧ Nx (upd H4 D (.lst (acc ++ [y]))) else Nx H3) := by
  refine lc_it wk (fun j H => Same H1 H ∧ ∃ ts : List Addr, H D = some (.lst (ts.map V.ref)) ∧ Paired (fun (p : Addr) (kv : Key × V) => H p = some (.tup [kV kv.1, kv.2])) ts (kvT ((xs.take j).map g)) ∧ ts.length = min j xs.length) ⟨same_new nD, [], upd_same, .nil, by simp⟩ (fun j H _ p => hG H p.1) (fun j x H H' hj p y => ?_) fun H p => ?_
  · obtain ⟨s, ts, eD, pt, lt⟩ := p
    obtain ⟨rfl, ex⟩ := y
    rw [List.getElem?_map, List.getElem?_eq_getElem hj] at ex
    have ex' : V.str xs[j] = x := Option.some.inj ex
    subst ex'
    have tk : xs.take (j + 1) = xs.take j ++ [xs[j]] := by rw [List.take_add_one, List.getElem?_eq_getElem hj]; rfl
    have mx : xs[j] ∈ xs := List.getElem_mem hj
    generalize xs[j] = e at tk mx ⊢
    refine ⟨by simp [wipe], ?_⟩
    unfold tYes
    simp only [↓reduceIte]
    refine he e mx H' s _ fun p3 n3 => ?_
    have e6 : (upd H' p3 (.tup [.str (g e).1, .str (g e).2])) p3 = some (.tup [.str (g e).1, .str (g e).2]) := upd_same
    have s6 : Same H' (upd H' p3 (.tup [.str (g e).1, .str (g e).2])) := same_new n3
    generalize upd H' p3 (.tup [.str (g e).1, .str (g e).2]) = G6 at *
    have d6 := s6 _ _ eD
    have nDp : ∀ b xs, G6 b = some (.tup xs) → (upd G6 D (.lst (ts.map V.ref ++ [.ref p3]))) b = some (.tup xs) := fun b xs eb => by
      rw [upd_ne (ne_of eb d6 (fun z' => nomatch z'))]
      exact eb
    refine ⟨_, d6, by rw [List.length_map]; exact small1000 (by omega), (s.trans s6).mut nD, ts ++ [p3], ?_, ?_, ?_⟩
    · rw [upd_same, List.map_append]
      rfl
    · rw [tk, List.map_append]
      unfold kvT
      rw [List.map_append]
      exact paired_app (Paired.mapP pt fun p kv h => nDp _ _ (s6 _ _ h)) (nDp _ _ e6)
    · rw [List.length_append, List.length_singleton, lt]
      omega
  · obtain ⟨s, ts, eD, pt, lt⟩ := p
    rw [List.take_length] at pt
    exact hq H ts s eD pt
theorem kvT_merge {ns : List (Str × Str)} (nd : (ns.map (·.1)).Nodup) : mergeK [] (kvT ns) = kvT ns := by
  refine merge_acc (kvT ns) [] ?_
  have e : (kvT ns).map (·.1) = (ns.map (·.1)).map Sum.inr := by
    unfold kvT
    rw [List.map_map, List.map_map]
    rfl
  rw [List.nil_append, e]
  exact nodup_mapOn nd fun a _ b _ h => Sum.inr.inj h
theorem kvT_snoc (ns : List (Str × Str)) (p : Str × Str) : kvT (ns ++ [p]) = kvT ns ++ [(Sum.inr p.1, .str p.2)] := by
  unfold kvT
  rw [List.map_append]
  rfl
theorem wholeN_len (ns : List (Str × Str)) (xs : List Str) : (wholeN ns xs).length = xs.length := List.length_map ..
end Tf

/-! a store as three lists -/
namespace Tf
open PySem PySem.Spec PyProof.Rows L2 PySem.W
abbrev Tri := T3 Str Str Str
/-- pairs of thing and mark, triples of thing, kind and end -/
def rM (ps : Ps) : List (Str × Str) := ps.flatMap fun p => p.2.1.items.map fun m => (p.1, m)
def rL (ps : Ps) : List Tri := ps.flatMap fun p => p.2.2.items.map fun l => T3.mk p.1 l.1 l.2
def flN (ps : Ps) : List Str := canon (ps.map (·.1))
def flM (ps : Ps) : List (Str × Str) := setO (rM ps)
def flL (ps : Ps) : List Tri := setO (rL ps)
/-- what a store keeps through a history -/
structure Hs (ms ks : List Str) (ps : Ps) : Prop where
  nd : (ps.map (·.1)).Nodup
  nm : Nrm ps
  wd : ∀ z ∈ ps.map (·.1), nameB z = true
  mm : ∀ p ∈ ps, ∀ m ∈ p.2.1.items, m ∈ ms
  ml : ∀ p ∈ ps, ∀ l ∈ p.2.2.items, l.1 ∈ ks ∧ l.2 ∈ ps.map (·.1)
section
variable {ms ks : List Str} {ps : Ps}
theorem mem_rM (nd : (ps.map (·.1)).Nodup) {e : Str × Str} : e ∈ rM ps ↔ e.2 ∈ (getP ps e.1).1.items := by
  unfold rM
  rw [List.mem_flatMap]
  constructor
  · rintro ⟨p, hp, h⟩
    obtain ⟨m, hm, rfl⟩ := List.mem_map.mp h
    show m ∈ (getP ps p.1).1.items
    rw [getP_mem nd (show (p.1, p.2) ∈ ps from hp)]
    exact hm
  · intro h
    by_cases c : e.1 ∈ ps.map (·.1)
    · exact ⟨_, mem_names nd c, List.mem_map.mpr ⟨e.2, h, rfl⟩⟩
    · rw [get_off c] at h
      cases h
theorem mem_rL (nd : (ps.map (·.1)).Nodup) {e : Tri} : e ∈ rL ps ↔ (e.b, e.c) ∈ (getP ps e.a).2.items := by
  unfold rL
  rw [List.mem_flatMap]
  constructor
  · rintro ⟨p, hp, h⟩
    obtain ⟨l, hl, rfl⟩ := List.mem_map.mp h
    show (l.1, l.2) ∈ (getP ps p.1).2.items
    rw [getP_mem nd (show (p.1, p.2) ∈ ps from hp)]
    exact hl
  · intro h
    by_cases c : e.a ∈ ps.map (·.1)
    · exact ⟨_, mem_names nd c, List.mem_map.mpr ⟨(e.b, e.c), h, rfl⟩⟩
    · rw [get_off c] at h
      cases h
theorem nodup_flat {α β : Type} {f : α → List β} : ∀ {xs : List α}, xs.Nodup → (∀ x ∈ xs, (f x).Nodup) → (∀ x ∈ xs, ∀ y ∈ xs, x ≠ y → ∀ z, z ∈ f x → z ∉ f y) → (xs.flatMap f).Nodup
  | [], _, _, _ => List.nodup_nil
  | x :: xs, nd, h1, h2 => by
    have nd' := List.nodup_cons.mp nd
    rw [List.flatMap_cons, List.nodup_append]
    refine ⟨h1 x List.mem_cons_self, nodup_flat nd'.2 (fun y hy => h1 y (List.mem_cons_of_mem _ hy)) (fun y hy w hw => h2 y (List.mem_cons_of_mem _ hy) w (List.mem_cons_of_mem _ hw)), fun a ha b hb e => ?_⟩
    obtain ⟨y, hy, hb'⟩ := List.mem_flatMap.mp hb
    exact h2 x List.mem_cons_self y (List.mem_cons_of_mem _ hy) (fun e2 => nd'.1 (e2 ▸ hy)) a ha (e ▸ hb')
theorem nrm_marks (nm : Nrm ps) {p : Str × Pr} (hp : p ∈ ps) : p.2.1.items.Nodup := by
  have e := congrArg (fun q : Pr => q.1.items) (nm p hp)
  have e' : canon p.2.1.items = p.2.1.items := e
  rw [← e']
  exact nodup_canon _
theorem nrm_links (nm : Nrm ps) {p : Str × Pr} (hp : p ∈ ps) : p.2.2.items.Nodup := by
  have e := congrArg (fun q : Pr => q.2.items) (nm p hp)
  have e' : setO p.2.2.items = p.2.2.items := e
  rw [← e']
  exact nodup_setO _
theorem fst_ne (nd : (ps.map (·.1)).Nodup) {p q : Str × Pr} (hp : p ∈ ps) (hq : q ∈ ps) (ne : p ≠ q) : p.1 ≠ q.1 := fun e => ne (inj_nd nd hp hq e)
theorem nd_rM (nd : (ps.map (·.1)).Nodup) (nm : Nrm ps) : (rM ps).Nodup := by
  refine nodup_flat (nd_of nd) (fun p hp => nodup_mapOn (nrm_marks nm hp) fun a _ b _ e => congrArg (fun q : Str × Str => q.2) e) fun p hp q hq ne z hz hz' => ?_
  obtain ⟨m, _, rfl⟩ := List.mem_map.mp hz
  obtain ⟨m', _, e⟩ := List.mem_map.mp hz'
  exact fst_ne nd hp hq ne (congrArg (fun q : Str × Str => q.1) e).symm
theorem nd_rL (nd : (ps.map (·.1)).Nodup) (nm : Nrm ps) : (rL ps).Nodup := by
  refine nodup_flat (nd_of nd) (fun p hp => nodup_mapOn (nrm_links nm hp) fun a _ b _ e => Prod.ext (congrArg T3.b e) (congrArg T3.c e)) fun p hp q hq ne z hz hz' => ?_
  obtain ⟨m, _, rfl⟩ := List.mem_map.mp hz
  obtain ⟨m', _, e⟩ := List.mem_map.mp hz'
  exact fst_ne nd hp hq ne (congrArg T3.a e).symm
theorem flM_is (nd : (ps.map (·.1)).Nodup) (nm : Nrm ps) : sortO (rM ps) = flM ps := setO_nd (nd_rM nd nm)
theorem flL_is (nd : (ps.map (·.1)).Nodup) (nm : Nrm ps) : sortO (rL ps) = flL ps := setO_nd (nd_rL nd nm)
/-- the same names and pairs: the same lists -/
theorem fl_congr {qs : Ps} (np : (ps.map (·.1)).Nodup) (nq : (qs.map (·.1)).Nodup) (m : ∀ z, z ∈ ps.map (·.1) ↔ z ∈ qs.map (·.1)) (g : ∀ z, getP ps z = getP qs z) : flN ps = flN qs ∧ flM ps = flM qs ∧ flL ps = flL qs :=
  ⟨canon_congr m, setO_congr fun e => by rw [mem_rM np, mem_rM nq, g], setO_congr fun e => by rw [mem_rL np, mem_rL nq, g]⟩
theorem get_perm {qs : Ps} (np : (ps.map (·.1)).Nodup) (p : ps.Perm qs) (z : Str) : getP ps z = getP qs z := by
  have nq : (qs.map (·.1)).Nodup := (p.map (·.1)).nodup_iff.mp np
  by_cases c : z ∈ ps.map (·.1)
  · exact (getP_mem nq (p.mem_iff.mp (mem_names np c))).symm
  · rw [get_off c, get_off fun h => c ((p.map (·.1)).mem_iff.mpr h)]
theorem fl_perm {qs : Ps} (np : (ps.map (·.1)).Nodup) (p : ps.Perm qs) : flN ps = flN qs ∧ flM ps = flM qs ∧ flL ps = flL qs :=
  fl_congr np ((p.map (·.1)).nodup_iff.mp np) (fun z => (p.map (·.1)).mem_iff) (get_perm np p)
/-- a store again, in order -/
theorem Hs.perm {qs : Ps} (h : Hs ms ks ps) (p : qs.Perm ps) : Hs ms ks qs :=
  ⟨(p.map (·.1)).nodup_iff.mpr h.nd, fun q hq => h.nm q (p.mem_iff.mp hq), fun z hz => h.wd z ((p.map (·.1)).mem_iff.mp hz), fun q hq => h.mm q (p.mem_iff.mp hq), fun q hq l hl => ⟨(h.ml q (p.mem_iff.mp hq) l hl).1, (p.map (·.1)).mem_iff.mpr (h.ml q (p.mem_iff.mp hq) l hl).2⟩⟩
theorem Hs.sort (h : Hs ms ks ps) : Hs ms ks (sortS ps) := h.perm (sortS_perm h.nd)
theorem Hs.get_m (h : Hs ms ks ps) (z : Str) : ∀ m ∈ (getP ps z).1.items, m ∈ ms := by
  by_cases c : z ∈ ps.map (·.1)
  · exact h.mm _ (mem_names h.nd c)
  · rw [get_off c]
    exact fun m hm => nomatch hm
theorem Hs.get_l (h : Hs ms ks ps) (z : Str) : ∀ l ∈ (getP ps z).2.items, l.1 ∈ ks ∧ l.2 ∈ ps.map (·.1) := by
  by_cases c : z ∈ ps.map (·.1)
  · exact h.ml _ (mem_names h.nd c)
  · rw [get_off c]
    exact fun m hm => nomatch hm
theorem canon_canon (zs : List Str) : canon (canon zs) = canon zs := canon_congr fun z => mem_canon
theorem Hs.set (h : Hs ms ks ps) {z : Str} {xs : List Str} {ls : List (Str × Str)} (wz : nameB z = true) (hx : ∀ x ∈ xs, x ∈ ms) (hl : ∀ l ∈ ls, l.1 ∈ ks ∧ (l.2 ∈ ps.map (·.1) ∨ l.2 = z)) : Hs ms ks (setP ps z (⟨canon xs⟩, ⟨setO ls⟩)) := by
  have nd := setP_nd (z := z) (x := ((⟨canon xs⟩, ⟨setO ls⟩) : Pr)) h.nd
  have mem : ∀ p ∈ setP ps z (⟨canon xs⟩, ⟨setO ls⟩), p.2 = (⟨canon xs⟩, ⟨setO ls⟩) ∨ p ∈ ps := fun p hp => by
    have e := getP_mem nd (show (p.1, p.2) ∈ _ from hp)
    rw [get_set] at e
    by_cases c : p.1 = z
    · rw [if_pos c] at e
      exact .inl e.symm
    · rw [if_neg c] at e
      have m : p.1 ∈ ps.map (·.1) := (mem_set.mp (List.mem_map.mpr ⟨p, hp, rfl⟩)).elim id fun e => absurd e c
      have := mem_names h.nd m
      rw [e] at this
      exact .inr this
  refine ⟨nd, fun p hp => ?_, fun y hy => ?_, fun p hp m hm => ?_, fun p hp l hl' => ?_⟩
  · rcases mem p hp with e | hp
    · rw [e]
      show ((⟨canon (canon xs)⟩, ⟨setO (setO ls)⟩) : Pr) = _
      rw [canon_canon, setO_setO]
    · exact h.nm p hp
  · rcases mem_set.mp hy with hy | rfl
    · exact h.wd y hy
    · exact wz
  · rcases mem p hp with e | hp
    · rw [e] at hm
      exact hx m (mem_canon.mp hm)
    · exact h.mm p hp m hm
  · rcases mem p hp with e | hp
    · rw [e] at hl'
      obtain ⟨h1, h2⟩ := hl l (mem_setO.mp hl')
      exact ⟨h1, mem_set.mpr h2⟩
    · obtain ⟨h1, h2⟩ := h.ml p hp l hl'
      exact ⟨h1, mem_set.mpr (.inl h2)⟩
theorem filterO {α : Type} [DecidableEq α] [OrdD α] {xs ys : List α} {f : α → Bool} (h : ∀ z, (z ∈ xs ∧ f z = true) ↔ z ∈ ys) : (setO xs).filter f = setO ys :=
  setO_is ((nodup_setO xs).filter f) (fun z => by rw [List.mem_filter, mem_setO]; exact h z) ((setO_pw xs).filter f)
theorem sortO_is {α : Type} [DecidableEq α] [OrdD α] {xs ys : List α} (nd : xs.Nodup) (h : ∀ z, z ∈ xs ↔ z ∈ ys) : sortO xs = setO ys := (setO_nd nd).trans (setO_congr h)
/-! ### what a change does to the lists -/
/-- one more thing -/
theorem fl_thing (h : Hs ms ks ps) {z : Str} (off : z ∉ ps.map (·.1)) : flN (setP ps z (⟨canon []⟩, ⟨setO []⟩)) = canon (flN ps ++ [z]) ∧ flM (setP ps z (⟨canon []⟩, ⟨setO []⟩)) = flM ps ∧ flL (setP ps z (⟨canon []⟩, ⟨setO []⟩)) = flL ps := by
  have nd := setP_nd (z := z) (x := ((⟨canon []⟩, ⟨setO []⟩) : Pr)) h.nd
  refine ⟨canon_congr fun y => ?_, setO_congr fun e => ?_, setO_congr fun e => ?_⟩
  · rw [mem_set, List.mem_append, List.mem_singleton]
    unfold flN
    rw [mem_canon]
  · rw [mem_rM nd, mem_rM h.nd, get_set]
    by_cases c : e.1 = z
    · rw [if_pos c, c, get_off off]
      show e.2 ∈ canon [] ↔ e.2 ∈ []
      rw [mem_canon]
    · rw [if_neg c]
  · rw [mem_rL nd, mem_rL h.nd, get_set]
    by_cases c : e.a = z
    · rw [if_pos c, c, get_off off]
      show (e.b, e.c) ∈ setO [] ↔ (e.b, e.c) ∈ []
      rw [mem_setO]
    · rw [if_neg c]
/-- one mark -/
theorem fl_marks (h : Hs ms ks ps) {z m : Str} (hz : z ∈ ps.map (·.1)) : flN (setP ps z (⟨canon [m, m]⟩, ⟨setO (getP ps z).2.items⟩)) = flN ps ∧ flM (setP ps z (⟨canon [m, m]⟩, ⟨setO (getP ps z).2.items⟩)) = sortO (((flM ps).filter fun e => !decide (e.1 = z)) ++ [(z, m)]) ∧ flL (setP ps z (⟨canon [m, m]⟩, ⟨setO (getP ps z).2.items⟩)) = flL ps := by
  have nd := setP_nd (z := z) (x := ((⟨canon [m, m]⟩, ⟨setO (getP ps z).2.items⟩) : Pr)) h.nd
  refine ⟨canon_congr fun y => ?_, ?_, setO_congr fun e => ?_⟩
  · rw [mem_set]
    exact ⟨fun h => h.elim id (fun e => e ▸ hz), .inl⟩
  · refine (sortO_is ?_ fun e => ?_).symm
    · refine List.nodup_append.mpr ⟨(nodup_setO _).filter _, by simp, fun a ha b hb e => ?_⟩
      rw [List.mem_singleton.mp hb] at e
      have := (List.mem_filter.mp ha).2
      rw [e, decide_eq_true rfl] at this
      cases this
    · rw [mem_rM nd, get_set, List.mem_append, List.mem_filter, List.mem_singleton]
      unfold flM
      rw [mem_setO, mem_rM h.nd]
      by_cases c : e.1 = z
      · rw [if_pos c, decide_eq_true c]
        show (_ ∧ false = true) ∨ _ ↔ e.2 ∈ canon [m, m]
        rw [mem_canon]
        constructor
        · rintro (⟨_, h⟩ | h)
          · cases h
          · rw [h]
            exact List.mem_cons_self
        · intro h
          have : e.2 = m := by
            rcases List.mem_cons.mp h with h | h
            · exact h
            · exact List.mem_singleton.mp h
          exact .inr (Prod.ext c this)
      · rw [if_neg c, decide_eq_false c]
        exact ⟨fun h => h.elim (fun h => h.1) (fun h => absurd (congrArg (fun q : Str × Str => q.1) h) c), fun h => .inl ⟨h, rfl⟩⟩
  · rw [mem_rL nd, mem_rL h.nd, get_set]
    by_cases c : e.a = z
    · rw [if_pos c, c]
      exact mem_setO
    · rw [if_neg c]
/-- a link less -/
theorem fl_unlink (h : Hs ms ks ps) {t : Tri} (ht : t ∈ rL ps) : flN (setP ps t.a (unlinkP (getP ps t.a) (t.b, t.c))) = flN ps ∧ flM (setP ps t.a (unlinkP (getP ps t.a) (t.b, t.c))) = flM ps ∧ flL (setP ps t.a (unlinkP (getP ps t.a) (t.b, t.c))) = (flL ps).filter fun e => !decide (e = t) := by
  have nd := setP_nd (z := t.a) (x := unlinkP (getP ps t.a) (t.b, t.c)) h.nd
  have hz : t.a ∈ ps.map (·.1) := by
    by_cases c : t.a ∈ ps.map (·.1)
    · exact c
    · have := (mem_rL h.nd).mp ht
      rw [get_off c] at this
      cases this
  refine ⟨canon_congr fun y => ?_, setO_congr fun e => ?_, ?_⟩
  · rw [mem_set]
    exact ⟨fun h => h.elim id (fun e => e ▸ hz), .inl⟩
  · rw [mem_rM nd, mem_rM h.nd, get_set]
    by_cases c : e.1 = t.a
    · rw [if_pos c, c]
      exact mem_canon
    · rw [if_neg c]
  · refine (filterO fun e => ?_).symm
    rw [mem_rL nd, mem_rL h.nd, get_set]
    by_cases c : e.a = t.a
    · rw [if_pos c, c]
      show _ ↔ (e.b, e.c) ∈ setO ((getP ps t.a).2.items.filter fun l => !decide (l = (t.b, t.c)))
      rw [mem_setO, List.mem_filter]
      have ed : decide (e = t) = decide ((e.b, e.c) = (t.b, t.c)) := decide_eq_decide.mpr ⟨fun h => by rw [h], fun h => T3.same c (congrArg (fun q : Str × Str => q.1) h) (congrArg (fun q : Str × Str => q.2) h)⟩
      rw [ed]
    · rw [if_neg c]
      have ne : e ≠ t := fun h => c (by rw [h])
      rw [decide_eq_false ne]
      exact ⟨fun h => h.1, fun h => ⟨h, rfl⟩⟩
/-- a link more -/
theorem fl_link (h : Hs ms ks ps) {z k y : Str} (hz : z ∈ ps.map (·.1)) : flN (setP ps z (linkP (getP ps z) (k, y))) = flN ps ∧ flM (setP ps z (linkP (getP ps z) (k, y))) = flM ps ∧ flL (setP ps z (linkP (getP ps z) (k, y))) = setO (flL ps ++ [T3.mk z k y]) := by
  have nd := setP_nd (z := z) (x := linkP (getP ps z) (k, y)) h.nd
  refine ⟨canon_congr fun y => ?_, setO_congr fun e => ?_, setO_congr fun e => ?_⟩
  · rw [mem_set]
    exact ⟨fun h => h.elim id (fun e => e ▸ hz), .inl⟩
  · rw [mem_rM nd, mem_rM h.nd, get_set]
    by_cases c : e.1 = z
    · rw [if_pos c, c]
      exact mem_canon
    · rw [if_neg c]
  · rw [mem_rL nd, get_set, List.mem_append, List.mem_singleton]
    unfold flL
    rw [mem_setO, mem_rL h.nd]
    by_cases c : e.a = z
    · rw [if_pos c, c]
      show (e.b, e.c) ∈ setO ((getP ps z).2.items ++ [(k, y)]) ↔ _
      rw [mem_setO, List.mem_append, List.mem_singleton]
      exact or_congr Iff.rfl ⟨fun h => T3.same c (congrArg (fun q : Str × Str => q.1) h) (congrArg (fun q : Str × Str => q.2) h), fun h => by rw [h]⟩
    · rw [if_neg c]
      exact ⟨.inl, fun h => h.elim id fun h => absurd (congrArg T3.a h) c⟩
/-- a thing less -/
theorem get_wout {z y : Str} (nd : (ps.map (·.1)).Nodup) : getP (woutP ps z) y = if y = z then (⟨[]⟩, ⟨[]⟩) else cutP z (getP ps y) := by
  have nw := woutP_nd (z := z) nd
  by_cases c : y = z
  · rw [if_pos c]
    refine get_off fun h => ?_
    rw [woutP_names, List.mem_filter] at h
    have := h.2
    rw [decide_eq_true c] at this
    cases this
  · rw [if_neg c]
    by_cases m : y ∈ ps.map (·.1)
    · have := mem_names nd m
      refine getP_mem nw ?_
      unfold woutP
      exact List.mem_map.mpr ⟨(y, getP ps y), List.mem_filter.mpr ⟨this, by rw [decide_eq_false c]; rfl⟩, rfl⟩
    · rw [get_off m]
      refine (get_off fun h => ?_).trans rfl
      rw [woutP_names, List.mem_filter] at h
      exact m h.1
theorem Hs.wout (h : Hs ms ks ps) (z : Str) : Hs ms ks (woutP ps z) := by
  have mem : ∀ p ∈ woutP ps z, ∃ q ∈ ps, p = (q.1, cutP z q.2) ∧ q.1 ≠ z := fun p hp => by
    unfold woutP at hp
    obtain ⟨q, hq, rfl⟩ := List.mem_map.mp hp
    obtain ⟨h1, h2⟩ := List.mem_filter.mp hq
    refine ⟨q, h1, rfl, fun e => ?_⟩
    rw [decide_eq_true e] at h2
    cases h2
  refine ⟨woutP_nd h.nd, fun p hp => ?_, fun y hy => ?_, fun p hp m hm => ?_, fun p hp l hl => ?_⟩
  · obtain ⟨q, hq, rfl, _⟩ := mem p hp
    have e := h.nm q hq
    have e1 : canon q.2.1.items = q.2.1.items := congrArg (fun q : Pr => q.1.items) e
    have e2 : setO q.2.2.items = q.2.2.items := congrArg (fun q : Pr => q.2.items) e
    have e3 : setO (q.2.2.items.filter fun l => !decide (l.2 = z)) = q.2.2.items.filter fun l => !decide (l.2 = z) := by
      have := filterO (xs := q.2.2.items) (ys := q.2.2.items.filter fun l => !decide (l.2 = z)) (f := fun l => !decide (l.2 = z)) fun l => by rw [List.mem_filter]
      rw [e2] at this
      exact this.symm
    show ((⟨canon q.2.1.items⟩, ⟨setO (q.2.2.items.filter fun l => !decide (l.2 = z))⟩) : Pr) = (q.2.1, ⟨q.2.2.items.filter fun l => !decide (l.2 = z)⟩)
    rw [e1, e3]
  · rw [woutP_names, List.mem_filter] at hy
    exact h.wd y hy.1
  · obtain ⟨q, hq, rfl, _⟩ := mem p hp
    exact h.mm q hq m hm
  · obtain ⟨q, hq, rfl, _⟩ := mem p hp
    obtain ⟨h1, h2⟩ := List.mem_filter.mp (show l ∈ q.2.2.items.filter fun l => !decide (l.2 = z) from hl)
    obtain ⟨h3, h4⟩ := h.ml q hq l h1
    refine ⟨h3, ?_⟩
    rw [woutP_names]
    exact List.mem_filter.mpr ⟨h4, h2⟩
theorem fl_wout (h : Hs ms ks ps) {z : Str} : flN (woutP ps z) = (flN ps).filter (fun y => !decide (y = z)) ∧ flM (woutP ps z) = (flM ps).filter (fun e => !decide (e.1 = z)) ∧ flL (woutP ps z) = (flL ps).filter (fun e => !(decide (z = e.a) || decide (z = e.c))) := by
  have nw := woutP_nd (z := z) h.nd
  refine ⟨?_, (filterO fun e => ?_).symm, (filterO fun e => ?_).symm⟩
  · unfold flN
    rw [woutP_names, ← setO_str, ← setO_str]
    exact (filterO fun y => List.mem_filter.symm).symm
  · rw [mem_rM nw, mem_rM h.nd, get_wout h.nd]
    by_cases c : e.1 = z
    · rw [if_pos c, decide_eq_true c]
      constructor
      · intro h
        cases h.2
      · intro h
        cases h
    · rw [if_neg c, decide_eq_false c]
      exact ⟨fun h => h.1, fun h => ⟨h, rfl⟩⟩
  · rw [mem_rL nw, mem_rL h.nd, get_wout h.nd]
    by_cases c : e.a = z
    · rw [if_pos c, decide_eq_true c.symm]
      constructor
      · intro h
        cases h.2
      · intro h
        cases h
    · rw [if_neg c, decide_eq_false fun h => c h.symm]
      show _ ↔ (e.b, e.c) ∈ (getP ps e.a).2.items.filter fun l => !decide (l.2 = z)
      rw [List.mem_filter]
      have ed : decide (z = e.c) = decide ((e.b, e.c).2 = z) := decide_eq_decide.mpr ⟨fun h => h.symm, fun h => h.symm⟩
      rw [Bool.false_or, ed]
end
end Tf

/-! the law's own lists: _law_flat -/
namespace Tf
open PySem PySem.Spec PyProof.Rows L2 PySem.W
abbrev sFt : Stmt := top 47
abbrev nFt : List Str := ["_law_store_here", "_law_marked", "_law_linked", "_law_name", "_law_mark", "_law_sort", "_law_end"]
theorem scFt : FnScope nFt ["_law_store_here"] (defScope sFt) := ⟨rfl, rfl, rfl, by decide +kernel, rfl, by decide +kernel, by decide +kernel⟩
/-- three lists stand at p -/
def FlatA (H : Hp) (p n m l : Addr) (zs : List Str) (es : List (Str × Str)) (ts : List Tri) : Prop := ∃ (vm vl : List V), H p = some (.tup [.ref n, .ref m, .ref l]) ∧ H n = some (.lst (zs.map V.str)) ∧ H m = some (.lst vm) ∧ Tts H vm es ∧ H l = some (.lst vl) ∧ Tts H vl ts
theorem FlatA.same {H H' : Hp} {p n m l : Addr} {zs : List Str} {es : List (Str × Str)} {ts : List Tri} (f : FlatA H p n m l zs es ts) (s : Same H H') : FlatA H' p n m l zs es ts := by
  obtain ⟨vm, vl, h1, h2, h3, h4, h5, h6⟩ := f
  exact ⟨vm, vl, s _ _ h1, s _ _ h2, s _ _ h3, h4.kq s.kq, s _ _ h5, h6.kq s.kq⟩
theorem tts_no_int {α : Type} [DecidableEq α] [Datum α] {H : Hp} {xs : List V} {as : List α} (h : Tts H xs as) (hn : ∀ a : α, ∀ i : Int, Datum.toD a ≠ .int i) {i : Int} : V.int i ∉ xs := fun m => by
  obtain ⟨a, _, ta⟩ := tts_in h m
  unfold Tt at ta
  generalize hd : Datum.toD a = d at ta
  cases ta with
  | int => exact hn a _ hd
theorem FlatA.ne_d {H : Hp} {d p n m l : Addr} {zs : List Str} {es : List (Str × Str)} {ts : List Tri} (f : FlatA H p n m l zs es ts) (dc : Dice H d) : n ≠ d ∧ m ≠ d ∧ l ≠ d := by
  obtain ⟨vm, vl, h1, h2, h3, h4, h5, h6⟩ := f
  obtain ⟨x1, x2, x3, x4, e⟩ := dc
  have nd : n ≠ d := fun c => by
    rw [c, e] at h2
    have := Option.some.inj h2
    injection this with this
    cases zs <;> cases this
  have md : m ≠ d := fun c => by
    rw [c, e] at h3
    have := Option.some.inj h3
    injection this with this
    exact tts_no_int h4 (fun a i c => by cases c) (this ▸ List.mem_cons_self)
  have ld : l ≠ d := fun c => by
    rw [c, e] at h5
    have := Option.some.inj h5
    injection this with this
    exact tts_no_int h6 (fun a i c => by cases c) (this ▸ List.mem_cons_self)
  exact ⟨nd, md, ld⟩
theorem FlatA.nr {H H' : Hp} {d p n m l : Addr} {zs : List Str} {es : List (Str × Str)} {ts : List Tri} (f : FlatA H p n m l zs es ts) (nr : Nr d H H') (dc : Dice H d) : FlatA H' p n m l zs es ts := by
  obtain ⟨nd, md, ld⟩ := f.ne_d dc
  obtain ⟨vm, vl, h1, h2, h3, h4, h5, h6⟩ := f
  have q := nr.kq dc
  exact ⟨vm, vl, q.tup h1, nr _ _ nd h2, nr _ _ md h3, h4.kq q, nr _ _ ld h5, h6.kq q⟩
def spFt : Sp := fun vs H Q _ => ∃ (t : Addr) (kvs : List (Key × V)) (ps : Ps), vs = [.ref t] ∧ H t = some (.dK kvs) ∧ PsR H kvs ps ∧ (ps.map (·.1)).Nodup ∧ Nrm ps ∧ ps.length ≤ 60 ∧ (∀ p ∈ ps, p.2.1.items.length ≤ 60 ∧ p.2.2.items.length ≤ 60) ∧ (rM ps).length ≤ 1000 ∧ (rL ps).length ≤ 1000 ∧
  ∀ (p n m l : Addr) (H' : Hp), Same H H' → H p = none → H n = none → H m = none → H l = none → FlatA H' p n m l (flN ps) (flM ps) (flL ps) → Q (.ref p) H'
section
variable {P : Program} {w : World} {K : PySem.W.Frag} {mg : Str → Option Value} {base : Heap}
theorem ok_ft {f : Addr} {fd : FuncData} {k : Nat} (F : Fun K "_law_flat" "_law_flat" sFt f fd) (mS : mg "sorted" = none) : FnOk P w K mg base CX0 (k + 1) f fd ["_law_store_here"] spFt := by
  refine F.ok scFt (fun vs H Q E h => ?_) (fun cdv A outer s H vs Q E hr h => ?_)
  · obtain ⟨t, kvs, ps, rfl, _⟩ := h
    rfl
  · obtain ⟨t, kvs, ps, rfl, ht, hps, nd, nrm, lp, ll, lM, lL, q⟩ := h
    have hu70 : (A.deeper (envOfC "_law_flat" (defScope sFt) s.heap.objs.size f cdv)).units + 70 < cLine := by have := hr.un; omega
    have hu : (A.deeper (envOfC "_law_flat" (defScope sFt) s.heap.objs.size f cdv)).units + 1 < cLine := by omega
    refine ⟨_, pss_cons (ps_par (i := 1) (j := 2) (by rfl) scFt.nd rfl rfl (by decide) rfl rfl (pa_cons (pe_lst pa_nil) (pa_cons (pe_lst pa_nil) pa_nil)) (by rfl))
      (pss_cons (ps_lock (ps_for PassesOwn.never rfl (pi_keys (pv 0)) (pg_name (i := 3) scFt.nd rfl (Or.inr rfl)) (pss_cons (ps_expr (pe_bm PySem.F.plainAttrs_list PySem.F.slot_list_extend PySem.F.type_list_extend mt_extend (pv 1) (pa_cons (pe_lc (own := [("_law_mark", 4)]) (g := gName 4) (tt := tYes) (te := tTup (tCons (tVar 3) (tCons (tVar 4) tNil))) (by rfl) scFt.nd (pi_tup (pe_ix ix_tup (pe_dget hu (pv 0) (pv 3) (fun _ _ => rfl)) pe_int (fun _ _ => rfl))) (blkOk_by (own := [("_law_mark", 4)]) (N := nFt) (sc := defScope sFt) (by decide +kernel)) (fun _ _ _ _ _ => pg_name (i := 4) scFt.nd rfl (Or.inl rfl)) (fun _ _ _ _ _ => pts_nil) (fun _ _ _ _ _ => pe_tup (pa_cons (pv 3) (pa_cons (pv 4) pa_nil)))) pa_nil))) (pss_one (ps_expr (pe_bm PySem.F.plainAttrs_list PySem.F.slot_list_extend PySem.F.type_list_extend mt_extend (pv 2) (pa_cons (pe_lc (own := [("_law_sort", 5), ("_law_end", 6)]) (g := gTup K 2 (gCons (gName 5) (gCons (gName 6) gNil))) (tt := tYes) (te := tTup (tCons (tVar 3) (tCons (tVar 5) (tCons (tVar 6) tNil)))) (by rfl) scFt.nd (pi_tup (pe_ix ix_tup (pe_dget hu (pv 0) (pv 3) (fun _ _ => rfl)) pe_int (fun _ _ => rfl))) (blkOk_by (own := [("_law_sort", 5), ("_law_end", 6)]) (N := nFt) (sc := defScope sFt) (by decide +kernel)) (fun _ _ _ _ _ => pg_tup (by rfl) (pgs_cons (pg_name (i := 5) scFt.nd rfl (Or.inl rfl)) (pgs_cons (pg_name (i := 6) scFt.nd rfl (Or.inl rfl)) pgs_nil))) (fun _ _ _ _ _ => pts_nil) (fun _ _ _ _ _ => pe_tup (pa_cons (pv 3) (pa_cons (pv 5) (pa_cons (pv 6) pa_nil))))) pa_nil)))))))
      (pss_one (ps_ret (pe_tup (pa_cons (pe_callB (call_sortedD rfl) (by rfl) mS (by decide +kernel) (pa_cons (pv 0) pa_nil)) (pa_cons (pe_callB (cr_sortA (α := Str × Str) hu70) (by rfl) mS (by decide +kernel) (pa_cons (pv 1) pa_nil)) (pa_cons (pe_callB (cr_sortA (α := Tri) hu70) (by rfl) mS (by decide +kernel) (pa_cons (pv 2) pa_nil)) pa_nil))))))), ?_⟩
    refine ⟨Nat.zero_le _, fun pm nm => ?_⟩
    have e0 : (upd H pm (.lst [])) pm = some (.lst []) := upd_same
    have s0 : Same H (upd H pm (.lst [])) := same_new nm
    generalize upd H pm (.lst []) = H0 at *
    refine ⟨Nat.zero_le _, fun pl nl => ?_⟩
    have e1 : (upd H0 pl (.lst [])) pl = some (.lst []) := upd_same
    have s1 : Same H0 (upd H0 pl (.lst [])) := same_new nl
    generalize upd H0 pl (.lst []) = H1 at *
    refine ⟨_, _, rfl, ?_⟩
    have S1 : Same H H1 := s0.trans s1
    have nlH : H pl = none := s0.free nl
    have eM := s1 _ _ e0
    have nml : pm ≠ pl := ne_of_none e0 nl
    have ntm : t ≠ pm := ne_of_none ht nm
    have ntl : t ≠ pl := ne_of_none ht nlH
    have ht1 := S1 _ _ ht
    refine ⟨t, _, ht1, trivial, fun od => ⟨.ref t, rfl, t, od, rfl, .inl ⟨_, upd_same, ?_⟩⟩⟩
    have eL : (upd H1 t (.frz od (.dK kvs))) t = some (.frz od (.dK kvs)) := upd_same
    have mL : (upd H1 t (.frz od (.dK kvs))) pm = some (.lst []) := by rw [upd_ne ntm.symm]; exact eM
    have lLL : (upd H1 t (.frz od (.dK kvs))) pl = some (.lst []) := by rw [upd_ne ntl.symm]; exact e1
    have kqL : Kq H (upd H1 t (.frz od (.dK kvs))) := S1.kq.trans (Kq.lock ht1)
    have un : ∀ G : Hp, (∀ b o, b ≠ pm → b ≠ pl → (upd H1 t (.frz od (.dK kvs))) b = some o → G b = some o) → Same H (upd G t (.dK kvs)) := fun G kp b o e => by
      by_cases c : b = t
      · subst c
        rw [upd_same, ← e, ht]
      · rw [upd_ne c]
        exact kp b o (ne_of_none e nm) (ne_of_none e nlH) (by rw [upd_ne c]; exact S1 _ _ e)
    generalize upd H1 t (.frz od (.dK kvs)) = HL at eL mL lLL kqL un ⊢
    have tksM : ∀ i, (rM (ps.take i)).length ≤ (rM ps).length := fun i => by
      have e : rM ps = rM (ps.take i) ++ rM (ps.drop i) := by
        unfold rM
        rw [← List.flatMap_append, List.take_append_drop]
      rw [e, List.length_append]
      omega
    have tksL : ∀ i, (rL (ps.take i)).length ≤ (rL ps).length := fun i => by
      have e : rL ps = rL (ps.take i) ++ rL (ps.drop i) := by
        unfold rL
        rw [← List.flatMap_append, List.take_append_drop]
      rw [e, List.length_append]
      omega
    refine for_it walk_keysY (fun i σ G => ∃ (o3 : Option V) (ws : List (Addr × (Str × Str))) (us : List (Addr × Tri)), σ = [some (.ref t), some (.ref pm), some (.ref pl), o3, none, none, none] ∧ (∀ b o, b ≠ pm → b ≠ pl → HL b = some o → G b = some o) ∧ G pm = some (.lst (ws.map fun c => .ref c.1)) ∧ ws.map (·.2) = rM (ps.take i) ∧ (∀ c ∈ ws, Tt G (.ref c.1) c.2) ∧ G pl = some (.lst (us.map fun c => .ref c.1)) ∧ us.map (·.2) = rL (ps.take i) ∧ (∀ c ∈ us, Tt G (.ref c.1) c.2))
      ⟨none, [], [], rfl, fun _ _ _ _ e => e, mL, rfl, (fun c hc => nomatch hc), lLL, rfl, (fun c hc => nomatch hc)⟩ (fun i σ G _ ⟨_, _, _, _, kp, _⟩ => kp _ _ ntm ntl eL) ?_ ?_
    · rintro i x σ G G' hi ⟨o3, ws, us, rfl, kp, gm, ewm, twm, gl, ewl, twl⟩ ⟨rfl, ey⟩
      rw [List.getElem?_map, List.getElem?_eq_getElem hi] at ey
      obtain ⟨p, ep, ek, _⟩ := paired_get hps (List.getElem?_eq_getElem hi)
      have ey' : V.str p.1 = x := by
        have z : kV kvs[i].1 = x := Option.some.inj ey
        rw [ek] at z
        exact z
      subst ey'
      have mp : p ∈ ps := List.mem_of_getElem? ep
      have mz : p.1 ∈ ps.map (·.1) := List.mem_map.mpr ⟨p, mp, rfl⟩
      have gp : getP ps p.1 = p.2 := getP_mem nd (show (p.1, p.2) ∈ ps from mp)
      obtain ⟨v, hv, tv, _⟩ := hps.get nd mz
      rw [gp] at tv
      have tk : ps.take (i + 1) = ps.take i ++ [p] := by rw [List.take_add_one, ep]; rfl
      have rt : Rd G' t (.dK kvs) := .inr ⟨od, kp _ _ ntm ntl eL⟩
      have ktG : Kt H G' := fun b xs e => kp b _ (ne_of_none e nm) (ne_of_none e nlH) (kqL.tup e)
      obtain ⟨b, u1, u2, rfl, hb, t1, t2⟩ := tv.pair
      obtain ⟨am, vm, rfl, ham, tm⟩ := t1.tup
      have em := Tts.strs tm
      subst em
      obtain ⟨al, vl, rfl, hal, tl⟩ := t2.tup
      obtain ⟨zl, rfl, el, tz⟩ := Tts.refs tl
      obtain ⟨l1, l2⟩ := ll p mp
      have lz : zl.length ≤ 60 := by
        have z' := l2
        rw [el, List.length_map] at z'
        exact z'
      have lw := tksM i
      have lu := tksL i
      rw [← ewm, List.length_map] at lw
      rw [← ewl, List.length_map] at lu
      -- marks
      refine ⟨.ref pm, rfl, .inl ⟨rfl, _, lst_of gm⟩, ?_⟩
      refine ⟨.ref t, rfl, .str p.1, rfl, t, .ref b, rfl, .inl ⟨kvs, Sum.inr p.1, rt, rfl, by rw [hv]⟩, b, _, 0, .ref am, rfl, rfl, tup_of (ktG _ _ hb), rfl, am, rfl, ⟨_, tup_of (ktG _ _ ham)⟩, fun D nD => ?_⟩
      refine lc_it (by have := walk_tup (K := K) (a := am) (xs := p.2.1.items.map V.str); rw [List.length_map] at this; exact this) (fun j G4 => Same G' G4 ∧ ∃ xs : List (Addr × (Str × Str)), G4 D = some (.lst (xs.map fun c => .ref c.1)) ∧ xs.map (·.2) = (p.2.1.items.take j).map (fun m => (p.1, m)) ∧ ∀ c ∈ xs, Tt G4 (.ref c.1) c.2) ⟨same_new nD, [], upd_same, rfl, (fun c hc => nomatch hc)⟩ (fun j G4 _ pp => tup_of (pp.1 _ _ (ktG _ _ ham))) (fun j x G4 G5 hj pp y => ?_) fun G4 pp => ?_
      · obtain ⟨s4, xs, e4, ew, tw⟩ := pp
        obtain ⟨rfl, ex⟩ := y
        rw [List.getElem?_map, List.getElem?_eq_getElem hj] at ex
        have ex' : V.str p.2.1.items[j] = x := Option.some.inj ex
        subst ex'
        have tkl : p.2.1.items.take (j + 1) = p.2.1.items.take j ++ [p.2.1.items[j]] := by rw [List.take_add_one, List.getElem?_eq_getElem hj]; rfl
        generalize p.2.1.items[j] = m at tkl ⊢
        refine ⟨by simp [wipe], ?_⟩
        unfold tYes
        simp only [↓reduceIte]
        refine ⟨.str p.1, rfl, .str m, rfl, by show 2 ≤ sizeLine; decide, fun p3 n3 => ?_⟩
        have e6 : (upd G5 p3 (.tup [.str p.1, .str m])) p3 = some (.tup [.str p.1, .str m]) := upd_same
        have s6 : Same G5 (upd G5 p3 (.tup [.str p.1, .str m])) := same_new n3
        generalize upd G5 p3 (.tup [.str p.1, .str m]) = G6 at *
        have lv : xs.length ≤ 60 := by
          have z' := congrArg List.length ew
          rw [List.length_map, List.length_map, List.length_take] at z'
          omega
        refine ⟨_, s6 _ _ e4, by rw [List.length_map]; exact small1000 (by omega), (s4.trans s6).mut nD, xs ++ [(p3, (p.1, m))], ?_, ?_, fun c hc => ?_⟩
        · rw [upd_same, List.map_append]
          rfl
        · rw [tkl, List.map_append, List.map_append, ew]
          rfl
        · have kt6 : Kt G6 (upd G6 D (.lst ((xs.map fun c => V.ref c.1) ++ [.ref p3]))) := (Kq.lst (s6 _ _ e4)).kt
          rcases List.mem_append.mp hc with h | h
          · exact ((tw c h).kq s6.kq).kt kt6
          · rw [List.mem_singleton] at h
            subst h
            have t6 : Tt G6 (.ref p3) (p.1, m) := tt_pair e6 tt_str tt_str
            exact t6.kt kt6
      obtain ⟨s4, xs, e4, ew, tw⟩ := pp
      rw [List.take_length] at ew
      have lxs : xs.length = p.2.1.items.length := by
        have z' := congrArg List.length ew
        rw [List.length_map, List.length_map] at z'
        exact z'
      have g4 := s4 _ _ gm
      have ex1 : (ws.map fun c => V.ref c.1) ++ (xs.map fun c => V.ref c.1) = (ws ++ xs).map fun c => V.ref c.1 := List.map_append.symm
      refine ⟨pm, D, _, _, rfl, rfl, g4, e4, by rw [List.length_map, List.length_map]; exact Nat.le_trans (show _ ≤ 2000 by omega) (by decide), ?_⟩
      rw [ex1]
      have kq5 : Kq G4 (upd G4 pm (.lst ((ws ++ xs).map fun c => .ref c.1))) := Kq.lst g4
      have m5 : (upd G4 pm (.lst ((ws ++ xs).map fun c => .ref c.1))) pm = some (.lst ((ws ++ xs).map fun c => .ref c.1)) := upd_same
      have l5 : (upd G4 pm (.lst ((ws ++ xs).map fun c => .ref c.1))) pl = some (.lst (us.map fun c => .ref c.1)) := by rw [upd_ne nml.symm]; exact s4 _ _ gl
      have kp5 : ∀ b o, b ≠ pm → b ≠ pl → HL b = some o → (upd G4 pm (.lst ((ws ++ xs).map fun c => .ref c.1))) b = some o := fun b o n1 n2 e => by
        rw [upd_ne n1]
        exact s4 _ _ (kp b o n1 n2 e)
      have tw5 : ∀ c ∈ ws ++ xs, Tt (upd G4 pm (.lst ((ws ++ xs).map fun c => .ref c.1))) (.ref c.1) c.2 := fun c hc => by
        rcases List.mem_append.mp hc with h | h
        · exact ((twm c h).kq s4.kq).kq kq5
        · exact (tw c h).kq kq5
      have tu5 : ∀ c ∈ us, Tt (upd G4 pm (.lst ((ws ++ xs).map fun c => .ref c.1))) (.ref c.1) c.2 := fun c hc => ((twl c hc).kq s4.kq).kq kq5
      have ew5 : (ws ++ xs).map (·.2) = rM (ps.take (i + 1)) := by
        rw [List.map_append, ewm, ew, tk]
        unfold rM
        rw [List.flatMap_append]
        simp
      generalize upd G4 pm (.lst ((ws ++ xs).map fun c => .ref c.1)) = G5 at m5 l5 kp5 tw5 tu5 ⊢
      have rt5 : Rd G5 t (.dK kvs) := .inr ⟨od, kp5 _ _ ntm ntl eL⟩
      have kt5 : Kt H G5 := fun b xs e => kp5 b _ (ne_of_none e nm) (ne_of_none e nlH) (kqL.tup e)
      -- links
      refine ⟨.ref pl, rfl, .inl ⟨rfl, _, lst_of l5⟩, ?_⟩
      refine ⟨.ref t, rfl, .str p.1, rfl, t, .ref b, rfl, .inl ⟨kvs, Sum.inr p.1, rt5, rfl, by rw [hv]⟩, b, _, 1, .ref al, rfl, rfl, tup_of (kt5 _ _ hb), rfl, al, rfl, ⟨_, tup_of (kt5 _ _ hal)⟩, fun D2 nD2 => ?_⟩
      refine lc_it (by have := walk_tup (K := K) (a := al) (xs := zl.map fun z => V.ref z.1); rw [List.length_map] at this; exact this) (fun j G6 => Same G5 G6 ∧ ∃ ys : List (Addr × Tri), G6 D2 = some (.lst (ys.map fun c => .ref c.1)) ∧ ys.map (·.2) = (p.2.2.items.take j).map (fun l => T3.mk p.1 l.1 l.2) ∧ ∀ c ∈ ys, Tt G6 (.ref c.1) c.2) ⟨same_new nD2, [], upd_same, rfl, (fun c hc => nomatch hc)⟩ (fun j G6 _ pp => tup_of (pp.1 _ _ (kt5 _ _ hal))) (fun j x G6 G7 hj pp y => ?_) fun G6 pp => ?_
      · obtain ⟨s6, ys, e6, ey6, ty⟩ := pp
        obtain ⟨rfl, ex⟩ := y
        rw [List.getElem?_map, List.getElem?_eq_getElem hj] at ex
        have ex' : V.ref zl[j].1 = x := Option.some.inj ex
        subst ex'
        have he : zl[j] ∈ zl := List.getElem_mem hj
        have elj : p.2.2.items[j]? = some zl[j].2 := by rw [el, List.getElem?_map, List.getElem?_eq_getElem hj]; rfl
        have tkl : p.2.2.items.take (j + 1) = p.2.2.items.take j ++ [zl[j].2] := by rw [List.take_add_one, elj]; rfl
        generalize zl[j] = e at he elj tkl ⊢
        obtain ⟨c, x1, x2, ec, hc, y1, y2⟩ := ((tz e he).kt kt5).pair
        have ec' : e.1 = c := by injection ec
        subst ec'
        rw [y1.str, y2.str] at hc
        refine ⟨e.1, _, rfl, tup_of (s6 _ _ hc), rfl, _, _, rfl, _, _, rfl, rfl, rfl, ?_⟩
        unfold tYes
        simp only [↓reduceIte]
        refine ⟨.str p.1, rfl, .str e.2.1, rfl, .str e.2.2, rfl, by show 3 ≤ sizeLine; decide, fun p3 n3 => ?_⟩
        have e8 : (upd G7 p3 (.tup [.str p.1, .str e.2.1, .str e.2.2])) p3 = some (.tup [.str p.1, .str e.2.1, .str e.2.2]) := upd_same
        have s8 : Same G7 (upd G7 p3 (.tup [.str p.1, .str e.2.1, .str e.2.2])) := same_new n3
        generalize upd G7 p3 (.tup [.str p.1, .str e.2.1, .str e.2.2]) = G8 at *
        have lv : ys.length ≤ 60 := by
          have z' := congrArg List.length ey6
          rw [List.length_map, List.length_map, List.length_take] at z'
          omega
        refine ⟨_, s8 _ _ e6, by rw [List.length_map]; exact small1000 (by omega), (s6.trans s8).mut nD2, ys ++ [(p3, T3.mk p.1 e.2.1 e.2.2)], ?_, ?_, fun c hc => ?_⟩
        · rw [upd_same, List.map_append]
          rfl
        · rw [tkl, List.map_append, List.map_append, ey6]
          rfl
        · have kt8 : Kt G8 (upd G8 D2 (.lst ((ys.map fun c => V.ref c.1) ++ [.ref p3]))) := (Kq.lst (s8 _ _ e6)).kt
          rcases List.mem_append.mp hc with h | h
          · exact ((ty c h).kq s8.kq).kt kt8
          · rw [List.mem_singleton] at h
            subst h
            have t8 : Tt G8 (.ref p3) (T3.mk p.1 e.2.1 e.2.2) := tt_t3 e8 tt_str tt_str tt_str
            exact t8.kt kt8
      obtain ⟨s6, ys, e6, ey6, ty⟩ := pp
      have elz : p.2.2.items.length = zl.length := by rw [el, List.length_map]
      rw [← elz, List.take_length] at ey6
      have lys : ys.length ≤ 60 := by
        have z' := congrArg List.length ey6
        rw [List.length_map, List.length_map] at z'
        omega
      have g6 := s6 _ _ l5
      have ex2 : (us.map fun c => V.ref c.1) ++ (ys.map fun c => V.ref c.1) = (us ++ ys).map fun c => V.ref c.1 := List.map_append.symm
      refine ⟨pl, D2, _, _, rfl, rfl, g6, e6, by rw [List.length_map, List.length_map]; exact Nat.le_trans (show _ ≤ 2000 by omega) (by decide), ?_⟩
      rw [ex2]
      have kq7 : Kq G6 (upd G6 pl (.lst ((us ++ ys).map fun c => .ref c.1))) := Kq.lst g6
      refine ⟨_, ws ++ xs, us ++ ys, rfl, fun b o n1 n2 e => by rw [upd_ne n2]; exact s6 _ _ (kp5 b o n1 n2 e), by rw [upd_ne nml]; exact s6 _ _ m5, ew5, fun c hc => ((tw5 c hc).kq s6.kq).kq kq7, upd_same, ?_, fun c hc => ?_⟩
      · rw [List.map_append, ewl, ey6, tk]
        unfold rL
        rw [List.flatMap_append]
        simp
      · rcases List.mem_append.mp hc with h | h
        · exact ((tu5 c h).kq s6.kq).kq kq7
        · exact (ty c h).kq kq7
    rintro σ G ⟨o3, ws, us, rfl, kp, gm, ewm, twm, gl, ewl, twl⟩
    have lk : kvs.length = ps.length := Paired.length hps
    rw [lk, List.take_length] at ewm ewl
    refine ⟨kp _ _ ntm ntl eL, ?_⟩
    have SU := un G kp
    have kqU : Kq G (upd G t (.dK kvs)) := Kq.unlock (kp _ _ ntm ntl eL)
    have mU : (upd G t (.dK kvs)) pm = some (.lst (ws.map fun c => .ref c.1)) := by rw [upd_ne ntm.symm]; exact gm
    have lU : (upd G t (.dK kvs)) pl = some (.lst (us.map fun c => .ref c.1)) := by rw [upd_ne ntl.symm]; exact gl
    have twU : ∀ c ∈ ws, Tt (upd G t (.dK kvs)) (.ref c.1) c.2 := fun c hc => (twm c hc).kq kqU
    have tuU : ∀ c ∈ us, Tt (upd G t (.dK kvs)) (.ref c.1) c.2 := fun c hc => (twl c hc).kq kqU
    generalize upd G t (.dK kvs) = U at SU mU lU twU tuU ⊢
    have lws : ws.length ≤ 1000 := by
      rw [← ewm, List.length_map] at lM
      exact lM
    have lus : us.length ≤ 1000 := by
      rw [← ewl, List.length_map] at lL
      exact lL
    have keysE : kvs.map (·.1) = (ps.map (·.1)).map Sum.inr := by
      rw [hps.keys, List.map_map]
      rfl
    refine ⟨.ref t, rfl, t, kvs, ps.map (·.1), rfl, .inl (SU _ _ ht), keysE, by rw [List.length_map]; omega, fun yn p1 pmx so n1 => ?_⟩
    have ey := sorted_canon nd pmx so
    subst ey
    have eu1 : (upd U p1 (.lst ((canon (ps.map (·.1))).map V.str))) p1 = some (.lst ((canon (ps.map (·.1))).map V.str)) := upd_same
    have su1 : Same U (upd U p1 (.lst ((canon (ps.map (·.1))).map V.str))) := same_new n1
    generalize upd U p1 (.lst ((canon (ps.map (·.1))).map V.str)) = U1 at *
    refine ⟨.ref pm, rfl, pm, ws.map fun c => (V.ref c.1, c.2), rfl, by rw [List.map_map]; exact lst_of (su1 _ _ mU), fun c hc => ?_, by rw [List.length_map]; exact lws, fun cs p2 pmc ecs n2 => ?_⟩
    · obtain ⟨c', hc', rfl⟩ := List.mem_map.mp hc
      exact ((twU c' hc').kq su1.kq).dt
    have eu2 : (upd U1 p2 (.lst (cs.map (·.1)))) p2 = some (.lst (cs.map (·.1))) := upd_same
    have su2 : Same U1 (upd U1 p2 (.lst (cs.map (·.1)))) := same_new n2
    generalize upd U1 p2 (.lst (cs.map (·.1))) = U2 at *
    refine ⟨.ref pl, rfl, pl, us.map fun c => (V.ref c.1, c.2), rfl, by rw [List.map_map]; exact lst_of (su2 _ _ (su1 _ _ lU)), fun c hc => ?_, by rw [List.length_map]; exact lus, fun ds p3 pmd eds n3 => ?_⟩
    · obtain ⟨c', hc', rfl⟩ := List.mem_map.mp hc
      exact (((tuU c' hc').kq su1.kq).kq su2.kq).dt
    have eu3 : (upd U2 p3 (.lst (ds.map (·.1)))) p3 = some (.lst (ds.map (·.1))) := upd_same
    have su3 : Same U2 (upd U2 p3 (.lst (ds.map (·.1)))) := same_new n3
    generalize upd U2 p3 (.lst (ds.map (·.1))) = U3 at *
    refine ⟨by show 3 ≤ sizeLine; decide, fun p4 n4 => ?_⟩
    have eu4 : (upd U3 p4 (.tup [.ref p1, .ref p2, .ref p3])) p4 = some (.tup [.ref p1, .ref p2, .ref p3]) := upd_same
    have su4 : Same U3 (upd U3 p4 (.tup [.ref p1, .ref p2, .ref p3])) := same_new n4
    generalize upd U3 p4 (.tup [.ref p1, .ref p2, .ref p3]) = U4 at *
    have S03 : Same U U3 := su1.trans (su2.trans su3)
    have S4 : Same H U4 := SU.trans (S03.trans su4)
    have tcs : ∀ c ∈ cs, Tt U4 c.1 c.2 := fun c hc => by
      obtain ⟨c', hc', rfl⟩ := List.mem_map.mp (pmc.mem_iff.mp hc)
      exact (twU c' hc').kq (S03.trans su4).kq
    have tds : ∀ c ∈ ds, Tt U4 c.1 c.2 := fun c hc => by
      obtain ⟨c', hc', rfl⟩ := List.mem_map.mp (pmd.mem_iff.mp hc)
      exact (tuU c' hc').kq (S03.trans su4).kq
    have e2' : cs.map (·.2) = flM ps := by
      rw [ecs, List.map_map]
      show sortO (ws.map fun c => c.2) = _
      rw [ewm, flM_is nd nrm]
    have e3' : ds.map (·.2) = flL ps := by
      rw [eds, List.map_map]
      show sortO (us.map fun c => c.2) = _
      rw [ewl, flL_is nd nrm]
    refine q p4 p1 p2 p3 U4 S4 (SU.free (S03.free n4)) (SU.free n1) (SU.free (su1.free n2)) (SU.free (su1.free (su2.free n3))) ⟨_, _, eu4, su4 _ _ (su3 _ _ (su2 _ _ eu1)), su4 _ _ (su3 _ _ eu2), by rw [← e2']; exact tts_each tcs, su4 _ _ eu3, by rw [← e3']; exact tts_each tds⟩
end
end Tf

/-! a store within a history -/
namespace Tf
open PySem PySem.Spec PyProof.Rows L2 PySem.W
/-- behind j changes -/
structure Hb (ms ks : List Str) (j : Nat) (ps : Ps) : Prop where
  hs : Hs ms ks ps
  so : ps.map (·.1) = flN ps
  ln : ps.length ≤ 5 + j
  ll : (flL ps).length ≤ 20 + j
section
variable {ms ks : List Str} {ps qs : Ps} {j : Nat}
theorem Hb.more (h : Hb ms ks j ps) : Hb ms ks (j + 1) ps := ⟨h.hs, h.so, Nat.le_succ_of_le h.ln, Nat.le_succ_of_le h.ll⟩
theorem fl_sort (h : Hs ms ks qs) : flN (sortS qs) = flN qs ∧ flM (sortS qs) = flM qs ∧ flL (sortS qs) = flL qs := fl_perm h.sort.nd (sortS_perm h.nd)
theorem Hb.of (h : Hs ms ks qs) (l : qs.length ≤ 5 + j) (ll : (flL qs).length ≤ 20 + j) : Hb ms ks j (sortS qs) := by
  obtain ⟨e1, _, e3⟩ := fl_sort h
  refine ⟨h.sort, ?_, ?_, ?_⟩
  · rw [sortS_names, e1]
    rfl
  · rw [(sortS_perm h.nd).length_eq]
    exact l
  · rw [e3]
    exact ll
theorem Hb.lnN (h : Hb ms ks j ps) : (flN ps).length = ps.length := by rw [← h.so, List.length_map]
theorem mem_flN {z : Str} : z ∈ flN ps ↔ z ∈ ps.map (·.1) := mem_canon
theorem Hs.ndm (h : Hs ms ks ps) (z : Str) : (getP ps z).1.items.Nodup := by
  by_cases c : z ∈ ps.map (·.1)
  · exact nrm_marks h.nm (mem_names h.nd c)
  · rw [get_off c]
    exact List.nodup_nil
theorem Hs.ndl (h : Hs ms ks ps) (z : Str) : (getP ps z).2.items.Nodup := by
  by_cases c : z ∈ ps.map (·.1)
  · exact nrm_links h.nm (mem_names h.nd c)
  · rw [get_off c]
    exact List.nodup_nil
theorem Hs.m3 (h : Hs ms ks ps) (z : Str) : (getP ps z).1.items.length ≤ ms.length := nodup_le (h.ndm z) (h.get_m z)
theorem Hb.lz (h : Hb ms ks j ps) (z : Str) : (getP ps z).2.items.length ≤ 20 + j := by
  have nd : ((getP ps z).2.items.map fun l => T3.mk z l.1 l.2).Nodup := nodup_mapOn (h.hs.ndl z) fun a _ b _ e => Prod.ext (congrArg T3.b e) (congrArg T3.c e)
  have := nodup_le (ys := flL ps) nd fun e he => by
    obtain ⟨l, hl, rfl⟩ := List.mem_map.mp he
    exact mem_setO.mpr ((mem_rL h.hs.nd).mpr hl)
  rw [List.length_map] at this
  exact Nat.le_trans this h.ll
theorem Hb.each (h : Hb ms ks j ps) {p : Str × Pr} (hp : p ∈ ps) : p.2.1.items.length ≤ ms.length ∧ p.2.2.items.length ≤ 20 + j := by
  have e := getP_mem h.hs.nd (show (p.1, p.2) ∈ ps from hp)
  have h1 := h.hs.m3 p.1
  have h2 := h.lz p.1
  rw [e] at h1 h2
  exact ⟨h1, h2⟩
theorem rM_len {n : Nat} : ∀ {ps : Ps}, (∀ p ∈ ps, p.2.1.items.length ≤ n) → (rM ps).length ≤ ps.length * n
  | [], _ => Nat.zero_le _
  | p :: ps, h => by
    have h1 := h p List.mem_cons_self
    have h2 := rM_len fun q hq => h q (List.mem_cons_of_mem _ hq)
    unfold rM at h2 ⊢
    rw [List.flatMap_cons, List.length_append, List.length_map, List.length_cons, Nat.succ_mul]
    omega
theorem rL_len {n : Nat} : ∀ {ps : Ps}, (∀ p ∈ ps, p.2.2.items.length ≤ n) → (rL ps).length ≤ ps.length * n
  | [], _ => Nat.zero_le _
  | p :: ps, h => by
    have h1 := h p List.mem_cons_self
    have h2 := rL_len fun q hq => h q (List.mem_cons_of_mem _ hq)
    unfold rL at h2 ⊢
    rw [List.flatMap_cons, List.length_append, List.length_map, List.length_cons, Nat.succ_mul]
    omega
theorem Hs.lM (h : Hs ms ks ps) : (flM ps).length = (rM ps).length := by
  rw [← flM_is h.nd h.nm, (sortO_perm _).length_eq]
theorem Hs.lL (h : Hs ms ks ps) : (flL ps).length = (rL ps).length := by
  rw [← flL_is h.nd h.nm, (sortO_perm _).length_eq]
theorem Hb.rMl (h : Hb ms ks j ps) (mo : ms.length ≤ 3) (j16 : j ≤ 16) : (rM ps).length ≤ 63 := by
  have := rM_len (n := 3) fun p hp => Nat.le_trans (h.each hp).1 mo
  have := h.ln
  omega
theorem Hb.rLl (h : Hb ms ks j ps) : (rL ps).length ≤ 20 + j := by
  rw [← h.hs.lL]
  exact h.ll
/-! the ways -/
theorem Hb.thing (h : Hb ms ks j ps) {z : Str} (off : z ∉ ps.map (·.1)) (wz : nameB z = true) : Hb ms ks (j + 1) (sortS (setP ps z (⟨canon []⟩, ⟨setO []⟩))) ∧ flN (sortS (setP ps z (⟨canon []⟩, ⟨setO []⟩))) = canon (flN ps ++ [z]) ∧ flM (sortS (setP ps z (⟨canon []⟩, ⟨setO []⟩))) = flM ps ∧ flL (sortS (setP ps z (⟨canon []⟩, ⟨setO []⟩))) = flL ps := by
  have s : Hs ms ks (setP ps z (⟨canon []⟩, ⟨setO []⟩)) := h.hs.set wz (fun x hx => nomatch hx) (fun l hl => nomatch hl)
  obtain ⟨e1, e2, e3⟩ := fl_sort s
  obtain ⟨f1, f2, f3⟩ := fl_thing h.hs off
  refine ⟨Hb.of s ?_ ?_, e1.trans f1, e2.trans f2, e3.trans f3⟩
  · have := setP_len ps z (⟨canon []⟩, ⟨setO []⟩)
    have := h.ln
    omega
  · rw [f3]
    exact Nat.le_succ_of_le h.ll
theorem Hb.mark (h : Hb ms ks j ps) {z m : Str} (hz : z ∈ ps.map (·.1)) (hm : m ∈ ms) : Hb ms ks (j + 1) (sortS (setP ps z (⟨canon [m, m]⟩, ⟨setO (getP ps z).2.items⟩))) ∧ flN (sortS (setP ps z (⟨canon [m, m]⟩, ⟨setO (getP ps z).2.items⟩))) = flN ps ∧ flM (sortS (setP ps z (⟨canon [m, m]⟩, ⟨setO (getP ps z).2.items⟩))) = sortO (((flM ps).filter fun e => !decide (e.1 = z)) ++ [(z, m)]) ∧ flL (sortS (setP ps z (⟨canon [m, m]⟩, ⟨setO (getP ps z).2.items⟩))) = flL ps := by
  have s : Hs ms ks (setP ps z (⟨canon [m, m]⟩, ⟨setO (getP ps z).2.items⟩)) := h.hs.set (h.hs.wd z hz) (fun x hx => by
    rcases List.mem_cons.mp hx with rfl | hx
    · exact hm
    · rw [List.mem_singleton.mp hx]
      exact hm) (fun l hl => ⟨(h.hs.get_l z l hl).1, .inl (h.hs.get_l z l hl).2⟩)
  obtain ⟨e1, e2, e3⟩ := fl_sort s
  obtain ⟨f1, f2, f3⟩ := fl_marks (m := m) h.hs hz
  refine ⟨Hb.of s ?_ ?_, e1.trans f1, e2.trans f2, e3.trans f3⟩
  · have := setP_len ps z (⟨canon [m, m]⟩, ⟨setO (getP ps z).2.items⟩)
    have := h.ln
    omega
  · rw [f3]
    exact Nat.le_succ_of_le h.ll
theorem Hb.unlink (h : Hb ms ks j ps) {t : Tri} (ht : t ∈ flL ps) : Hb ms ks (j + 1) (sortS (setP ps t.a (unlinkP (getP ps t.a) (t.b, t.c)))) ∧ flN (sortS (setP ps t.a (unlinkP (getP ps t.a) (t.b, t.c)))) = flN ps ∧ flM (sortS (setP ps t.a (unlinkP (getP ps t.a) (t.b, t.c)))) = flM ps ∧ flL (sortS (setP ps t.a (unlinkP (getP ps t.a) (t.b, t.c)))) = (flL ps).filter fun e => !decide (e = t) := by
  have ht' : t ∈ rL ps := mem_setO.mp ht
  have hz : t.a ∈ ps.map (·.1) := by
    by_cases c : t.a ∈ ps.map (·.1)
    · exact c
    · have := (mem_rL h.hs.nd).mp ht'
      rw [get_off c] at this
      cases this
  have s : Hs ms ks (setP ps t.a (unlinkP (getP ps t.a) (t.b, t.c))) := h.hs.set (h.hs.wd _ hz) (h.hs.get_m _) (fun l hl => ⟨(h.hs.get_l _ l (List.mem_filter.mp hl).1).1, .inl (h.hs.get_l _ l (List.mem_filter.mp hl).1).2⟩)
  obtain ⟨e1, e2, e3⟩ := fl_sort s
  obtain ⟨f1, f2, f3⟩ := fl_unlink h.hs ht'
  refine ⟨Hb.of s ?_ ?_, e1.trans f1, e2.trans f2, e3.trans f3⟩
  · have := setP_len ps t.a (unlinkP (getP ps t.a) (t.b, t.c))
    have := h.ln
    omega
  · rw [f3]
    exact Nat.le_trans (List.length_filter_le _ _) (Nat.le_succ_of_le h.ll)
theorem Hb.link (h : Hb ms ks j ps) {z k y : Str} (hz : z ∈ ps.map (·.1)) (hk : k ∈ ks) (hy : y ∈ ps.map (·.1)) : Hb ms ks (j + 1) (sortS (setP ps z (linkP (getP ps z) (k, y)))) ∧ flN (sortS (setP ps z (linkP (getP ps z) (k, y)))) = flN ps ∧ flM (sortS (setP ps z (linkP (getP ps z) (k, y)))) = flM ps ∧ flL (sortS (setP ps z (linkP (getP ps z) (k, y)))) = setO (flL ps ++ [T3.mk z k y]) := by
  have s : Hs ms ks (setP ps z (linkP (getP ps z) (k, y))) := h.hs.set (h.hs.wd _ hz) (h.hs.get_m _) (fun l hl => by
    rcases List.mem_append.mp hl with hl | hl
    · exact ⟨(h.hs.get_l _ l hl).1, .inl (h.hs.get_l _ l hl).2⟩
    · rw [List.mem_singleton.mp hl]
      exact ⟨hk, .inl hy⟩)
  obtain ⟨e1, e2, e3⟩ := fl_sort s
  obtain ⟨f1, f2, f3⟩ := fl_link (k := k) (y := y) h.hs hz
  refine ⟨Hb.of s ?_ ?_, e1.trans f1, e2.trans f2, e3.trans f3⟩
  · have := setP_len ps z (linkP (getP ps z) (k, y))
    have := h.ln
    omega
  · rw [f3]
    have := nodup_le (ys := flL ps ++ [T3.mk z k y]) (nodup_setO _) fun e he => mem_setO.mp he
    rw [List.length_append, List.length_singleton] at this
    have := h.ll
    omega
theorem Hb.wout (h : Hb ms ks j ps) (z : Str) : Hb ms ks (j + 1) (sortS (woutP ps z)) ∧ flN (sortS (woutP ps z)) = (flN ps).filter (fun y => !decide (y = z)) ∧ flM (sortS (woutP ps z)) = (flM ps).filter (fun e => !decide (e.1 = z)) ∧ flL (sortS (woutP ps z)) = (flL ps).filter (fun e => !(decide (z = e.a) || decide (z = e.c))) := by
  have s := h.hs.wout z
  obtain ⟨e1, e2, e3⟩ := fl_sort s
  obtain ⟨f1, f2, f3⟩ := fl_wout (z := z) h.hs
  refine ⟨Hb.of s ?_ ?_, e1.trans f1, e2.trans f2, e3.trans f3⟩
  · have := woutP_len ps z
    have := h.ln
    omega
  · rw [f3]
    exact Nat.le_trans (List.length_filter_le _ _) (Nat.le_succ_of_le h.ll)
/-! the beginnings -/
theorem fl_nil : flN [] = [] ∧ flM [] = [] ∧ flL [] = [] :=
  ⟨List.eq_nil_iff_forall_not_mem.mpr fun z h => (by cases mem_canon.mp h), List.eq_nil_iff_forall_not_mem.mpr fun z h => (by cases mem_setO.mp h), List.eq_nil_iff_forall_not_mem.mpr fun z h => (by cases mem_setO.mp h)⟩
theorem Hb.nil : Hb ms ks 0 [] := ⟨⟨List.nodup_nil, (fun p hp => nomatch hp), (fun z hz => nomatch hz), (fun p hp => nomatch hp), (fun p hp => nomatch hp)⟩, fl_nil.1.symm, Nat.zero_le _, (by rw [fl_nil.2.2]; exact Nat.zero_le _)⟩
theorem PSt.hs (h : PSt ms ks ps) : Hs ms ks ps := ⟨h.nd, h.nrm, h.wd, fun p hp => (h.th p hp).mm, fun p hp => (h.th p hp).ml⟩
theorem PSt.fl (h : PSt ms ks ps) : flN (normS ps) = flN ps ∧ flM (normS ps) = flM ps ∧ flL (normS ps) = flL ps := fl_perm (normS_nd ps) (normS_perm h.nd h.nrm)
theorem PSt.hb (h : PSt ms ks ps) (l : ps.length ≤ 5) : Hb ms ks 0 (normS ps) := by
  have p := normS_perm h.nd h.nrm
  obtain ⟨e1, _, e3⟩ := h.fl
  refine ⟨h.hs.perm p, ?_, ?_, ?_⟩
  · rw [normS_names, e1]
    rfl
  · rw [p.length_eq]
    exact l
  · rw [e3, h.hs.lL]
    have := rL_len (n := 4) fun p hp => (h.th p hp).l2
    omega
end
end Tf

/-! one change: _law_changed -/
namespace Tf
open PySem PySem.Spec PyProof.Rows L2 PySem.W
abbrev sCg : Stmt := top 48
abbrev nCg : List Str := ["_law_dice_here", "_law_language_here", "_law_made", "_law_flat_here", "_law_names", "_law_marked", "_law_linked", "_law_lot", "_law_some", "_law_one", "_law_fresh", "_law_name", "_law_end", "_law_sort", "_law_mark", "_law_left", "_law_pair", "_law_link"]
theorem scCg : FnScope nCg ["_law_dice_here", "_law_language_here", "_law_made", "_law_flat_here"] (defScope sCg) := ⟨rfl, rfl, rfl, by decide +kernel, rfl, by decide +kernel, by decide +kernel⟩
/-- if a or b, if a and b: the two ways, each once -/
theorem sif_or {A B : TT} {t T : TS} {D : Ends} {σ : L2.St} {H : Hp} {b1 b2 : Bool} (h1 : TTo A σ H b1) (h2 : ∀ H', Same H H' → TTo B σ H' b2) (qt : (b1 || b2) = true → ∀ H', Same H H' → t { D with nx := T D } σ H') (qf : (b1 || b2) = false → ∀ H', Same H H' → T D σ H') : tSeq (tIfS (tOr A B) t tNext) T D σ H := by
  refine h1 _ fun H' s => ?_
  cases b1 with
  | true => exact iteT (iteT (qt rfl H' s))
  | false =>
    refine iteF (h2 H' s _ fun H2 s2 => ?_)
    cases b2 with
    | true => exact iteT (qt rfl H2 (s.trans s2))
    | false => exact iteF (qf rfl H2 (s.trans s2))
theorem sif_and {A B : TT} {t T : TS} {D : Ends} {σ : L2.St} {H : Hp} {b1 b2 : Bool} (h1 : TTo A σ H b1) (h2 : ∀ H', Same H H' → TTo B σ H' b2) (qt : (b1 && b2) = true → ∀ H', Same H H' → t { D with nx := T D } σ H') (qf : (b1 && b2) = false → ∀ H', Same H H' → T D σ H') : tSeq (tIfS (tAnd A B) t tNext) T D σ H := by
  refine h1 _ fun H' s => ?_
  cases b1 with
  | false => exact iteF (iteF (qf rfl H' s))
  | true =>
    refine iteT (h2 H' s _ fun H2 s2 => ?_)
    cases b2 with
    | true => exact iteT (qt rfl H2 (s.trans s2))
    | false => exact iteF (qf rfl H2 (s.trans s2))
/-- t != (), t == () for a tuple -/
theorem cmp_nilT {K : PySem.W.Frag} {H : Hp} {p : Addr} {xs : List V} {R : VK} (neg : Bool) (hp : H p = some (.tup xs)) (hx : ∀ x ∈ xs, Pd H x) (h : ∀ H', Same H H' → R (.bl (if neg then !xs.isEmpty else xs.isEmpty)) H') :
    0 ≤ sizeLine ∧ ∀ t, H t = none → rEqP K neg (.ref p) (.ref t) (upd H t (.tup [])) R := by
  refine ⟨Nat.zero_le _, fun t nt => ?_⟩
  obtain ⟨ds, h1, h2, h3⟩ := pd_all hx
  have s := same_new (o := .tup []) nt
  refine ⟨.tuple ds, .tuple [], .tup (tup_of (s _ _ hp)) (DpAll.le s.le h1.dp), .tup (tup_of upd_same) .nil, by simp only [PyData.plain]; exact h2, rfl, ?_, ?_⟩
  · refine Nat.le_trans (Nat.min_le_right _ _) ?_
    decide
  · have e0 : PyData.eqv (.tuple ds) (.tuple []) = ds.isEmpty := by cases ds <;> simp [PyData.eqv, PyData.eqvAll]
    rw [e0]
    have e : ds.isEmpty = xs.isEmpty := by
      cases ds <;> cases xs <;> simp at h3 <;> rfl
    rw [e]
    exact h _ s
/-- what is known of a class of stores that are changed -/
structure C8 (P : Program) (w : World) (K : PySem.W.Frag) (mg : Str → Option Value) (base : Heap) (n : Nat) (CL C CM : Addr) : Prop where
  cl : Cls K C
  pt : PpN P w K mg base n C "things" (spSth CL C)
  pn : PpN P w K mg base n C "names" (spSnm CL C)
  le : OwN P w K mg base n C "__len__" (spSle CL C)
  wl : MtN P w K mg base n C "with_link" ["self", "thing", "kind", "end"] (spWl CL C CM)
  wo : MtN P w K mg base n C "without_link" ["self", "thing", "kind", "end"] (spWol CL C CM)
  wt : MtN P w K mg base n C "without_thing" ["self", "thing"] (spWot CL C CM)
  th : MtR P w K mg base n C "with_thing" (spWt CL C CM)
  wm : MtR P w K mg base n C "with_marks" (spWm CL C CM)
def someN : List Str := ["a", "b", "new", "self", "thing", "u", "v", "w", "zz", ""]
theorem someN_ok : ∀ z ∈ someN, z = "" ∨ nameB z = true := by decide +kernel
/-- what is no old list is no new list -/
def Apart (H : Hp) (n m l n' m' l' : Addr) : Prop := ∀ (o : Addr) (x : HO), H o = some x → o ≠ n → o ≠ m → o ≠ l → o ≠ n' ∧ o ≠ m' ∧ o ≠ l'
def spCg (CL C CM : Addr) : Sp := fun vs H Q _ => ∃ (d pg pm pk a la t p n m l : Addr) (ms ks : List Str) (ps : Ps) (j : Nat), vs = [.ref d, .ref pg, .ref a, .ref p] ∧ Dice H d ∧ H pg = some (.tup [.ref pm, .ref pk]) ∧ H pm = some (.tup (ms.map V.str)) ∧ H pk = some (.tup (ks.map V.str)) ∧ ms.length ≤ 3 ∧ 1 ≤ ks.length ∧ ks.length ≤ 3 ∧ StoreAt CL C H a la t ms ks ps ∧ Hb ms ks j ps ∧ j ≤ 15 ∧ FlatA H p n m l (flN ps) (flM ps) (flL ps) ∧
  ∀ (D x b t' p' n' m' l' : Addr) (qs : Ps) (H' : Hp), Nr d H H' → Dice H' d → Apart H n m l n' m' l' → (D = C ∨ D = CM) → StoreAt CL D H' b la t' ms ks qs → Hb ms ks (j + 1) qs → H' x = some (.tup [.ref b, .ref p']) → FlatA H' p' n' m' l' (flN qs) (flM qs) (flL qs) → Q (.ref x) H'
/-- the three lists, by their objects -/
structure FlatZ (H : Hp) (p n m l : Addr) (zs : List Str) (zm : List (Addr × (Str × Str))) (zl : List (Addr × Tri)) : Prop where
  h1 : H p = some (.tup [.ref n, .ref m, .ref l])
  h2 : H n = some (.lst (zs.map V.str))
  h3 : H m = some (.lst (zm.map fun z => .ref z.1))
  t3 : ∀ z ∈ zm, Tt H (.ref z.1) z.2
  h5 : H l = some (.lst (zl.map fun z => .ref z.1))
  t5 : ∀ z ∈ zl, Tt H (.ref z.1) z.2
theorem Tts.refs3 {H : Hp} : ∀ {vs : List V} {xs : List Tri}, Tts H vs xs → ∃ zs : List (Addr × Tri), vs = zs.map (fun z => V.ref z.1) ∧ xs = zs.map (·.2) ∧ ∀ z ∈ zs, Tt H (.ref z.1) z.2
  | _, _, .nil => ⟨[], rfl, rfl, fun z hz => by cases hz⟩
  | _, _, .cons (b := x) h r => by
    obtain ⟨zs, e1, e2, e3⟩ := Tts.refs3 r
    obtain ⟨a, u, w, t, rfl, _⟩ := Tt.t3 h
    exact ⟨(a, x) :: zs, by rw [e1]; rfl, by rw [e2]; rfl, fun z hz => by
      rcases List.mem_cons.mp hz with rfl | hz
      · exact h
      · exact e3 z hz⟩
section
variable {H H' : Hp} {d p n m l : Addr} {zs : List Str} {es : List (Str × Str)} {ts : List Tri} {zm : List (Addr × (Str × Str))} {zl : List (Addr × Tri)}
theorem FlatA.z (f : FlatA H p n m l zs es ts) : ∃ zm zl, es = zm.map (·.2) ∧ ts = zl.map (·.2) ∧ FlatZ H p n m l zs zm zl := by
  obtain ⟨vm, vl, h1, h2, h3, h4, h5, h6⟩ := f
  obtain ⟨zm, rfl, em, tm⟩ := Tts.refs h4
  obtain ⟨zl, rfl, el, tl⟩ := Tts.refs3 h6
  exact ⟨zm, zl, em, el, h1, h2, h3, tm, h5, tl⟩
theorem FlatZ.a (f : FlatZ H p n m l zs zm zl) : FlatA H p n m l zs (zm.map (·.2)) (zl.map (·.2)) := ⟨_, _, f.h1, f.h2, f.h3, tts_of f.t3, f.h5, tts_of f.t5⟩
theorem FlatZ.nr (f : FlatZ H p n m l zs zm zl) (nr : Nr d H H') (dc : Dice H d) : FlatZ H' p n m l zs zm zl := by
  obtain ⟨nd, md, ld⟩ := f.a.ne_d dc
  have q := nr.kq dc
  exact ⟨q.tup f.h1, nr _ _ nd f.h2, nr _ _ md f.h3, fun z hz => (f.t3 z hz).kq q, nr _ _ ld f.h5, fun z hz => (f.t5 z hz).kq q⟩
end
/-- what is known before a change -/
structure Kn8 (CL C : Addr) (H : Hp) (d pg pm pk a la t p pn pM pL : Addr) (ms ks : List Str) (ps : Ps) (zm : List (Addr × (Str × Str))) (zl : List (Addr × Tri)) : Prop where
  dc : Dice H d
  hg : H pg = some (.tup [.ref pm, .ref pk])
  hm : H pm = some (.tup (ms.map V.str))
  hk : H pk = some (.tup (ks.map V.str))
  st : StoreAt CL C H a la t ms ks ps
  fz : FlatZ H p pn pM pL (flN ps) zm zl
section
variable {CL C d pg pm pk a la t p pn pM pL : Addr} {H H' : Hp} {ms ks : List Str} {ps : Ps} {zm : List (Addr × (Str × Str))} {zl : List (Addr × Tri)}
theorem Kn8.nr (k : Kn8 CL C H d pg pm pk a la t p pn pM pL ms ks ps zm zl) (n : Nr d H H') (dc : Dice H' d) : Kn8 CL C H' d pg pm pk a la t p pn pM pL ms ks ps zm zl := by
  have q := n.kq k.dc
  exact ⟨dc, q.tup k.hg, q.tup k.hm, q.tup k.hk, k.st.nr n k.dc, k.fz.nr n k.dc⟩
theorem Kn8.same (k : Kn8 CL C H d pg pm pk a la t p pn pM pL ms ks ps zm zl) (s : Same H H') : Kn8 CL C H' d pg pm pk a la t p pn pM pL ms ks ps zm zl := k.nr s.nr (k.dc.same s)
end
theorem filt_map {α : Type} (zs : List (Addr × α)) (f : α → Bool) : (zs.filter fun c => f c.2).map (·.2) = (zs.map (·.2)).filter f := by
  rw [List.filter_map]
  rfl
theorem tts_sorted {α : Type} [DecidableEq α] [Datum α] {H : Hp} {ws : List (Addr × α)} {cs : List (V × α)} (pm : cs.Perm (ws.map fun c => (V.ref c.1, c.2))) (tw : ∀ c ∈ ws, Tt H (.ref c.1) c.2) : Tts H (cs.map (·.1)) (cs.map (·.2)) := tts_each fun c hc => by
  obtain ⟨c', hc', rfl⟩ := List.mem_map.mp (pm.mem_iff.mp hc)
  exact tw c' hc'
theorem pd_refs {α : Type} [DecidableEq α] [Datum α] {H : Hp} {ws : List (Addr × α)} (tw : ∀ c ∈ ws, Tt H (.ref c.1) c.2) (hz : Datum.depth α ≤ 40 := by decide) : ∀ x ∈ ws.map (fun c => V.ref c.1), Pd H x := fun x hx => by
  obtain ⟨c, hc, rfl⟩ := List.mem_map.mp hx
  exact (tw c hc).pd hz
theorem inV_two (z x y : Str) : inV (.str z) [.str x, .str y] = (decide (z = x) || decide (z = y)) := by
  have := inV_strs z [x, y]
  rw [show ([V.str x, V.str y] : List V) = [x, y].map V.str from rfl, this]
  simp [Bool.decide_or]
theorem dec_st (x y : Str) : decide (V.str x = V.str y) = decide (x = y) := decide_eq_decide.mpr ⟨fun h => V.str.inj h, fun h => by rw [h]⟩
section
variable {P : Program} {w : World} {K : PySem.W.Frag} {mg : Str → Option Value} {base : Heap}
theorem ok_cg {f CL C CM : Addr} {fd : FuncData} {n : Nat} (F : Fun K "_law_changed" "_law_changed" sCg f fd) (T : C8 P w K mg base n CL C CM) (GP : CdN P w K mg base n "_law_pick" ["_law_dice_here", "_law_items"] (spPick K)) (GR : CdN P w K mg base n "_law_roll" ["_law_dice_here", "_law_upto"] spRoll) (mS : mg "sorted" = none) (mL : mg "list" = none) (mE : mg "set" = none) : FnOk P w K mg base CX0 (n + 1) f fd ["_law_dice_here", "_law_language_here", "_law_made", "_law_flat_here"] (spCg CL C CM) := by
  refine F.ok scCg (fun vs H Q E h => ?_) (fun cdv A outer s H vs Q E hr h => ?_)
  · obtain ⟨d, pg, pm, pk, a, la, t, p, n', m, l, ms, ks, ps, j, rfl, _⟩ := h
    rfl
  · obtain ⟨d, pg, pm, pk, a, la, t, p, pn, pM, pL, ms, ks, ps, j, rfl, dc, hg, hm, hk, m3, k1, k3, st, hb, j15, fl, q⟩ := h
    have hu70 : (A.deeper (envOfC "_law_changed" (defScope sCg) s.heap.objs.size f cdv)).units + 70 < cLine := by have := hr.un; omega
    have hu64 : (A.deeper (envOfC "_law_changed" (defScope sCg) s.heap.objs.size f cdv)).units + 64 < cLine := by omega
    have hu20 : (A.deeper (envOfC "_law_changed" (defScope sCg) s.heap.objs.size f cdv)).units + 20 < cLine := by omega
    have hrn : Room n (A.deeper (envOfC "_law_changed" (defScope sCg) s.heap.objs.size f cdv)) := hr.mono (by omega)
    refine ⟨_, pss_cons (ps_asg (pv 3) (pg_tup (by rfl) (pgs_cons (pg_name (i := 4) scCg.nd rfl (.inr rfl)) (pgs_cons (pg_name (i := 5) scCg.nd rfl (.inl rfl)) (pgs_cons (pg_name (i := 6) scCg.nd rfl (.inl rfl)) pgs_nil)))))
      (pss_cons (ps_set (i := 7) scCg.nd rfl (.inl rfl) (pe_cdn GR hrn (pa_cons (pv 0) (pa_cons pe_int pa_nil))))
      (pss_cons (ps_if (PW.pt (pw_or (pt_cmpR (op_eqP hu64) (pv 4) (pe_lst pa_nil) (nomark _)) (pw_or1 (pt_cmpR op_eq (pv 7) pe_int (nomark _))))) (pss_cons (ps_set (i := 8) scCg.nd rfl (.inl rfl) (pe_lst (pa_cons pe_str (pa_cons pe_str (pa_cons pe_str (pa_cons pe_str (pa_cons pe_str (pa_cons pe_str (pa_cons pe_str (pa_cons pe_str (pa_cons pe_str (pa_cons pe_str pa_nil))))))))))))
        (pss_cons (ps_set (i := 10) scCg.nd rfl (.inl rfl) (pe_cdn GP hrn (pa_cons (pv 0) (pa_cons (pe_lc (own := [("_law_one", 9)]) (g := gName 9) (tt := tTest (tOp (rIn K true) (tVar 9) (tVar 4))) (te := tVar 9) (by rfl) scCg.nd (pi_list (pv 8)) (blkOk_by (own := [("_law_one", 9)]) (N := nCg) (sc := defScope sCg) (by decide +kernel)) (fun _ _ _ _ _ => pg_name (i := 9) scCg.nd rfl (Or.inl rfl)) (fun _ _ _ _ _ => pts_one (pt_cmpR op_notIn_seq (pv 9) (pv 4) (by rfl))) (fun _ _ _ _ _ => pv 9)) pa_nil))))
        (pss_cons (ps_if (pt_cmpR op_eq (pv 10) pe_str (nomark _)) (pss_one (ps_ret (pe_tup (pa_cons (pv 2) (pa_cons (pv 3) pa_nil))))) pss_nil)
        (pss_one (ps_ret (pe_tup (pa_cons (pe_mtr T.cl T.th hrn (pv 2) (pa_cons (pv 10) pa_nil)) (pa_cons (pe_tup (pa_cons (pe_callB cr_sortedS (by rfl) mS (by decide +kernel) (pa_cons (pe_op op_cat (pv 4) (pe_lst (pa_cons (pv 10) pa_nil))) pa_nil)) (pa_cons (pv 5) (pa_cons (pv 6) pa_nil)))) pa_nil)))))))) pss_nil)
      (pss_cons (ps_asg (pe_tup (pa_cons (pe_cdn GP hrn (pa_cons (pv 0) (pa_cons (pv 4) pa_nil))) (pa_cons (pe_cdn GP hrn (pa_cons (pv 0) (pa_cons (pv 4) pa_nil))) (pa_cons (pe_cdn GP hrn (pa_cons (pv 0) (pa_cons (pe_callTy call_list_of (by rfl) mL (by decide +kernel) (pa_cons (pe_ix ix_tup (pv 1) pe_int (fun _ _ => rfl)) pa_nil)) pa_nil))) pa_nil)))) (pg_tup (by rfl) (pgs_cons (pg_name (i := 11) scCg.nd rfl (.inr rfl)) (pgs_cons (pg_name (i := 12) scCg.nd rfl (.inl rfl)) (pgs_cons (pg_name (i := 13) scCg.nd rfl (.inl rfl)) pgs_nil)))))
      (pss_cons (ps_if (PW.pt (pw_and (pt_cmpR op_eq (pv 7) pe_int (nomark _)) (pw_and1 (pt_cmpR (op_neP hu64) (pe_ix ix_tup (pv 1) pe_int (fun _ _ => rfl)) (pe_tup pa_nil) (nomark _))))) (pss_cons (ps_set (i := 14) scCg.nd rfl (.inl rfl) (pe_cdn GP hrn (pa_cons (pv 0) (pa_cons (pe_callTy call_list_of (by rfl) mL (by decide +kernel) (pa_cons (pe_ix ix_tup (pv 1) pe_int (fun _ _ => rfl)) pa_nil)) pa_nil))))
        (pss_cons (ps_setLc (i := 15) (own := [("_law_pair", 16)]) (g := gName 16) (tt := tTest (tOp rNe (tOp (rIxT K) (tVar 16) (tC (.int 0))) (tVar 11))) (te := tVar 16) (by rfl) scCg.nd rfl (by rfl) (by rfl) (pi_list (pv 5)) (blkOk_by (own := [("_law_pair", 16)]) (N := nCg) (sc := defScope sCg) (by decide +kernel)) (fun _ _ _ _ _ => pg_name (i := 16) scCg.nd rfl (Or.inl rfl)) (fun _ _ _ _ _ => pts_one (pt_cmpR op_ne (pe_ix ix_tup (pv 16) pe_int (fun _ _ => rfl)) (pv 11) (nomark _))) (fun _ _ _ _ _ => pv 16))
        (pss_one (ps_ret (pe_tup (pa_cons (pe_mtr T.cl T.wm hrn (pv 2) (pa_cons (pv 11) (pa_cons (pv 14) (pa_cons (pv 14) pa_nil)))) (pa_cons (pe_tup (pa_cons (pv 4) (pa_cons (pe_callB (cr_sortA (α := Str × Str) hu70) (by rfl) mS (by decide +kernel) (pa_cons (pe_op op_cat (pv 15) (pe_lst (pa_cons (pe_tup (pa_cons (pv 11) (pa_cons (pv 14) pa_nil))) pa_nil))) pa_nil)) (pa_cons (pv 6) pa_nil)))) pa_nil))))))) pss_nil)
      (pss_cons (ps_if (PW.pt (pw_and (pt_cmpR op_eq (pv 7) pe_int (nomark _)) (pw_and1 (pt_cmpR (op_neP hu64) (pv 6) (pe_lst pa_nil) (nomark _))))) (pss_cons (ps_set (i := 9) scCg.nd rfl (.inr rfl) (pe_cdn GP hrn (pa_cons (pv 0) (pa_cons (pv 6) pa_nil))))
        (pss_one (ps_ret (pe_tup (pa_cons (pe_mtn T.cl T.wo hrn (pv 2) (pa_cons (pe_ix ix_tup (pv 9) pe_int (fun _ _ => rfl)) (pa_cons (pe_ix ix_tup (pv 9) pe_int (fun _ _ => rfl)) (pa_cons (pe_ix ix_tup (pv 9) pe_int (fun _ _ => rfl)) pa_nil)))) (pa_cons (pe_tup (pa_cons (pv 4) (pa_cons (pv 5) (pa_cons (pe_lc (own := [("_law_link", 17)]) (g := gName 17) (tt := tTest (tOp (rEqP K true) (tVar 17) (tVar 9))) (te := tVar 17) (by rfl) scCg.nd (pi_list (pv 6)) (blkOk_by (own := [("_law_link", 17)]) (N := nCg) (sc := defScope sCg) (by decide +kernel)) (fun _ _ _ _ _ => pg_name (i := 17) scCg.nd rfl (Or.inl rfl)) (fun _ _ _ _ _ => pts_one (pt_cmpR (op_neP hu64) (pv 17) (pv 9) (nomark _))) (fun _ _ _ _ _ => pv 17)) pa_nil)))) pa_nil)))))) pss_nil)
      (pss_cons (ps_if (pt_cmpR op_eq (pv 7) pe_int (nomark _)) (pss_cons (ps_setLc (i := 15) (own := [("_law_link", 17)]) (g := gName 17) (tt := tTest (tOp (rIn K true) (tVar 11) (tTup (tCons (tOp (rIxT K) (tVar 17) (tC (.int 0))) (tCons (tOp (rIxT K) (tVar 17) (tC (.int 2))) tNil))))) (te := tVar 17) (by rfl) scCg.nd rfl (by rfl) (by rfl) (pi_list (pv 6)) (blkOk_by (own := [("_law_link", 17)]) (N := nCg) (sc := defScope sCg) (by decide +kernel)) (fun _ _ _ _ _ => pg_name (i := 17) scCg.nd rfl (Or.inl rfl)) (fun _ _ _ _ _ => pts_one (pt_cmpR op_notIn_seq (pv 11) (pe_tup (pa_cons (pe_ix ix_tup (pv 17) pe_int (fun _ _ => rfl)) (pa_cons (pe_ix ix_tup (pv 17) pe_int (fun _ _ => rfl)) pa_nil))) (by rfl))) (fun _ _ _ _ _ => pv 17))
        (pss_cons (ps_setLc (i := 5) (own := [("_law_pair", 16)]) (g := gName 16) (tt := tTest (tOp rNe (tOp (rIxT K) (tVar 16) (tC (.int 0))) (tVar 11))) (te := tVar 16) (by rfl) scCg.nd rfl (by rfl) (by rfl) (pi_list (pv 5)) (blkOk_by (own := [("_law_pair", 16)]) (N := nCg) (sc := defScope sCg) (by decide +kernel)) (fun _ _ _ _ _ => pg_name (i := 16) scCg.nd rfl (Or.inl rfl)) (fun _ _ _ _ _ => pts_one (pt_cmpR op_ne (pe_ix ix_tup (pv 16) pe_int (fun _ _ => rfl)) (pv 11) (nomark _))) (fun _ _ _ _ _ => pv 16))
        (pss_one (ps_ret (pe_tup (pa_cons (pe_mtn T.cl T.wt hrn (pv 2) (pa_cons (pv 11) pa_nil)) (pa_cons (pe_tup (pa_cons (pe_lc (own := [("_law_one", 9)]) (g := gName 9) (tt := tTest (tOp rNe (tVar 9) (tVar 11))) (te := tVar 9) (by rfl) scCg.nd (pi_list (pv 4)) (blkOk_by (own := [("_law_one", 9)]) (N := nCg) (sc := defScope sCg) (by decide +kernel)) (fun _ _ _ _ _ => pg_name (i := 9) scCg.nd rfl (Or.inl rfl)) (fun _ _ _ _ _ => pts_one (pt_cmpR op_ne (pv 9) (pv 11) (nomark _))) (fun _ _ _ _ _ => pv 9)) (pa_cons (pv 5) (pa_cons (pv 15) pa_nil)))) pa_nil))))))) pss_nil)
      (pss_one (ps_ret (pe_tup (pa_cons (pe_mtn T.cl T.wl hrn (pv 2) (pa_cons (pv 11) (pa_cons (pv 13) (pa_cons (pv 12) pa_nil)))) (pa_cons (pe_tup (pa_cons (pv 4) (pa_cons (pv 5) (pa_cons (pe_callB (cr_sortN (α := Tri) rfl hu70) (by rfl) mS (by decide +kernel) (pa_cons (pe_callTy (cr_setNB (α := Tri) rfl hu20) (by rfl) mE (by decide +kernel) (pa_cons (pe_op op_cat (pv 6) (pe_lst (pa_cons (pe_tup (pa_cons (pv 11) (pa_cons (pv 13) (pa_cons (pv 12) pa_nil)))) pa_nil))) pa_nil)) pa_nil)) pa_nil)))) pa_nil))))))))))), ?_⟩
    obtain ⟨zm, zl, em, el, fz⟩ := fl.z
    have kn : Kn8 CL C H d pg pm pk a la t p pn pM pL ms ks ps zm zl := ⟨dc, hg, hm, hk, st, fz⟩
    have nd := hb.hs.nd
    have ndN : (flN ps).Nodup := nodup_canon _
    have lN := hb.lnN
    have ln := hb.ln
    have lzl : zl.length ≤ 20 + j := by
      have := hb.ll
      rw [el, List.length_map] at this
      exact this
    have lzm : zm.length ≤ 63 := by
      have := hb.rMl m3 (by omega)
      rw [← hb.hs.lM, em, List.length_map] at this
      exact this
    clear fl dc hg hm hk st
    refine ⟨.ref p, rfl, p, _, rfl, tup_of fz.h1, rfl, _, _, rfl, _, _, rfl, _, _, rfl, rfl, ?_⟩
    refine ⟨.ref d, rfl, d, 6, rfl, kn.dc, by decide, by decide, fun r H1 _ _ nr1 dc1 => ?_⟩
    have kn1 := kn.nr nr1 dc1
    clear fz
    -- a new thing
    dsimp only [gName]
    refine sif_or (b1 := (flN ps).isEmpty) (b2 := decide (V.int r = V.int 0)) (fun Q' q' => ?_) (fun H' s' Q' q' => ?_) (fun _ H2 s2 => ?_) (fun hB H2 s2 => ?_)
    · refine ⟨.ref pn, rfl, cmp_nil false (lst_of kn1.fz.h2) (pd_strs _) fun G0 s0 => ⟨_, rfl, ?_⟩⟩
      have e : ((flN ps).map V.str).isEmpty = (flN ps).isEmpty := by cases flN ps <;> rfl
      rw [if_neg Bool.false_ne_true, e]
      exact q' G0 s0
    · exact ⟨.int r, rfl, rfl, _, rfl, q' H' (Same.refl H')⟩
    · have kn2 := kn1.same s2
      have NR2 : Nr d H H2 := nr1.trans s2.nr
      clear kn1 dc1 nr1 s2
      refine ⟨by show 10 ≤ sizeLine; decide, fun ls nls => ?_⟩
      have e3 : (upd H2 ls (.lst [.str "a", .str "b", .str "new", .str "self", .str "thing", .str "u", .str "v", .str "w", .str "zz", .str ""])) ls = some (.lst [.str "a", .str "b", .str "new", .str "self", .str "thing", .str "u", .str "v", .str "w", .str "zz", .str ""]) := upd_same
      have s3 : Same H2 (upd H2 ls (.lst [.str "a", .str "b", .str "new", .str "self", .str "thing", .str "u", .str "v", .str "w", .str "zz", .str ""])) := same_new nls
      generalize upd H2 ls (.lst [.str "a", .str "b", .str "new", .str "self", .str "thing", .str "u", .str "v", .str "w", .str "zz", .str ""]) = H3 at *
      have e3' : H3 ls = some (.lst (someN.map V.str)) := e3
      have kn3 := kn2.same s3
      refine ⟨.ref d, rfl, .ref ls, rfl, ls, rfl, ⟨_, lst_of e3'⟩, fun D nD => lc_on (h := V.str) (xs := someN) (by have := walk_list (K := K) (a := ls) (xs := someN.map V.str); rw [List.length_map] at this; exact this) rfl (fun z => !decide (z ∈ flN ps)) V.str nD (fun H' s' => lst_of (s' _ _ e3')) (by decide) (fun z hz H' s' Q' q' => ?_) (fun z hz _ H' s' Q' q' => ⟨_, rfl, q' H' (Same.refl H')⟩) fun H4 s4 e4 => ?_⟩
      · refine ⟨.str z, rfl, .ref pn, rfl, pn, _, rfl, .inl (lst_of (s' _ _ kn3.fz.h2)), rfl, flat_strs _, _, rfl, ?_⟩
        rw [if_pos rfl, inV_strs]
        exact q' H' (Same.refl H')
      have kn4 := kn3.same s4
      have nn : ("" : Str) ∉ flN ps := fun h => by
        have := hb.hs.wd _ (mem_flN.mp h)
        revert this
        decide +kernel
      have ne4 : ((someN.filter fun z => !decide (z ∈ flN ps)).map V.str) ≠ [] := by
        refine List.ne_nil_of_mem (List.mem_map.mpr ⟨"", List.mem_filter.mpr ⟨by decide +kernel, ?_⟩, rfl⟩)
        rw [decide_eq_false nn]
        rfl
      have l4 : ((someN.filter fun z => !decide (z ∈ flN ps)).map V.str).length < 1000 := by
        rw [List.length_map]
        exact Nat.lt_of_le_of_lt (List.length_filter_le _ _) (by decide)
      refine ⟨d, D, _, rfl, kn4.dc, e4, dice_ne kn3.dc nD, ne4, l4, fun v H5 mv nr5 dc5 => ?_⟩
      obtain ⟨z, hz, rfl⟩ := List.mem_map.mp mv
      obtain ⟨hz1, hz2⟩ := List.mem_filter.mp hz
      have off : z ∉ flN ps := fun h => by
        rw [decide_eq_true h] at hz2
        cases hz2
      have kn5 := kn4.nr nr5 dc5
      have NR5 : Nr d H H5 := NR2.trans (s3.nr.trans (s4.nr.trans nr5))
      clear kn2 kn3 kn4 s3 s4 nr5 dc5 NR2 e3 e3' e4 ne4 l4 nls nD mv
      refine ⟨.str z, rfl, rfl, _, rfl, ?_⟩
      rw [dec_st]
      by_cases c : z = ""
      · rw [decide_eq_true c]
        refine iteT ?_
        refine ⟨.ref a, rfl, .ref p, rfl, by show 2 ≤ sizeLine; decide, fun x nx => ?_⟩
        have e6 : (upd H5 x (.tup [.ref a, .ref p])) x = some (.tup [.ref a, .ref p]) := upd_same
        have s6 : Same H5 (upd H5 x (.tup [.ref a, .ref p])) := same_new nx
        generalize upd H5 x (.tup [.ref a, .ref p]) = H6 at *
        have kn6 := kn5.same s6
        exact q C x a t p pn pM pL ps H6 (NR5.trans s6.nr) kn6.dc (fun _ _ _ h1 h2 h3 => ⟨h1, h2, h3⟩) (.inl rfl) kn6.st hb.more e6 (by rw [em, el]; exact kn6.fz.a)
      rw [decide_eq_false c]
      refine iteF ?_
      have wz : nameB z = true := (someN_ok z hz1).elim (fun h => absurd h c) id
      obtain ⟨dx, fs, uvs, g1, g2, g3, g4, g5, g6, g7⟩ := id kn5.st
      refine ⟨.ref a, rfl, a, dx, fs, rfl, g1, look_none g7 (by decide +kernel), .str z, rfl, a, la, t, ms, ks, [], ps, z, rfl, kn5.st, (fun x hx => nomatch hx), Nat.zero_le _, wz, (fun h => off (mem_flN.mpr h)), nd, by omega, fun b t1 H6 s6 nb nt st6 => ?_⟩
      have kn6 := kn5.same s6
      refine ⟨.ref pn, rfl, .str z, rfl, by show 1 ≤ sizeLine; decide, fun p7 n7 => ?_⟩
      have e7 : (upd H6 p7 (.lst [.str z])) p7 = some (.lst [.str z]) := upd_same
      have s7 : Same H6 (upd H6 p7 (.lst [.str z])) := same_new n7
      generalize upd H6 p7 (.lst [.str z]) = H7 at *
      have kn7 := kn6.same s7
      refine ⟨pn, p7, _, _, rfl, rfl, kn7.fz.h2, e7, by rw [List.length_map]; exact small1000 (by omega), fun p8 n8 => ?_⟩
      have e8 : (upd H7 p8 (.lst ((flN ps).map V.str ++ [.str z]))) p8 = some (.lst ((flN ps).map V.str ++ [.str z])) := upd_same
      have s8 : Same H7 (upd H7 p8 (.lst ((flN ps).map V.str ++ [.str z]))) := same_new n8
      generalize upd H7 p8 (.lst ((flN ps).map V.str ++ [.str z])) = H8 at *
      have e8' : H8 p8 = some (.lst ((flN ps ++ [z]).map V.str)) := by rw [e8, List.map_append]; rfl
      have ndz : (flN ps ++ [z]).Nodup := List.nodup_append.mpr ⟨ndN, by simp, fun x hx y hy e => by
        rw [List.mem_singleton.mp hy] at e
        exact off (e ▸ hx)⟩
      refine ⟨p8, flN ps ++ [z], rfl, lst_of e8', by rw [List.length_append, List.length_singleton]; omega, fun ys p9 pm' so n9 => ?_⟩
      have ey := sorted_canon ndz pm' so
      subst ey
      have e9 : (upd H8 p9 (.lst ((canon (flN ps ++ [z])).map V.str))) p9 = some (.lst ((canon (flN ps ++ [z])).map V.str)) := upd_same
      have s9 : Same H8 (upd H8 p9 (.lst ((canon (flN ps ++ [z])).map V.str))) := same_new n9
      generalize upd H8 p9 (.lst ((canon (flN ps ++ [z])).map V.str)) = H9 at *
      refine ⟨.ref pM, rfl, .ref pL, rfl, by show 3 ≤ sizeLine; decide, fun p10 n10 => ?_⟩
      have e10 : (upd H9 p10 (.tup [.ref p9, .ref pM, .ref pL])) p10 = some (.tup [.ref p9, .ref pM, .ref pL]) := upd_same
      have s10 : Same H9 (upd H9 p10 (.tup [.ref p9, .ref pM, .ref pL])) := same_new n10
      generalize upd H9 p10 (.tup [.ref p9, .ref pM, .ref pL]) = H10 at *
      refine ⟨by show 2 ≤ sizeLine; decide, fun x nx => ?_⟩
      have e11 : (upd H10 x (.tup [.ref b, .ref p10])) x = some (.tup [.ref b, .ref p10]) := upd_same
      have s11 : Same H10 (upd H10 x (.tup [.ref b, .ref p10])) := same_new nx
      generalize upd H10 x (.tup [.ref b, .ref p10]) = H11 at *
      have S : Same H6 H11 := s7.trans (s8.trans (s9.trans (s10.trans s11)))
      have kn11 := kn6.same S
      obtain ⟨hb', eN, eM, eL⟩ := hb.thing (fun h => off (mem_flN.mpr h)) wz
      refine q CM x b t1 p10 p9 pM pL _ H11 (NR5.trans (s6.nr.trans S.nr)) kn11.dc (fun o y ho h1 h2 h3 => ⟨ne_of_none ho (nr_free (NR5.trans (s6.trans (s7.trans s8)).nr) (kn7.same s8).dc n9), h2, h3⟩) (.inr rfl) (st6.same S) hb' e11 ?_
      rw [eN, eM, eL, em, el]
      exact (show FlatZ H11 p10 p9 pM pL (canon (flN ps ++ [z])) zm zl from ⟨s11 _ _ e10, s11 _ _ (s10 _ _ e9), kn11.fz.h3, kn11.fz.t3, kn11.fz.h5, kn11.fz.t5⟩).a
    have kn2 := kn1.same s2
    have NR2 : Nr d H H2 := nr1.trans s2.nr
    clear kn1 dc1 nr1 s2
    have neN : flN ps ≠ [] := fun h => by
      rw [h] at hB
      cases hB
    have neV : (flN ps).map V.str ≠ [] := fun h => neN (List.map_eq_nil_iff.mp h)
    have lV : ((flN ps).map V.str).length < 1000 := by rw [List.length_map]; omega
    -- a name, an end, a kind
    refine ⟨.ref d, rfl, .ref pn, rfl, d, pn, _, rfl, kn2.dc, kn2.fz.h2, (kn2.fz.a.ne_d kn2.dc).1.symm, neV, lV, fun v H3 mv nr3 dc3 => ?_⟩
    obtain ⟨z, mz, rfl⟩ := List.mem_map.mp mv
    have kn3 := kn2.nr nr3 dc3
    refine ⟨.ref d, rfl, .ref pn, rfl, d, pn, _, rfl, kn3.dc, kn3.fz.h2, (kn3.fz.a.ne_d kn3.dc).1.symm, neV, lV, fun v H4 mv' nr4 dc4 => ?_⟩
    obtain ⟨y, my, rfl⟩ := List.mem_map.mp mv'
    have kn4 := kn3.nr nr4 dc4
    refine ⟨.ref d, rfl, .ref pg, rfl, pg, _, 1, .ref pk, rfl, rfl, tup_of kn4.hg, rfl, pk, _, rfl, .inr (tup_of kn4.hk), fun pc nc => ?_⟩
    have e5 : (upd H4 pc (.lst (ks.map V.str))) pc = some (.lst (ks.map V.str)) := upd_same
    have s5 : Same H4 (upd H4 pc (.lst (ks.map V.str))) := same_new nc
    generalize upd H4 pc (.lst (ks.map V.str)) = H5 at *
    refine ⟨d, pc, _, rfl, kn4.dc.same s5, e5, dice_ne kn4.dc nc, fun h => ?_, by rw [List.length_map]; omega, fun v H6 mv'' nr6 dc6 => ?_⟩
    · rw [List.map_eq_nil_iff.mp h] at k1
      exact absurd k1 (by decide)
    obtain ⟨kd, mk_, rfl⟩ := List.mem_map.mp mv''
    have kn6 := (kn4.same s5).nr nr6 dc6
    have NR6 : Nr d H H6 := NR2.trans (nr3.trans (nr4.trans (s5.nr.trans nr6)))
    have mzp := mem_flN.mp mz
    have myp := mem_flN.mp my
    clear kn2 kn3 kn4 NR2 nr3 nr4 nr6 s5 e5 nc dc3 dc4 dc6 mv mv' mv'' hB
    refine ⟨by show 3 ≤ sizeLine; decide, fun p6 n6 => ?_⟩
    have e7 : (upd H6 p6 (.tup [.str z, .str y, .str kd])) p6 = some (.tup [.str z, .str y, .str kd]) := upd_same
    have s7 : Same H6 (upd H6 p6 (.tup [.str z, .str y, .str kd])) := same_new n6
    generalize upd H6 p6 (.tup [.str z, .str y, .str kd]) = H7 at *
    refine ⟨p6, _, rfl, tup_of e7, rfl, _, _, rfl, _, _, rfl, _, _, rfl, rfl, ?_⟩
    have kn7 := kn6.same s7
    have NR7 := NR6.trans s7.nr
    clear kn6 NR6 s7 e7 n6
    dsimp only
    -- its marks
    refine sif_and (b1 := decide (V.int r = V.int 1)) (b2 := !ms.isEmpty) (fun Q' q' => ?_) (fun H' s' Q' q' => ?_) (fun hB H8 s8 => ?_) (fun _ H8 s8 => ?_)
    · exact ⟨.int r, rfl, rfl, _, rfl, q' _ (Same.refl _)⟩
    · refine ⟨.ref pg, rfl, pg, _, 0, .ref pm, rfl, rfl, tup_of (kn7.same s').hg, rfl, cmp_nilT true (kn7.same s').hm (pd_strs _) fun G0 s0 => ⟨_, rfl, ?_⟩⟩
      have e : (ms.map V.str).isEmpty = ms.isEmpty := by cases ms <;> rfl
      rw [if_pos rfl, e]
      exact q' G0 s0
    · have kn8 := kn7.same s8
      have ne : ms ≠ [] := fun h => by
        rw [h, Bool.and_eq_true] at hB
        cases hB.2
      refine ⟨.ref d, rfl, .ref pg, rfl, pg, _, 0, .ref pm, rfl, rfl, tup_of kn8.hg, rfl, pm, _, rfl, .inr (tup_of kn8.hm), fun pc nc => ?_⟩
      have e9 : (upd H8 pc (.lst (ms.map V.str))) pc = some (.lst (ms.map V.str)) := upd_same
      have s9 : Same H8 (upd H8 pc (.lst (ms.map V.str))) := same_new nc
      generalize upd H8 pc (.lst (ms.map V.str)) = H9 at *
      refine ⟨d, pc, _, rfl, kn8.dc.same s9, e9, dice_ne kn8.dc nc, fun h => ne (List.map_eq_nil_iff.mp h), by rw [List.length_map]; omega, fun v H10 mv nr10 dc10 => ?_⟩
      obtain ⟨mk, hmk, rfl⟩ := List.mem_map.mp mv
      have kn10 := (kn8.same s9).nr nr10 dc10
      have NR10 : Nr d H H10 := NR7.trans (s8.nr.trans (s9.nr.trans nr10))
      clear kn7 kn8 NR7 s8 s9 nr10 dc10 nc e9 mv hB
      refine ⟨.ref pM, rfl, pM, rfl, ⟨_, lst_of kn10.fz.h3⟩, fun D nD => lc_on (h := fun e : Addr × (Str × Str) => V.ref e.1) (xs := zm) (by have := walk_list (K := K) (a := pM) (xs := zm.map fun z => V.ref z.1); rw [List.length_map] at this; exact this) rfl (fun e => !decide (e.2.1 = z)) (fun e => V.ref e.1) nD (fun H' s' => lst_of (s' _ _ kn10.fz.h3)) (by omega) (fun e he H' s' Q' q' => ?_) (fun e he _ H' s' Q' q' => ⟨_, rfl, q' H' (Same.refl H')⟩) fun H11 s11 e11 => ?_⟩
      · obtain ⟨c, x1, x2, ec, hc, y1, y2⟩ := ((kn10.fz.t3 e he).kq s'.kq).pair
        have ec' : e.1 = c := by injection ec
        subst ec'
        rw [y1.str, y2.str] at hc
        refine ⟨.ref e.1, rfl, e.1, _, 0, .str e.2.1, rfl, rfl, tup_of hc, rfl, .str z, rfl, rfl, _, rfl, ?_⟩
        rw [dec_st]
        exact q' H' (Same.refl H')
      have kn11 := kn10.same s11
      obtain ⟨dx, fs, uvs, g1, g2, g3, g4, g5, g6, g7⟩ := id kn11.st
      have two : ∀ c ∈ [mk, mk], c ∈ ms := fun c hc => by
        rcases List.mem_cons.mp hc with rfl | hc
        · exact hmk
        · rw [List.mem_singleton.mp hc]
          exact hmk
      refine ⟨.ref a, rfl, a, dx, fs, rfl, g1, look_none g7 (by decide +kernel), .str z, rfl, .str mk, rfl, .str mk, rfl, a, la, t, ms, ks, [mk, mk], ps, z, rfl, kn11.st, two, by show 2 ≤ 60; decide, mzp, nd, by omega, by have := hb.lz z; omega, fun b t1 H12 s12 nb nt st12 => ?_⟩
      refine ⟨.ref pn, rfl, .ref D, rfl, .str z, rfl, .str mk, rfl, by show 2 ≤ sizeLine; decide, fun p1 n1 => ?_⟩
      have e13 : (upd H12 p1 (.tup [.str z, .str mk])) p1 = some (.tup [.str z, .str mk]) := upd_same
      have s13 : Same H12 (upd H12 p1 (.tup [.str z, .str mk])) := same_new n1
      generalize upd H12 p1 (.tup [.str z, .str mk]) = H13 at *
      refine ⟨by show 1 ≤ sizeLine; decide, fun p2 n2 => ?_⟩
      have e14 : (upd H13 p2 (.lst [.ref p1])) p2 = some (.lst [.ref p1]) := upd_same
      have s14 : Same H13 (upd H13 p2 (.lst [.ref p1])) := same_new n2
      generalize upd H13 p2 (.lst [.ref p1]) = H14 at *
      have eD := s14 _ _ (s13 _ _ (s12 _ _ e11))
      have lf := List.length_filter_le (fun e : Addr × (Str × Str) => !decide (e.2.1 = z)) zm
      have ef : (zm.filter fun c => !decide (c.2.1 = z)).map (·.2) = (zm.map (·.2)).filter fun q => !decide (q.1 = z) := filt_map zm fun q => !decide (q.1 = z)
      have tf : ∀ c ∈ zm.filter fun e => !decide (e.2.1 = z), Tt H14 (.ref c.1) c.2 := fun c hc => (((kn11.same s12).same s13).same s14).fz.t3 c (List.mem_filter.mp hc).1
      generalize (zm.filter fun e => !decide (e.2.1 = z)) = wm at eD lf ef tf
      refine ⟨D, p2, _, _, rfl, rfl, eD, e14, by rw [List.length_map]; exact small1000 (by omega), fun p3 n3 => ?_⟩
      have e15 : (upd H14 p3 (.lst ((wm.map fun e => V.ref e.1) ++ [.ref p1]))) p3 = some (.lst ((wm.map fun e => V.ref e.1) ++ [.ref p1])) := upd_same
      have s15 : Same H14 (upd H14 p3 (.lst ((wm.map fun e => V.ref e.1) ++ [.ref p1]))) := same_new n3
      generalize upd H14 p3 (.lst ((wm.map fun e => V.ref e.1) ++ [.ref p1])) = H15 at *
      have tw : ∀ c ∈ wm ++ [(p1, (z, mk))], Tt H15 (.ref c.1) c.2 := fun c hc => by
        rcases List.mem_append.mp hc with hc | hc
        · exact (tf c hc).kq s15.kq
        · rw [List.mem_singleton.mp hc]
          exact tt_pair (s15 _ _ (s14 _ _ e13)) tt_str tt_str
      have e15' : H15 p3 = some (.lst (((wm ++ [(p1, (z, mk))]).map fun c => (V.ref c.1, c.2)).map (·.1))) := by
        rw [e15, List.map_map, List.map_append]
        rfl
      refine ⟨p3, (wm ++ [(p1, (z, mk))]).map fun c => (V.ref c.1, c.2), rfl, lst_of e15', fun c hc => ?_, by rw [List.length_map, List.length_append, List.length_singleton]; omega, fun cs p4 pm' ec n4 => ?_⟩
      · obtain ⟨c', hc', rfl⟩ := List.mem_map.mp hc
        exact (tw c' hc').dt
      have e16 : (upd H15 p4 (.lst (cs.map (·.1)))) p4 = some (.lst (cs.map (·.1))) := upd_same
      have s16 : Same H15 (upd H15 p4 (.lst (cs.map (·.1)))) := same_new n4
      generalize upd H15 p4 (.lst (cs.map (·.1))) = H16 at *
      refine ⟨.ref pL, rfl, by show 3 ≤ sizeLine; decide, fun p5 n5 => ?_⟩
      have e17 : (upd H16 p5 (.tup [.ref pn, .ref p4, .ref pL])) p5 = some (.tup [.ref pn, .ref p4, .ref pL]) := upd_same
      have s17 : Same H16 (upd H16 p5 (.tup [.ref pn, .ref p4, .ref pL])) := same_new n5
      generalize upd H16 p5 (.tup [.ref pn, .ref p4, .ref pL]) = H17 at *
      refine ⟨by show 2 ≤ sizeLine; decide, fun x nx => ?_⟩
      have e18 : (upd H17 x (.tup [.ref b, .ref p5])) x = some (.tup [.ref b, .ref p5]) := upd_same
      have s18 : Same H17 (upd H17 x (.tup [.ref b, .ref p5])) := same_new nx
      generalize upd H17 x (.tup [.ref b, .ref p5]) = H18 at *
      have S : Same H12 H18 := s13.trans (s14.trans (s15.trans (s16.trans (s17.trans s18))))
      have kn18 := (kn11.same s12).same S
      obtain ⟨hb', eN, eM, eL⟩ := hb.mark (m := mk) mzp hmk
      refine q CM x b t1 p5 pn p4 pL _ H18 (NR10.trans (s11.nr.trans (s12.nr.trans S.nr))) kn18.dc (fun o y ho h1 h2 h3 => ⟨h1, ne_of_none ho (nr_free (NR10.trans (s11.trans (s12.trans (s13.trans (s14.trans s15)))).nr) ((kn11.same s12).same (s13.trans (s14.trans s15))).dc n4), h3⟩) (.inr rfl) (st12.same S) hb' e18 ?_
      have ecs : cs.map (·.2) = sortO (((flM ps).filter fun e => !decide (e.1 = z)) ++ [(z, mk)]) := by
        rw [ec, List.map_map]
        show sortO ((wm ++ [(p1, (z, mk))]).map (·.2)) = _
        rw [List.map_append, ef, ← em]
        rfl
      rw [eN, eM, eL, ← ecs, el]
      exact ⟨_, _, s18 _ _ e17, kn18.fz.h2, s18 _ _ (s17 _ _ e16), tts_sorted pm' fun c hc => (tw c hc).kq (s16.trans (s17.trans s18)).kq, kn18.fz.h5, tts_of kn18.fz.t5⟩
    -- a link less
    have kn8 := kn7.same s8
    have NR8 := NR7.trans s8.nr
    clear kn7 NR7 s8
    refine sif_and (b1 := decide (V.int r = V.int 2)) (b2 := !zl.isEmpty) (fun Q' q' => ?_) (fun H' s' Q' q' => ?_) (fun hB H9 s9 => ?_) (fun _ H9 s9 => ?_)
    · exact ⟨.int r, rfl, rfl, _, rfl, q' _ (Same.refl _)⟩
    · refine ⟨.ref pL, rfl, cmp_nil true (lst_of (kn8.same s').fz.h5) (pd_refs (kn8.same s').fz.t5) fun G0 s0 => ⟨_, rfl, ?_⟩⟩
      have e : (zl.map fun z => V.ref z.1).isEmpty = zl.isEmpty := by cases zl <;> rfl
      rw [if_pos rfl, e]
      exact q' G0 s0
    · have kn9 := kn8.same s9
      have ne : zl ≠ [] := fun h => by
        rw [h, Bool.and_eq_true] at hB
        cases hB.2
      refine ⟨.ref d, rfl, .ref pL, rfl, d, pL, _, rfl, kn9.dc, kn9.fz.h5, (kn9.fz.a.ne_d kn9.dc).2.2.symm, fun h => ne (List.map_eq_nil_iff.mp h), by rw [List.length_map]; omega, fun v H10 mv nr10 dc10 => ?_⟩
      obtain ⟨e, he, rfl⟩ := List.mem_map.mp mv
      have kn10 := kn9.nr nr10 dc10
      have NR10 : Nr d H H10 := NR8.trans (s9.nr.trans nr10)
      clear kn8 kn9 NR8 s9 nr10 dc10 mv hB
      have me : e.2 ∈ flL ps := by
        rw [el]
        exact List.mem_map.mpr ⟨e, he, rfl⟩
      have mr := (mem_rL nd).mp (mem_setO.mp me)
      obtain ⟨m1, m2⟩ := hb.hs.get_l _ _ mr
      have m0 : e.2.a ∈ ps.map (·.1) := by
        by_cases c : e.2.a ∈ ps.map (·.1)
        · exact c
        · rw [get_off c] at mr
          cases mr
      obtain ⟨c, x1, x2, x3, ec, hc, y1, y2, y3⟩ := (kn10.fz.t5 e he).t3
      have ec' : e.1 = c := by injection ec
      subst ec'
      rw [y1.str, y2.str, y3.str] at hc
      obtain ⟨dx, fs, uvs, g1, g2, g3, g4, g5, g6, g7⟩ := id kn10.st
      refine ⟨.ref a, rfl, a, dx, fs, rfl, g1, look_none g7 (by decide +kernel), .ref e.1, rfl, e.1, _, 0, .str e.2.a, rfl, rfl, tup_of hc, rfl, .ref e.1, rfl, e.1, _, 1, .str e.2.b, rfl, rfl, tup_of hc, rfl, .ref e.1, rfl, e.1, _, 2, .str e.2.c, rfl, rfl, tup_of hc, rfl, a, la, t, ms, ks, ps, e.2.a, e.2.b, e.2.c, rfl, kn10.st, m0, m1, m2, nd, by omega, by have := hb.hs.m3 e.2.a; omega, by have := hb.lz e.2.a; omega, mr, fun b t1 H11 s11 nb nt st11 => ?_⟩
      have kn11 := kn10.same s11
      refine ⟨.ref pn, rfl, .ref pM, rfl, .ref pL, rfl, pL, rfl, ⟨_, lst_of kn11.fz.h5⟩, fun D nD => lc_on (h := fun e : Addr × Tri => V.ref e.1) (xs := zl) (by have := walk_list (K := K) (a := pL) (xs := zl.map fun z => V.ref z.1); rw [List.length_map] at this; exact this) rfl (fun c => !decide (c.2 = e.2)) (fun e => V.ref e.1) nD (fun H' s' => lst_of (s' _ _ kn11.fz.h5)) (by omega) (fun c hc H' s' Q' q' => ?_) (fun e he _ H' s' Q' q' => ⟨_, rfl, q' H' (Same.refl H')⟩) fun H12 s12 e12 => ?_⟩
      · refine ⟨.ref c.1, rfl, .ref e.1, rfl, ?_⟩
        exact ne_t (a := c.2) (b := e.2) ((kn11.fz.t5 c hc).kq s'.kq).dt ((kn11.fz.t5 e he).kq s'.kq).dt ⟨_, rfl, q' H' (Same.refl H')⟩
      refine ⟨by show 3 ≤ sizeLine; decide, fun p5 n5 => ?_⟩
      have e13 : (upd H12 p5 (.tup [.ref pn, .ref pM, .ref D])) p5 = some (.tup [.ref pn, .ref pM, .ref D]) := upd_same
      have s13 : Same H12 (upd H12 p5 (.tup [.ref pn, .ref pM, .ref D])) := same_new n5
      generalize upd H12 p5 (.tup [.ref pn, .ref pM, .ref D]) = H13 at *
      refine ⟨by show 2 ≤ sizeLine; decide, fun x nx => ?_⟩
      have e14 : (upd H13 x (.tup [.ref b, .ref p5])) x = some (.tup [.ref b, .ref p5]) := upd_same
      have s14 : Same H13 (upd H13 x (.tup [.ref b, .ref p5])) := same_new nx
      generalize upd H13 x (.tup [.ref b, .ref p5]) = H14 at *
      have S : Same H11 H14 := s12.trans (s13.trans s14)
      have kn14 := kn11.same S
      obtain ⟨hb', eN, eM, eL⟩ := hb.unlink me
      refine q CM x b t1 p5 pn pM D _ H14 (NR10.trans (s11.nr.trans S.nr)) kn14.dc (fun o y ho h1 h2 h3 => ⟨h1, h2, ne_of_none ho (nr_free (NR10.trans s11.nr) kn11.dc nD)⟩) (.inr rfl) (st11.same S) hb' e14 ?_
      have ef : (zl.filter fun c => !decide (c.2 = e.2)).map (·.2) = (zl.map (·.2)).filter fun q => !decide (q = e.2) := filt_map zl fun q => !decide (q = e.2)
      rw [eN, eM, eL, em, el, ← ef]
      exact (show FlatZ H14 p5 pn pM D (flN ps) zm (zl.filter fun c => !decide (c.2 = e.2)) from ⟨s14 _ _ e13, kn14.fz.h2, kn14.fz.h3, kn14.fz.t3, s14 _ _ (s13 _ _ e12), fun c hc => kn14.fz.t5 c (List.mem_filter.mp hc).1⟩).a
    have kn9 := kn8.same s9
    have NR9 := NR8.trans s9.nr
    clear kn8 NR8 s9
    -- a thing less
    refine ⟨.int r, rfl, rfl, _, rfl, ?_⟩
    by_cases c3 : V.int r = V.int 3
    · rw [decide_eq_true c3]
      refine iteT ?_
      refine ⟨.ref pL, rfl, pL, rfl, ⟨_, lst_of kn9.fz.h5⟩, fun D nD => lc_on (h := fun e : Addr × Tri => V.ref e.1) (xs := zl) (by have := walk_list (K := K) (a := pL) (xs := zl.map fun z => V.ref z.1); rw [List.length_map] at this; exact this) rfl (fun c => !(decide (z = c.2.a) || decide (z = c.2.c))) (fun e => V.ref e.1) nD (fun H' s' => lst_of (s' _ _ kn9.fz.h5)) (by omega) (fun c hc H' s' Q' q' => ?_) (fun e he _ H' s' Q' q' => ⟨_, rfl, q' H' (Same.refl H')⟩) fun H10 s10 e10 => ?_⟩
      · obtain ⟨u, x1, x2, x3, ec, hu', y1, y2, y3⟩ := ((kn9.fz.t5 c hc).kq s'.kq).t3
        have ec' : c.1 = u := by injection ec
        subst ec'
        rw [y1.str, y2.str, y3.str] at hu'
        refine ⟨.str z, rfl, .ref c.1, rfl, c.1, _, 0, .str c.2.a, rfl, rfl, tup_of hu', rfl, .ref c.1, rfl, c.1, _, 2, .str c.2.c, rfl, rfl, tup_of hu', rfl, by show 2 ≤ sizeLine; decide, fun t2 nt2 => ?_⟩
        have e0 : (upd H' t2 (.tup [.str c.2.a, .str c.2.c])) t2 = some (.tup [.str c.2.a, .str c.2.c]) := upd_same
        have s0 : Same H' (upd H' t2 (.tup [.str c.2.a, .str c.2.c])) := same_new nt2
        generalize upd H' t2 (.tup [.str c.2.a, .str c.2.c]) = H0 at *
        refine ⟨t2, _, rfl, .inr (tup_of e0), rfl, rfl, _, rfl, ?_⟩
        rw [if_pos rfl, inV_two]
        exact q' H0 s0
      have kn10 := kn9.same s10
      refine ⟨.ref pM, rfl, pM, rfl, ⟨_, lst_of kn10.fz.h3⟩, fun D2 nD2 => lc_on (h := fun e : Addr × (Str × Str) => V.ref e.1) (xs := zm) (by have := walk_list (K := K) (a := pM) (xs := zm.map fun z => V.ref z.1); rw [List.length_map] at this; exact this) rfl (fun e => !decide (e.2.1 = z)) (fun e => V.ref e.1) nD2 (fun H' s' => lst_of (s' _ _ kn10.fz.h3)) (by omega) (fun e he H' s' Q' q' => ?_) (fun e he _ H' s' Q' q' => ⟨_, rfl, q' H' (Same.refl H')⟩) fun H11 s11 e11 => ?_⟩
      · obtain ⟨c, x1, x2, ec, hc, y1, y2⟩ := ((kn10.fz.t3 e he).kq s'.kq).pair
        have ec' : e.1 = c := by injection ec
        subst ec'
        rw [y1.str, y2.str] at hc
        refine ⟨.ref e.1, rfl, e.1, _, 0, .str e.2.1, rfl, rfl, tup_of hc, rfl, .str z, rfl, rfl, _, rfl, ?_⟩
        rw [dec_st]
        exact q' H' (Same.refl H')
      have kn11 := kn10.same s11
      obtain ⟨dx, fs, uvs, g1, g2, g3, g4, g5, g6, g7⟩ := id kn11.st
      refine ⟨.ref a, rfl, a, dx, fs, rfl, g1, look_none g7 (by decide +kernel), .str z, rfl, a, la, t, ms, ks, ps, z, rfl, kn11.st, mzp, nd, by omega, fun p hp => by have := (hb.each hp).2; omega, fun b t1 H12 s12 nb nt st12 => ?_⟩
      have kn12 := kn11.same s12
      refine ⟨.ref pn, rfl, pn, rfl, ⟨_, lst_of kn12.fz.h2⟩, fun D3 nD3 => lc_on (h := V.str) (xs := flN ps) (by have := walk_list (K := K) (a := pn) (xs := (flN ps).map V.str); rw [List.length_map] at this; exact this) rfl (fun x => !decide (x = z)) V.str nD3 (fun H' s' => lst_of (s' _ _ kn12.fz.h2)) (by omega) (fun x hx H' s' Q' q' => ?_) (fun x hx _ H' s' Q' q' => ⟨_, rfl, q' H' (Same.refl H')⟩) fun H13 s13 e13 => ?_⟩
      · refine ⟨.str x, rfl, .str z, rfl, rfl, _, rfl, ?_⟩
        rw [dec_st]
        exact q' H' (Same.refl H')
      refine ⟨.ref D2, rfl, .ref D, rfl, by show 3 ≤ sizeLine; decide, fun p5 n5 => ?_⟩
      have e14 : (upd H13 p5 (.tup [.ref D3, .ref D2, .ref D])) p5 = some (.tup [.ref D3, .ref D2, .ref D]) := upd_same
      have s14 : Same H13 (upd H13 p5 (.tup [.ref D3, .ref D2, .ref D])) := same_new n5
      generalize upd H13 p5 (.tup [.ref D3, .ref D2, .ref D]) = H14 at *
      refine ⟨by show 2 ≤ sizeLine; decide, fun x nx => ?_⟩
      have e15 : (upd H14 x (.tup [.ref b, .ref p5])) x = some (.tup [.ref b, .ref p5]) := upd_same
      have s15 : Same H14 (upd H14 x (.tup [.ref b, .ref p5])) := same_new nx
      generalize upd H14 x (.tup [.ref b, .ref p5]) = H15 at *
      have S : Same H12 H15 := s13.trans (s14.trans s15)
      have kn15 := kn12.same S
      obtain ⟨hb', eN, eM, eL⟩ := hb.wout z
      refine q CM x b t1 p5 D3 D2 D _ H15 (NR9.trans (s10.nr.trans (s11.nr.trans (s12.nr.trans S.nr)))) kn15.dc (fun o y ho h1 h2 h3 => ⟨ne_of_none ho (nr_free (NR9.trans (s10.trans (s11.trans s12)).nr) kn12.dc nD3), ne_of_none ho (nr_free (NR9.trans s10.nr) kn10.dc nD2), ne_of_none ho (nr_free NR9 kn9.dc nD)⟩) (.inr rfl) (st12.same S) hb' e15 ?_
      have ef : (zl.filter fun c => !(decide (z = c.2.a) || decide (z = c.2.c))).map (·.2) = (zl.map (·.2)).filter fun q => !(decide (z = q.a) || decide (z = q.c)) := filt_map zl fun q => !(decide (z = q.a) || decide (z = q.c))
      have ef2 : (zm.filter fun c => !decide (c.2.1 = z)).map (·.2) = (zm.map (·.2)).filter fun q => !decide (q.1 = z) := filt_map zm fun q => !decide (q.1 = z)
      rw [eN, eM, eL, em, el, ← ef, ← ef2]
      exact (show FlatZ H15 p5 D3 D2 D ((flN ps).filter fun x => !decide (x = z)) (zm.filter fun c => !decide (c.2.1 = z)) (zl.filter fun c => !(decide (z = c.2.a) || decide (z = c.2.c))) from ⟨s15 _ _ e14, s15 _ _ (s14 _ _ e13), s15 _ _ (s14 _ _ (s13 _ _ (s12 _ _ e11))), fun c hc => kn15.fz.t3 c (List.mem_filter.mp hc).1, s15 _ _ (s14 _ _ (s13 _ _ (s12 _ _ (s11 _ _ e10)))), fun c hc => kn15.fz.t5 c (List.mem_filter.mp hc).1⟩).a
    rw [decide_eq_false c3]
    refine iteF ?_
    -- a link more
    obtain ⟨dx, fs, uvs, g1, g2, g3, g4, g5, g6, g7⟩ := id kn9.st
    refine ⟨.ref a, rfl, a, dx, fs, rfl, g1, look_none g7 (by decide +kernel), .str z, rfl, .str kd, rfl, .str y, rfl, a, la, t, ms, ks, ps, z, kd, y, rfl, kn9.st, mzp, mk_, myp, nd, by omega, by have := hb.hs.m3 z; omega, by have := hb.lz z; omega, fun b t1 H10 s10 nb nt st10 => ?_⟩
    have kn10 := kn9.same s10
    refine ⟨.ref pn, rfl, .ref pM, rfl, .ref pL, rfl, .str z, rfl, .str kd, rfl, .str y, rfl, by show 3 ≤ sizeLine; decide, fun p1 n1 => ?_⟩
    have e11 : (upd H10 p1 (.tup [.str z, .str kd, .str y])) p1 = some (.tup [.str z, .str kd, .str y]) := upd_same
    have s11 : Same H10 (upd H10 p1 (.tup [.str z, .str kd, .str y])) := same_new n1
    generalize upd H10 p1 (.tup [.str z, .str kd, .str y]) = H11 at *
    refine ⟨by show 1 ≤ sizeLine; decide, fun p2 n2 => ?_⟩
    have e12 : (upd H11 p2 (.lst [.ref p1])) p2 = some (.lst [.ref p1]) := upd_same
    have s12 : Same H11 (upd H11 p2 (.lst [.ref p1])) := same_new n2
    generalize upd H11 p2 (.lst [.ref p1]) = H12 at *
    have kn12 := (kn10.same s11).same s12
    refine ⟨pL, p2, _, _, rfl, rfl, kn12.fz.h5, e12, by rw [List.length_map]; exact small1000 (by omega), fun p3 n3 => ?_⟩
    have e13 : (upd H12 p3 (.lst ((zl.map fun e => V.ref e.1) ++ [.ref p1]))) p3 = some (.lst ((zl.map fun e => V.ref e.1) ++ [.ref p1])) := upd_same
    have s13 : Same H12 (upd H12 p3 (.lst ((zl.map fun e => V.ref e.1) ++ [.ref p1]))) := same_new n3
    generalize upd H12 p3 (.lst ((zl.map fun e => V.ref e.1) ++ [.ref p1])) = H13 at *
    have tw : ∀ c ∈ zl ++ [(p1, T3.mk z kd y)], Tt H13 (.ref c.1) c.2 := fun c hc => by
      rcases List.mem_append.mp hc with hc | hc
      · exact (kn12.fz.t5 c hc).kq s13.kq
      · rw [List.mem_singleton.mp hc]
        exact tt_t3 (s13 _ _ (s12 _ _ e11)) tt_str tt_str tt_str
    have e13' : H13 p3 = some (.lst ((zl ++ [(p1, T3.mk z kd y)]).map fun c => .ref c.1)) := by
      rw [e13, List.map_append]
      rfl
    have lw : (zl ++ [(p1, T3.mk z kd y)]).length ≤ 60 := by
      rw [List.length_append, List.length_singleton]
      omega
    refine ⟨p3, zl ++ [(p1, T3.mk z kd y)], rfl, .inl (lst_of e13'), fun c hc => (tw c hc).dt, lw, fun p6 o6 n6 h6 => ?_⟩
    have e14 : (upd H13 p6 (o6)) p6 = some (o6) := upd_same
    have s14 : Same H13 (upd H13 p6 (o6)) := same_new n6
    generalize upd H13 p6 (o6) = H14 at *
    refine ⟨p6, zl ++ [(p1, T3.mk z kd y)], o6, rfl, e14, h6, fun c hc => ((tw c hc).kq s14.kq).dt, lw, fun ds p7 mc ec n7 => ?_⟩
    have e15 : (upd H14 p7 (.lst (ds.map fun c => .ref c.1))) p7 = some (.lst (ds.map fun c => .ref c.1)) := upd_same
    have s15 : Same H14 (upd H14 p7 (.lst (ds.map fun c => .ref c.1))) := same_new n7
    generalize upd H14 p7 (.lst (ds.map fun c => .ref c.1)) = H15 at *
    refine ⟨by show 3 ≤ sizeLine; decide, fun p5 n5 => ?_⟩
    have e16 : (upd H15 p5 (.tup [.ref pn, .ref pM, .ref p7])) p5 = some (.tup [.ref pn, .ref pM, .ref p7]) := upd_same
    have s16 : Same H15 (upd H15 p5 (.tup [.ref pn, .ref pM, .ref p7])) := same_new n5
    generalize upd H15 p5 (.tup [.ref pn, .ref pM, .ref p7]) = H16 at *
    refine ⟨by show 2 ≤ sizeLine; decide, fun x nx => ?_⟩
    have e17 : (upd H16 x (.tup [.ref b, .ref p5])) x = some (.tup [.ref b, .ref p5]) := upd_same
    have s17 : Same H16 (upd H16 x (.tup [.ref b, .ref p5])) := same_new nx
    generalize upd H16 x (.tup [.ref b, .ref p5]) = H17 at *
    have S : Same H10 H17 := s11.trans (s12.trans (s13.trans (s14.trans (s15.trans (s16.trans s17)))))
    have kn17 := kn10.same S
    obtain ⟨hb', eN, eM, eL⟩ := hb.link mzp mk_ myp
    refine q CM x b t1 p5 pn pM p7 _ H17 (NR9.trans (s10.nr.trans S.nr)) kn17.dc (fun o y ho h1 h2 h3 => ⟨h1, h2, ne_of_none ho (nr_free (NR9.trans (s10.trans (s11.trans (s12.trans (s13.trans s14)))).nr) (kn10.same (s11.trans (s12.trans (s13.trans s14)))).dc n7)⟩) (.inr rfl) (st10.same S) hb' e17 ?_
    have ecs : ds.map (·.2) = setO (flL ps ++ [T3.mk z kd y]) := by
      rw [ec, List.map_append, el]
      rfl
    rw [eN, eM, eL, ← ecs, em]
    exact (show FlatZ H17 p5 pn pM p7 (flN ps) zm ds from ⟨s17 _ _ e16, kn17.fz.h2, kn17.fz.h3, kn17.fz.t3, s17 _ _ (s16 _ _ e15), fun c hc => (tw c (mc c hc)).kq (s14.trans (s15.trans (s16.trans s17))).kq⟩).a
end
end Tf

/-! a history: _law_history_right -/
namespace Tf
open PySem PySem.Spec PyProof.Rows L2 PySem.W
abbrev sHr : Stmt := top 49
abbrev nHr : List Str := ["_law_dice_here", "_law_language_here", "_law_made", "_law_flat_here", "_law_olds", "_law_turn", "_law_old", "_law_lists"]
theorem scHr : FnScope nHr ["_law_dice_here", "_law_language_here", "_law_made", "_law_flat_here"] (defScope sHr) := ⟨rfl, rfl, rfl, by decide +kernel, rfl, by decide +kernel, by decide +kernel⟩
/-- an expression whose object is of one of two classes -/
def tTwo (F : Addr → TE) (C D : Addr) : TE := fun σ H Q => F C σ H Q ∨ F D σ H Q
theorem pe_two {X : Cx} {e : Expr} {F : Addr → TE} {C D : Addr} (h1 : PE X e (F C)) (h2 : PE X e (F D)) : PE X e (tTwo F C D) := ⟨fun pins s σ H Q I hw => hw.elim (h1.run pins s σ H Q I) (h2.run pins s σ H Q I)⟩
theorem two_of {F : Addr → TE} {σ : L2.St} {H : Hp} {Q : VK} {B C D : Addr} (h : B = C ∨ B = D) (k : F B σ H Q) : F C σ H Q ∨ F D σ H Q := h.elim (fun e => .inl (e ▸ k)) (fun e => .inr (e ▸ k))
def tThings (CL : Addr) (i : Nat) (C : Addr) : TE := tProp C (spSth CL C) [] E0 (tVar i)
def tNames (CL : Addr) (i : Nat) (C : Addr) : TE := tProp C (spSnm CL C) [] E0 (tVar i)
def tLen (CL : Addr) (i : Nat) (C : Addr) : TE := tCB (rLenO C (spSle CL C) E0) (tCons (tVar i) tNil)
def spCg2 (CL CS CM : Addr) : Sp := fun vs H Q E => ∃ C, (C = CS ∨ C = CM) ∧ spCg CL C CM vs H Q E
theorem fnOk_two {P : Program} {w : World} {K : PySem.W.Frag} {mg : Str → Option Value} {base : Heap} {k : Nat} {f : Addr} {fd : FuncData} {ps : List Str} {CL CS CM : Addr} (F1 : FnOk P w K mg base CX0 k f fd ps (spCg CL CS CM)) (F2 : FnOk P w K mg base CX0 k f fd ps (spCg CL CM CM)) : FnOk P w K mg base CX0 k f fd ps (spCg2 CL CS CM) :=
  ⟨fun vs H Q E ⟨C, hC, h⟩ => by
    rcases hC with rfl | rfl
    · exact F1.len vs H Q E h
    · exact F2.len vs H Q E h, fun A outer s H args us vs Q E hr he hb hv ⟨C, hC, h⟩ => by
    rcases hC with rfl | rfl
    · exact F1.run A outer s H args us vs Q E hr he hb hv h
    · exact F2.run A outer s H args us vs Q E hr he hb hv h⟩
theorem Tts.all {α : Type} [DecidableEq α] [Datum α] {H : Hp} : ∀ {vs : List V} {xs : List α}, Tts H vs xs → TrAll H vs (xs.map Datum.toD)
  | _, _, .nil => .nil
  | _, _, .cons h r => .cons h (Tts.all r)
theorem FlatA.dt {K : PySem.W.Frag} {H : Hp} {p n m l : Addr} {zs : List Str} {es : List (Str × Str)} {ts : List Tri} (f : FlatA H p n m l zs es ts) : Dt K H (.ref p) (T3.mk zs es ts) := by
  obtain ⟨vm, vl, h1, h2, h3, h4, h5, h6⟩ := f
  exact Dp.tup (tup_of h1) (.cons (.lst (lst_of h2) (Tts.all (tts_strs zs)).dp) (.cons (.lst (lst_of h3) (Tts.all h4).dp) (.cons (.lst (lst_of h5) (Tts.all h6).dp) .nil)))
theorem Hb.up {ms ks : List Str} {ps : Ps} {i j : Nat} (h : Hb ms ks i ps) (l : i ≤ j) : Hb ms ks j ps := ⟨h.hs, h.so, Nat.le_trans h.ln (by omega), Nat.le_trans h.ll (by omega)⟩
/-- an earlier store and its lists -/
structure Ent where
  C : Addr
  b : Addr
  la : Addr
  t : Addr
  p : Addr
  n : Addr
  m : Addr
  l : Addr
  ps : Ps
structure Old (CL CS CM po : Addr) (ms ks : List Str) (H : Hp) (e : Addr × Ent) : Prop where
  h0 : H e.1 = some (.tup [.ref e.2.b, .ref e.2.p])
  hC : e.2.C = CS ∨ e.2.C = CM
  st : StoreAt CL e.2.C H e.2.b e.2.la e.2.t ms ks e.2.ps
  hb : Hb ms ks 16 e.2.ps
  fl : FlatA H e.2.p e.2.n e.2.m e.2.l (flN e.2.ps) (flM e.2.ps) (flL e.2.ps)
  off : po ≠ e.2.n ∧ po ≠ e.2.m ∧ po ≠ e.2.l
section
variable {CL CS CM po d : Addr} {ms ks : List Str} {H H' : Hp} {e : Addr × Ent}
theorem Old.nr (o : Old CL CS CM po ms ks H e) (n : Nr d H H') (dc : Dice H d) : Old CL CS CM po ms ks H' e :=
  ⟨(n.kq dc).tup o.h0, o.hC, o.st.nr n dc, o.hb, o.fl.nr n dc, o.off⟩
theorem Old.same (o : Old CL CS CM po ms ks H e) (s : Same H H') : Old CL CS CM po ms ks H' e :=
  ⟨s.kq.tup o.h0, o.hC, o.st.same s, o.hb, o.fl.same s, o.off⟩
theorem store_app {C a la t : Addr} {ps : Ps} {xs ys : List V} (st : StoreAt CL C H a la t ms ks ps) (e : H po = some (.lst xs)) : StoreAt CL C (upd H po (.lst ys)) a la t ms ks ps := by
  refine st.kq (Kq.lst e) fun o h => ?_
  obtain ⟨dx, fs, kvs, h1, h2, h3, h4, h5, h6, h7⟩ := st
  rw [upd_ne (ne_of h5 e (fun z => nomatch z))]
  exact h
theorem flat_app {p n m l : Addr} {zs : List Str} {es : List (Str × Str)} {ts : List Tri} {xs ys : List V} (f : FlatA H p n m l zs es ts) (e : H po = some (.lst xs)) (off : po ≠ n ∧ po ≠ m ∧ po ≠ l) : FlatA (upd H po (.lst ys)) p n m l zs es ts := by
  have q : Kq H (upd H po (.lst ys)) := Kq.lst e
  obtain ⟨vm, vl, h1, h2, h3, h4, h5, h6⟩ := f
  exact ⟨vm, vl, q.tup h1, by rw [upd_ne off.1.symm]; exact h2, by rw [upd_ne off.2.1.symm]; exact h3, h4.kq q, by rw [upd_ne off.2.2.symm]; exact h5, h6.kq q⟩
theorem Old.app {xs ys : List V} (o : Old CL CS CM po ms ks H e) (h : H po = some (.lst xs)) : Old CL CS CM po ms ks (upd H po (.lst ys)) e := by
  have q : Kq H (upd H po (.lst ys)) := Kq.lst h
  exact ⟨q.tup o.h0, o.hC, store_app o.st h, o.hb, flat_app o.fl h o.off, o.off⟩
end
def spHr (CL CS CM : Addr) : Sp := fun vs H Q _ => ∃ (d pg pm pk a la t p n m l C : Addr) (ms ks : List Str) (ps : Ps), vs = [.ref d, .ref pg, .ref a, .ref p] ∧ Dice H d ∧ H pg = some (.tup [.ref pm, .ref pk]) ∧ H pm = some (.tup (ms.map V.str)) ∧ H pk = some (.tup (ks.map V.str)) ∧ ms.length ≤ 3 ∧ 1 ≤ ks.length ∧ ks.length ≤ 3 ∧ (C = CS ∨ C = CM) ∧ StoreAt CL C H a la t ms ks ps ∧ Hb ms ks 0 ps ∧ FlatA H p n m l (flN ps) (flM ps) (flL ps) ∧
  ∀ H' : Hp, Nr d H H' → Dice H' d → Q (.bl true) H'
section
variable {P : Program} {w : World} {K : PySem.W.Frag} {mg : Str → Option Value} {base : Heap}
theorem ok_hr {f CL CS CM : Addr} {fd : FuncData} {n : Nat} (F : Fun K "_law_history_right" "_law_history_right" sHr f fd) (S : C8 P w K mg base n CL CS CM) (M : C8 P w K mg base n CL CM CM) (GR : CdN P w K mg base n "_law_roll" ["_law_dice_here", "_law_upto"] spRoll) (GF : CdN P w K mg base n "_law_flat" ["_law_store_here"] spFt) (GC : CdN P w K mg base (n + 1) "_law_changed" ["_law_dice_here", "_law_language_here", "_law_made", "_law_flat_here"] (spCg2 CL CS CM)) (mT : mg "tuple" = none) (mN : mg "len" = none) (mRg : mg "range" = none) : FnOk P w K mg base CX0 (n + 2) f fd ["_law_dice_here", "_law_language_here", "_law_made", "_law_flat_here"] (spHr CL CS CM) := by
  refine F.ok scHr (fun vs H Q E h => ?_) (fun cdv A outer s H vs Q E hr h => ?_)
  · obtain ⟨d, pg, pm, pk, a, la, t, p, n', m, l, C, ms, ks, ps, rfl, _⟩ := h
    rfl
  · obtain ⟨d, pg, pm, pk, a, la, t, p, pn, pM, pL, C, ms, ks, ps, rfl, dc, hg, hm, hk, m3, k1, k3, hC, st, hb, fl, q⟩ := h
    have hu64 : (A.deeper (envOfC "_law_history_right" (defScope sHr) s.heap.objs.size f cdv)).units + 64 < cLine := by have := hr.un; omega
    have hrn : Room n (A.deeper (envOfC "_law_history_right" (defScope sHr) s.heap.objs.size f cdv)) := hr.mono (by omega)
    have hr1 : Room (n + 1) (A.deeper (envOfC "_law_history_right" (defScope sHr) s.heap.objs.size f cdv)) := hr.mono (by omega)
    refine ⟨_, pss_cons (ps_set (i := 4) scHr.nd rfl (.inl rfl) (pe_lst pa_nil))
      (pss_cons (ps_for PassesOwn.never rfl (pi_range1 rfl mRg (pa_cons (pe_op op_add pe_int (pe_cdn GR hrn (pa_cons (pv 0) (pa_cons pe_int pa_nil)))) pa_nil)) (pg_name (i := 5) scHr.nd rfl (Or.inl rfl))
        (pss_cons (ps_asg (pe_cdn GC hr1 (pa_cons (pv 0) (pa_cons (pv 1) (pa_cons (pv 2) (pa_cons (pv 3) pa_nil))))) (pg_tup (by rfl) (pgs_cons (pg_name (i := 2) scHr.nd rfl (.inl rfl)) (pgs_cons (pg_name (i := 3) scHr.nd rfl (.inl rfl)) pgs_nil))))
        (pss_cons (ps_if (PW.pt (pw_or (pt_cmpR (op_neP hu64) (pe_cdn GF hrn (pa_cons (pe_two (F := tThings CL 2) (pe_ppn S.cl S.pt hr1 (pv 2)) (pe_ppn M.cl M.pt hr1 (pv 2))) pa_nil)) (pv 3) (nomark _)) (pw_or (pt_cmpR op_ne (pe_two (F := tLen CL 2) (pe_callB (call_lenN S.le hr1) (by rfl) mN PySem.boot_len (pa_cons (pv 2) pa_nil)) (pe_callB (call_lenN M.le hr1) (by rfl) mN PySem.boot_len (pa_cons (pv 2) pa_nil))) (pe_callB call_lenS (by rfl) mN PySem.boot_len (pa_cons (pe_ix ix_tup (pv 3) pe_int (fun _ _ => rfl)) pa_nil)) (nomark _)) (pw_or1 (pt_cmpR (op_neP hu64) (pe_two (F := tNames CL 2) (pe_ppn S.cl S.pn hr1 (pv 2)) (pe_ppn M.cl M.pn hr1 (pv 2))) (pe_callTy call_tuple_of (by rfl) mT (by decide +kernel) (pa_cons (pe_ix ix_tup (pv 3) pe_int (fun _ _ => rfl)) pa_nil)) (nomark _)))))) (pss_one (ps_ret pe_bl)) pss_nil)
        (pss_one (ps_expr (pe_bm PySem.F.plainAttrs_list PySem.F.slot_list_append PySem.F.type_list_append mt_append (pv 4) (pa_cons (pe_tup (pa_cons (pv 2) (pa_cons (pv 3) pa_nil))) pa_nil)))))))
      (pss_one (ps_ret (pe_cmpR (op_eqP hu64) (pe_lc (own := [("_law_old", 6), ("_law_lists", 7)]) (g := gTup K 2 (gCons (gName 6) (gCons (gName 7) gNil))) (tt := tTest (tOp (rEqP K true) (tCall spFt [] E0 (tCons (tTwo (tThings CL 6) CS CM) tNil)) (tVar 7))) (te := tC (.int 1)) (by rfl) scHr.nd (pi_list (pv 4)) (blkOk_by (own := [("_law_old", 6), ("_law_lists", 7)]) (N := nHr) (sc := defScope sHr) (by decide +kernel)) (fun _ _ _ _ _ => pg_tup (by rfl) (pgs_cons (pg_name (i := 6) scHr.nd rfl (Or.inl rfl)) (pgs_cons (pg_name (i := 7) scHr.nd rfl (Or.inl rfl)) pgs_nil))) (fun _ _ _ _ _ => pts_one (pt_cmpR (op_neP hu64) (pe_cdn GF hrn (pa_cons (pe_two (F := tThings CL 6) (pe_ppn S.cl S.pt hr1 (pv 6)) (pe_ppn M.cl M.pt hr1 (pv 6))) pa_nil)) (pv 7) (nomark _))) (fun _ _ _ _ _ => pe_int)) (pe_lst pa_nil) (nomark _))))), ?_⟩
    have hdo : ∀ {po : Addr}, H po = none → d ≠ po := fun no => dice_ne dc no
    refine ⟨Nat.zero_le _, fun po no => ?_⟩
    have dpo := hdo no
    obtain ⟨vm0, vl0, b1, b2, b3, b4, b5, b6⟩ := id fl
    have off0 : po ≠ pn ∧ po ≠ pM ∧ po ≠ pL := ⟨(ne_of_none b2 no).symm, (ne_of_none b3 no).symm, (ne_of_none b5 no).symm⟩
    have e0 : (upd H po (.lst [])) po = some (.lst []) := upd_same
    have s0 : Same H (upd H po (.lst [])) := same_new no
    generalize upd H po (.lst []) = H0 at *
    refine ⟨.ref d, rfl, d, 13, rfl, dc.same s0, by decide, by decide, fun r H1 r0 r13 nr1 dc1 => ?_⟩
    refine ⟨4, r, rfl, rfl, ?_⟩
    have NR1 : Nr d H H1 := s0.nr.trans nr1
    refine ⟨4 + r, rfl, by omega, by omega, for_range (n := (4 + r).toNat) (fun i σ G => ∃ (C a la t p n m l : Addr) (ps : Ps) (o5 : Option V) (ws : List (Addr × Ent)), σ = [some (.ref d), some (.ref pg), some (.ref a), some (.ref p), some (.ref po), o5, none, none] ∧ Nr d H G ∧ Dice G d ∧ G po = some (.lst (ws.map fun e => .ref e.1)) ∧ ws.length ≤ i ∧ (C = CS ∨ C = CM) ∧ StoreAt CL C G a la t ms ks ps ∧ Hb ms ks i ps ∧ FlatA G p n m l (flN ps) (flM ps) (flL ps) ∧ (po ≠ n ∧ po ≠ m ∧ po ≠ l) ∧ ∀ e ∈ ws, Old CL CS CM po ms ks G e)
      ⟨C, a, la, t, p, pn, pM, pL, ps, none, [], rfl, NR1, dc1, nr1 _ _ dpo.symm e0, Nat.le_refl 0, hC, st.nr NR1 dc, hb, fl.nr NR1 dc, off0, fun e he => nomatch he⟩ ?_ ?_⟩
    · rintro i σ G hi ⟨C, a, la, t, p, n, m, l, ps, o5, ws, rfl, nr, dcG, go, lw, hC, st, hb, fl, off, old⟩
      have i16 : i ≤ 15 := by omega
      have kqG := nr.kq dc
      refine ⟨.ref d, rfl, .ref pg, rfl, .ref a, rfl, .ref p, rfl, C, hC, d, pg, pm, pk, a, la, t, p, n, m, l, ms, ks, ps, i, rfl, dcG, kqG.tup hg, kqG.tup hm, kqG.tup hk, m3, k1, k3, st, hb, i16, fl, fun D x b t1 p1 n1 m1 l1 qs G1 nr1 dc1 ap hD' st1 hb1 e1 fl1 => ?_⟩
      have hD : D = CS ∨ D = CM := hD'.elim (fun e => e ▸ hC) .inr
      have off1 := ap po _ go off.1 off.2.1 off.2.2
      have go1 := nr1 _ _ dpo.symm go
      have old1 : ∀ e ∈ ws, Old CL CS CM po ms ks G1 e := fun e he => (old e he).nr nr1 dcG
      have NR : Nr d H G1 := nr.trans nr1
      clear old go fl st hb hC hD' ap kqG
      refine ⟨x, _, rfl, tup_of e1, rfl, _, _, rfl, _, _, rfl, rfl, ?_⟩
      obtain ⟨dx, fs, i1⟩ := st1.ins
      have nd := hb1.hs.nd
      have ln := hb1.ln
      refine two_of (F := tThings CL 2) hD ⟨.ref b, rfl, b, dx, fs, rfl, i1, b, la, t1, ms, ks, _, rfl, st1, fun pt kvs G2 s2 nt et rt => ?_⟩
      refine ⟨pt, kvs, qs, rfl, et, rt, nd, hb1.hs.nm, by omega, fun p hp => by have := hb1.each hp; omega, by have := hb1.rMl m3 (by omega); omega, by have := hb1.rLl; omega, fun pf nf mf lf G3 s3 _ _ _ _ flf => ?_⟩
      have S3 := s2.trans s3
      refine ⟨.ref p1, rfl, ne_t (a := T3.mk (flN qs) (flM qs) (flL qs)) (b := T3.mk (flN qs) (flM qs) (flL qs)) flf.dt (fl1.same S3).dt ⟨false, by rw [decide_eq_true rfl]; rfl, iteF ?_⟩⟩
      have st3 := st1.same S3
      obtain ⟨dx3, fs3, i3⟩ := st3.ins
      refine two_of (F := tLen CL 2) hD ⟨.ref b, rfl, b, dx3, fs3, rfl, i3, b, la, t1, ms, ks, qs, rfl, st3, (qs.length : Int), rfl, by omega, by omega, ?_⟩
      obtain ⟨vm, vl, f1, f2, f3, f4, f5, f6⟩ := fl1.same S3
      refine ⟨.ref p1, rfl, p1, _, 0, .ref n1, rfl, rfl, tup_of f1, rfl, n1, _, rfl, .inl (lst_of f2), rfl, false, ?_, iteF ?_⟩
      · rw [List.length_map, hb1.lnN, decide_eq_true rfl]
        rfl
      refine two_of (F := tNames CL 2) hD ⟨.ref b, rfl, b, dx3, fs3, rfl, i3, b, la, t1, ms, ks, qs, rfl, st3, fun pn' G5 s5 n5 e5 => ?_⟩
      refine ⟨.ref p1, rfl, p1, _, 0, .ref n1, rfl, rfl, tup_of (s5 _ _ f1), rfl, n1, _, rfl, .inl ⟨lst_of (s5 _ _ f2), fun p6 n6 => ?_⟩⟩
      have e6 : (upd G5 p6 (.tup ((flN qs).map V.str))) p6 = some (.tup ((flN qs).map V.str)) := upd_same
      have s6 : Same G5 (upd G5 p6 (.tup ((flN qs).map V.str))) := same_new n6
      generalize upd G5 p6 (.tup ((flN qs).map V.str)) = G6 at *
      refine ne_t (a := Tup.mk (qs.map (·.1))) (b := Tup.mk (flN qs)) (tt_tup (s6 _ _ e5) (tts_strs _)).dt (tt_tup e6 (tts_strs _)).dt ⟨false, by rw [← hb1.so, decide_eq_true rfl]; rfl, iteF ?_⟩
      have S6 := S3.trans (s5.trans s6)
      have go6 := S6 _ _ go1
      refine ⟨.ref po, rfl, .inl ⟨rfl, _, lst_of go6⟩, .ref b, rfl, .ref p1, rfl, by show 2 ≤ sizeLine; decide, fun p7 n7 => ?_⟩
      have e7 : (upd G6 p7 (.tup [.ref b, .ref p1])) p7 = some (.tup [.ref b, .ref p1]) := upd_same
      have s7 : Same G6 (upd G6 p7 (.tup [.ref b, .ref p1])) := same_new n7
      generalize upd G6 p7 (.tup [.ref b, .ref p1]) = G7 at *
      have S7 := S6.trans s7
      have go7 := S7 _ _ go1
      refine ⟨po, _, _, rfl, rfl, go7, by rw [List.length_map]; exact small1000 (by omega), ?_⟩
      have NR7 : Nr d H G7 := NR.trans S7.nr
      refine ⟨D, b, la, t1, p1, n1, m1, l1, qs, _, ws ++ [(p7, ⟨D, b, la, t1, p1, n1, m1, l1, qs⟩)], rfl, fun c o ne e => ?_, ?_, by rw [upd_same, List.map_append]; rfl, by rw [List.length_append, List.length_singleton]; omega, hD, store_app (st1.same S7) go7, hb1, flat_app (fl1.same S7) go7 off1, off1, fun e he => ?_⟩
      · rw [upd_ne (ne_of_none e no)]
        exact NR7 c o ne e
      · obtain ⟨x1, x2, x3, h, e⟩ := dc1.same S7
        exact ⟨x1, x2, x3, h, by rw [upd_ne dpo]; exact e⟩
      · rcases List.mem_append.mp he with h | h
        · exact ((old1 e h).same S7).app go7
        · rw [List.mem_singleton.mp h]
          exact Old.app ⟨e7, hD, st1.same S7, hb1.up (by omega), fl1.same S7, off1⟩ go7
    rintro σ G ⟨C, a, la, t, p, n, m, l, ps, o5, ws, rfl, nr, dcG, go, lw, hC, st, hb, fl, off, old⟩
    refine ⟨.ref po, rfl, po, rfl, ⟨_, lst_of go⟩, fun D nD => ?_⟩
    refine lc_ong (h := fun e : Addr × Ent => V.ref e.1) (xs := ws) (vs := [6, 7]) (by have := walk_list (K := K) (a := po) (xs := ws.map fun e => V.ref e.1); rw [List.length_map] at this; exact this) rfl (fun e => [some (.ref d), some (.ref pg), some (.ref a), some (.ref p), some (.ref po), o5, some (.ref e.2.b), some (.ref e.2.p)]) (fun _ => false) (fun _ => .int 1) nD (fun G' s' => lst_of (s' _ _ go)) (by omega) (fun e he G' s' R hR => ?_) (fun e he => rfl) (fun e he G' s' Q' q' => ?_) (fun e he c => by cases c) fun G8 s8 e8 => ?_
    · exact ⟨e.1, _, rfl, tup_of (s' _ _ (old e he).h0), rfl, _, _, rfl, _, _, rfl, rfl, hR⟩
    · have o := (old e he).same s'
      obtain ⟨dx, fs, i1⟩ := o.st.ins
      have ln := o.hb.ln
      refine two_of (F := tThings CL 6) o.hC ⟨.ref e.2.b, rfl, e.2.b, dx, fs, rfl, i1, e.2.b, e.2.la, e.2.t, ms, ks, _, rfl, o.st, fun pt kvs G2 s2 nt et rt => ?_⟩
      refine ⟨pt, kvs, e.2.ps, rfl, et, rt, o.hb.hs.nd, o.hb.hs.nm, by omega, fun p hp => by have := o.hb.each hp; omega, by have := o.hb.rMl m3 (by omega); omega, by have := o.hb.rLl; omega, fun pf nf mf lf G3 s3 _ _ _ _ flf => ?_⟩
      exact ⟨.ref e.2.p, rfl, ne_t (a := T3.mk (flN e.2.ps) (flM e.2.ps) (flL e.2.ps)) (b := T3.mk (flN e.2.ps) (flM e.2.ps) (flL e.2.ps)) flf.dt (o.fl.same (s2.trans s3)).dt ⟨false, by rw [decide_eq_true rfl]; rfl, q' G3 (s2.trans s3)⟩⟩
    have e8' : G8 D = some (.lst []) := by
      rw [e8, List.filter_eq_nil_iff.mpr (fun _ _ => Bool.false_ne_true)]
      rfl
    refine cmp_nil false (lst_of e8') (fun x hx => nomatch hx) fun G9 s9 => ?_
    exact q G9 (nr.trans (s8.trans s9).nr) (dcG.same (s8.trans s9))
end
end Tf

/-! ways: first_ways, way_to, first_way -/
namespace Tf
open PySem PySem.Spec PyProof.Rows L2 PySem.W
abbrev sFw : Stmt := top 36
abbrev nFw : List Str := ["things", "thing", "found", "last", "later", "one", "kind", "end"]
theorem scFw : FnScope nFw ["things", "thing"] (defScope sFw) := ⟨rfl, rfl, rfl, by decide +kernel, rfl, by decide +kernel, by decide +kernel⟩
abbrev sWy : Stmt := top 35
abbrev nWy : List Str := ["links", "last", "found", "here", "before", "kind"]
theorem scWy : FnScope nWy ["links", "last"] (defScope sWy) := ⟨rfl, rfl, rfl, by decide +kernel, rfl, by decide +kernel, by decide +kernel⟩
abbrev sFs : Stmt := top 37
abbrev nFs : List Str := ["store", "thing", "other", "found"]
theorem scFs : FnScope nFs ["store", "thing", "other"] (defScope sFs) := ⟨rfl, rfl, rfl, by decide +kernel, rfl, by decide +kernel, by decide +kernel⟩
abbrev sRs : Stmt := top 22
theorem scRs : FnScope ["store"] ["store"] (defScope sRs) := ⟨rfl, rfl, rfl, by decide +kernel, rfl, by decide +kernel, by decide +kernel⟩
def keyE (e : Str × V) : Key × V := (Sum.inr e.1, e.2)
theorem val_keyE : ∀ {es : List (Str × V)} {x : Str} {v : V}, (es.map (·.1)).Nodup → (x, v) ∈ es → valV (es.map keyE) (Sum.inr x) = some v
  | [], _, _, _, h => nomatch h
  | e :: es, x, v, nd, h => by
    have nd' := List.nodup_cons.mp nd
    rw [List.map_cons]
    by_cases c : e.1 = x
    · rcases List.mem_cons.mp h with e' | h
      · rw [← e']
        exact valV_pos rfl
      · subst c
        exact absurd (List.mem_map.mpr ⟨(e.1, v), h, rfl⟩) nd'.1
    · rw [valV_neg (fun z => c (Sum.inr.inj z))]
      refine val_keyE nd'.2 ((List.mem_cons.mp h).resolve_left fun e' => c ?_)
      rw [← e']
theorem any_keyE (es : List (Str × V)) (x : Str) : ((es.map keyE).any fun kv => decide (kv.1 = Sum.inr x)) = decide (x ∈ es.map (·.1)) := by
  by_cases h : x ∈ es.map (·.1)
  · rw [decide_eq_true h]
    obtain ⟨e, he, rfl⟩ := List.mem_map.mp h
    exact List.any_eq_true.mpr ⟨keyE e, List.mem_map.mpr ⟨e, he, rfl⟩, decide_eq_true rfl⟩
  · rw [decide_eq_false h]
    refine List.any_eq_false.mpr fun kv hk q => h ?_
    obtain ⟨e, he, rfl⟩ := List.mem_map.mp hk
    have z : (Sum.inr e.1 : Key) = Sum.inr x := of_decide_eq_true q
    rw [← Sum.inr.inj z]
    exact List.mem_map.mpr ⟨e, he, rfl⟩
theorem some_keyE (es : List (Str × V)) (x : Str) : (valV (es.map keyE) (Sum.inr x)).isSome = decide (x ∈ es.map (·.1)) := by
  rw [← valV_any, any_keyE]
theorem put_keyE {es : List (Str × V)} {x : Str} (v : V) (h : x ∉ es.map (·.1)) : putK (es.map keyE) (Sum.inr x) v = (es ++ [(x, v)]).map keyE := by
  unfold putK
  rw [any_keyE, decide_eq_false h, if_neg Bool.false_ne_true, List.map_append]
  rfl
/-- what has been met, each with the thing before it -/
structure Wy (ps : Ps) (z : Str) (G : Hp) (es : List (Str × V)) : Prop where
  nd : (es.map (·.1)).Nodup
  z0 : z ∈ es.map (·.1)
  rc : ∀ x ∈ es.map (·.1), Rch ps z x
  nm : ∀ x ∈ es.map (·.1), x ∈ ps.map (·.1)
  tr : ∀ (i : Nat) (x : Str) (v : V), es[i]? = some (x, v) → v = .non ∨ ∃ (b : Addr) (y k : Str) (j : Nat) (u : V), v = .ref b ∧ G b = some (.tup [.str y, .str k]) ∧ j < i ∧ es[j]? = some (y, u)
section
variable {ps : Ps} {z : Str} {G G' : Hp} {es : List (Str × V)}
theorem Wy.kt (w : Wy ps z G es) (k : Kt G G') : Wy ps z G' es := ⟨w.nd, w.z0, w.rc, w.nm, fun i x v e => (w.tr i x v e).imp id fun ⟨b, y, q, j, u, h1, h2, h3⟩ => ⟨b, y, q, j, u, h1, k _ _ h2, h3⟩⟩
theorem Wy.len (w : Wy ps z G es) : es.length ≤ ps.length := by
  have := nodup_le w.nd w.nm
  rw [List.length_map, List.length_map] at this
  exact this
theorem Wy.snoc (w : Wy ps z G es) {x one k : Str} {b : Addr} (hx : x ∉ es.map (·.1)) (ho : one ∈ es.map (·.1)) (hb : G b = some (.tup [.str one, .str k])) (rx : Rch ps z x) (mx : x ∈ ps.map (·.1)) : Wy ps z G (es ++ [(x, .ref b)]) := by
  have mem : ∀ y, y ∈ (es ++ [(x, V.ref b)]).map (·.1) → y ∈ es.map (·.1) ∨ y = x := fun y hy => by
    rw [List.map_append, List.mem_append] at hy
    exact hy.imp id fun h => List.mem_singleton.mp h
  refine ⟨?_, ?_, fun y hy => ?_, fun y hy => ?_, fun i y v e => ?_⟩
  · rw [List.map_append, List.nodup_append]
    refine ⟨w.nd, by simp, fun a ha c hc e => hx ?_⟩
    have hc2 : c = x := List.mem_singleton.mp hc
    rw [← hc2, ← e]
    exact ha
  · rw [List.map_append]
    exact List.mem_append_left _ w.z0
  · rcases mem y hy with h | rfl
    · exact w.rc y h
    · exact rx
  · rcases mem y hy with h | rfl
    · exact w.nm y h
    · exact mx
  · by_cases c : i < es.length
    · rw [List.getElem?_append_left c] at e
      refine (w.tr i y v e).imp id fun ⟨b, y, q, j, u, h1, h2, h3, h4⟩ => ⟨b, y, q, j, u, h1, h2, h3, ?_⟩
      rw [List.getElem?_append_left (by omega)]
      exact h4
    · rw [List.getElem?_append_right (by omega)] at e
      have ei : i - es.length = 0 := by
        by_cases c2 : i - es.length = 0
        · exact c2
        · rw [List.getElem?_eq_none (by rw [List.length_singleton]; omega)] at e
          cases e
      rw [ei] at e
      have e' : (x, V.ref b) = (y, v) := Option.some.inj e
      cases e'
      obtain ⟨p, hp, rfl⟩ := List.mem_map.mp ho
      obtain ⟨j, hj, ej⟩ := List.mem_iff_getElem.mp hp
      refine .inr ⟨b, p.1, k, j, p.2, rfl, hb, by omega, ?_⟩
      rw [List.getElem?_append_left hj, List.getElem?_eq_getElem hj, ej]
end
def spFw : Sp := fun vs H Q _ => ∃ (t : Addr) (kvs : List (Key × V)) (ps : Ps) (z : Str), vs = [.ref t, .str z] ∧ H t = some (.dK kvs) ∧ PsR H kvs ps ∧ (ps.map (·.1)).Nodup ∧ z ∈ ps.map (·.1) ∧ Cls1 ps ∧ ps.length ≤ 60 ∧
  ∀ (p : Addr) (es : List (Str × V)) (H' : Hp), Same H H' → H p = none → H' p = some (.dK (es.map keyE)) → Wy ps z H' es → (∀ x, x ∈ es.map (·.1) ↔ Rch ps z x) → Q (.ref p) H'
def spWy : Sp := fun vs H Q _ => ∃ (t : Addr) (es : List (Str × V)) (ps : Ps) (z x : Str), vs = [.ref t, .str x] ∧ H t = some (.dK (es.map keyE)) ∧ Wy ps z H es ∧ x ∈ es.map (·.1) ∧ es.length ≤ 60 ∧ ∀ (p : Addr) (H' : Hp), Same H H' → Q (.ref p) H'
def spRs (CL C : Addr) : Sp := fun vs H Q _ => ∃ (a la t : Addr) (ms ks : List Str) (ps : Ps), vs = [.ref a] ∧ StoreAt CL C H a la t ms ks ps ∧ Q .non H
def spFs (CL C : Addr) : Sp := fun vs H Q _ => ∃ (a la t : Addr) (ms ks : List Str) (ps : Ps) (z y : Str), vs = [.ref a, .str z, .str y] ∧ StoreAt CL C H a la t ms ks ps ∧ (ps.map (·.1)).Nodup ∧ z ∈ ps.map (·.1) ∧ y ∈ ps.map (·.1) ∧ Cls1 ps ∧ ps.length ≤ 60 ∧
  ∀ (v : V) (b : Bool) (H' : Hp), Same H H' → (b = true ↔ Rch ps z y) → (decide (v = .non) = !b) → Q v H'
/-- the turns of first_ways -/
def FwJ (ps : Ps) (z : Str) (t pd : Addr) (H : Hp) (m : Nat) (σ : L2.St) (G : Hp) : Prop := ∃ (es : List (Str × V)) (ls : List Str) (pl : Addr) (o4 o5 o6 o7 : Option V), m = 2 * (ps.length - es.length) + (if ls = [] then 0 else 1) ∧ σ = [some (.ref t), some (.str z), some (.ref pd), some (.ref pl), o4, o5, o6, o7] ∧ Same H G ∧ G pd = some (.dK (es.map keyE)) ∧ G pl = some (.lst (ls.map V.str)) ∧ Wy ps z G es ∧ (∀ x ∈ ls, x ∈ es.map (·.1)) ∧ ∀ x ∈ es.map (·.1), x ∉ ls → ∀ l ∈ (getP ps x).2.items, l.2 ∈ es.map (·.1)
section
variable {P : Program} {w : World} {K : PySem.W.Frag} {mg : Str → Option Value} {base : Heap}
theorem ok_rs {f CL CS C : Addr} {fd : FuncData} {k : Nat} (F : Fun K "require_store" "require_store" sRs f fd) (L : SCls K C) (I : SIs K CS C) (gS : mg "Store" = some (.ref CS)) (mI : mg "isinstance" = none) : FnOk P w K mg base CX0 (k + 1) f fd ["store"] (spRs CL C) := by
  refine F.ok scRs (fun vs H Q E h => ?_) (fun cdv A outer s H vs Q E hr h => ?_)
  · obtain ⟨a, la, t, ms, ks, ps, rfl, _⟩ := h
    rfl
  · obtain ⟨a, la, t, ms, ks, ps, rfl, ⟨dx, fs, kvs, h1, _⟩, q⟩ := h
    exact ⟨_, pss_one (ps_if (pt_not (pt_val (pe_callB call_isi (by rfl) mI (by decide +kernel) (pa_cons (pv 0) (pa_cons (pe_glob (v := .ref CS) rfl gS rfl) pa_nil))))) (pss_one ps_off) pss_nil),
      .ref a, rfl, .ref a, .ref CS, .ref C, .ref CS, true, rfl, .own CS, .base (.ins h1 L.cl I.ha I.hn I.ht I.hm), I.me, true, rfl, iteF q⟩
theorem ok_fw {f : Addr} {fd : FuncData} {k : Nat} (F : Fun K "first_ways" "first_ways" sFw f fd) : FnOk P w K mg base CX0 (k + 1) f fd ["things", "thing"] spFw := by
  refine F.ok scFw (fun vs H Q E h => ?_) (fun cdv A outer s H vs Q E hr h => ?_)
  · obtain ⟨t, kvs, ps, z, rfl, _⟩ := h
    rfl
  · obtain ⟨t, kvs, ps, z, rfl, ht, hps, nd, mz, cl1, lp, q⟩ := h
    have hu64 : (A.deeper (envOfC "first_ways" (defScope sFw) s.heap.objs.size f cdv)).units + 64 < cLine := by have := hr.un; omega
    have hu : (A.deeper (envOfC "first_ways" (defScope sFw) s.heap.objs.size f cdv)).units + 1 < cLine := by omega
    refine ⟨_, pss_cons (ps_par (i := 2) (j := 3) (by rfl) scFw.nd rfl rfl (by decide) rfl rfl (pa_cons (pe_disp (pps_cons (pv 1) pe_non pps_nil) (by rfl) (by rfl) (fun z => by cases z) (by decide)) (pa_cons (pe_lst (pa_cons (pv 1) pa_nil)) pa_nil)) (by rfl))
      (pss_cons (ps_while PassesOwn.never (pt_cmpR (op_neP hu64) (pv 3) (pe_lst pa_nil) (nomark _))
        (pss_cons (ps_set (i := 4) scFw.nd rfl (.inl rfl) (pe_lst pa_nil))
        (pss_cons (ps_for PassesOwn.never rfl (pi_list (pv 3)) (pg_name (i := 5) scFw.nd rfl (.inl rfl))
          (pss_one (ps_for PassesOwn.never rfl (pi_tup (pe_ix ix_tup (pe_dget hu (pv 0) (pv 5) (fun _ _ => rfl)) pe_int (fun _ _ => rfl))) (pg_tup (by rfl) (pgs_cons (pg_name (i := 6) scFw.nd rfl (.inl rfl)) (pgs_cons (pg_name (i := 7) scFw.nd rfl (.inl rfl)) pgs_nil)))
            (pss_one (ps_if (pt_cmp (pc_dnotin hu (pv 7) (pv 2)) (by rfl)) (pss_cons (ps_dput hu (pv 2) (pv 7) (pe_tup (pa_cons (pv 5) (pa_cons (pv 6) pa_nil))) rfl) (pss_one (ps_expr (pe_bm PySem.F.plainAttrs_list PySem.F.slot_list_append PySem.F.type_list_append mt_append (pv 4) (pa_cons (pv 7) pa_nil))))) pss_nil)))))
        (pss_one (ps_set (i := 3) scFw.nd rfl (.inl rfl) (pv 4))))))
      (pss_one (ps_ret (pv 2)))), ?_⟩
    intro pd npd
    have e1 : (upd H pd (.dK [])) pd = some (.dK []) := upd_same
    have s1 : Same H (upd H pd (.dK [])) := same_new npd
    generalize upd H pd (.dK []) = H1 at *
    refine ⟨.str z, rfl, e1, [(Sum.inr z, .non)], rfl, by show 1 ≤ 15; decide, ?_⟩
    have em : mergeK [] [((Sum.inr z : Key), V.non)] = [(z, V.non)].map keyE := rfl
    rw [em]
    have s2 : Same H (upd H1 pd (.dK ([(z, V.non)].map keyE))) := s1.mut npd
    have e2 : (upd H1 pd (.dK ([(z, V.non)].map keyE))) pd = some (.dK ([(z, V.non)].map keyE)) := upd_same
    generalize upd H1 pd (.dK ([(z, V.non)].map keyE)) = H2 at s2 e2 ⊢
    refine ⟨.str z, rfl, by show 1 ≤ sizeLine; decide, fun pl npl => ?_⟩
    have e3 : (upd H2 pl (.lst [.str z])) pl = some (.lst [.str z]) := upd_same
    have s3 : Same H2 (upd H2 pl (.lst [.str z])) := same_new npl
    generalize upd H2 pl (.lst [.str z]) = H3 at *
    refine ⟨_, _, rfl, ?_⟩
    have w0 : Wy ps z H3 [(z, .non)] := ⟨by simp, List.mem_singleton.mpr rfl, fun x hx => by rw [List.mem_singleton.mp hx]; exact .here, fun x hx => by rw [List.mem_singleton.mp hx]; exact mz, fun i x v e => by
      cases i with
      | zero => cases (Option.some.inj e); exact .inl rfl
      | succ i => cases e⟩
    refine ⟨FwJ ps z t pd H, ⟨_, [(z, .non)], [z], pl, none, none, none, none, rfl, rfl, s2.trans s3, s3 _ _ e2, e3, w0, fun x hx => hx, fun x hx h => absurd hx h⟩, ?_⟩
    rintro m σ G ⟨es, ls, pl, o4, o5, o6, o7, rfl, rfl, kp, gd, gl, wy, li, cl⟩
    refine ⟨.ref pl, rfl, cmp_nil true (lst_of gl) (pd_strs _) fun G0 s0 => ⟨_, rfl, ?_⟩⟩
    have kp0 := kp.trans s0
    have gd0 := s0 _ _ gd
    have gl0 := s0 _ _ gl
    have wy0 := wy.kt s0.kq.kt
    by_cases c : ls = []
    · subst c
      refine iteF ⟨.ref pd, rfl, q pd es G0 kp0 npd gd0 wy0 fun x => ⟨wy0.rc x, fun h => ?_⟩⟩
      induction h with
      | here => exact wy0.z0
      | next _ hl ih => exact cl _ ih (fun h => nomatch h) _ hl
    have ce : (ls.map V.str).isEmpty = false := by
      cases ls with
      | nil => exact absurd rfl c
      | cons _ _ => rfl
    rw [if_pos rfl, ce]
    refine iteT ⟨fun σ' G' => ∃ m', m' < 2 * (ps.length - es.length) + (if ls = [] then 0 else 1) ∧ FwJ ps z t pd H m' σ' G', fun σ' G' h => h, ?_⟩
    rw [if_neg c]
    refine ⟨Nat.zero_le _, fun pw npw => ?_⟩
    have nwH : H pw = none := kp0.free npw
    have ndw : pd ≠ pw := ne_of_none gd0 npw
    have nlw : pl ≠ pw := ne_of_none gl0 npw
    have ndl : pd ≠ pl := ne_of gd0 gl0 (fun z => nomatch z)
    have e1' : (upd G0 pw (.lst [])) pw = some (.lst []) := upd_same
    have s1' : Same G0 (upd G0 pw (.lst [])) := same_new npw
    generalize upd G0 pw (.lst []) = G1 at *
    refine ⟨.ref pl, rfl, pl, rfl, ⟨_, lst_of (s1' _ _ gl0)⟩, for_it (by have := walk_list (K := K) (a := pl) (xs := ls.map V.str); rw [List.length_map] at this; exact this) (fun i σ G => ∃ (more : List (Str × V)) (o5 o6 o7 : Option V), σ = [some (.ref t), some (.str z), some (.ref pd), some (.ref pl), some (.ref pw), o5, o6, o7] ∧ Same H G ∧ G pl = some (.lst (ls.map V.str)) ∧ G pd = some (.dK ((es ++ more).map keyE)) ∧ G pw = some (.lst ((more.map (·.1)).map V.str)) ∧ Wy ps z G (es ++ more) ∧ ∀ x ∈ ls.take i, ∀ l ∈ (getP ps x).2.items, l.2 ∈ (es ++ more).map (·.1))
      ⟨[], _, _, _, rfl, kp0.trans s1', s1' _ _ gl0, by rw [List.append_nil]; exact s1' _ _ gd0, e1', by rw [List.append_nil]; exact wy0.kt s1'.kq.kt, fun x hx => nomatch hx⟩ (fun i σ G _ ⟨_, _, _, _, _, _, g, _⟩ => lst_of g) ?_ ?_⟩
    · rintro i x σ G2 G3 hi ⟨more, p5, p6, p7, rfl, k', g', d', w', wy', c'⟩ ⟨rfl, ex⟩
      rw [List.getElem?_map, List.getElem?_eq_getElem hi] at ex
      have ex' : V.str ls[i] = x := Option.some.inj ex
      subst ex'
      have mo : ls[i] ∈ es.map (·.1) := li _ (List.getElem_mem hi)
      have tkO : ls.take (i + 1) = ls.take i ++ [ls[i]] := by rw [List.take_add_one, List.getElem?_eq_getElem hi]; rfl
      generalize ls[i] = one at mo tkO ⊢
      have mx : one ∈ ps.map (·.1) := wy0.nm _ mo
      obtain ⟨v, hv, tv, mv⟩ := hps.get nd mx
      obtain ⟨b, u1, u2, rfl, hb, t1, t2⟩ := tv.pair
      obtain ⟨al, vl, rfl, hal, tl⟩ := t2.tup
      obtain ⟨zl, rfl, el, tz⟩ := Tts.refs tl
      refine ⟨.ref t, rfl, .str one, rfl, t, .ref b, rfl, .inl ⟨kvs, Sum.inr one, .inl (k' _ _ ht), rfl, by rw [hv]⟩, b, _, 1, .ref al, rfl, rfl, tup_of (k' _ _ hb), rfl, al, rfl, ⟨_, tup_of (k' _ _ hal)⟩, ?_⟩
      refine for_it (walk_tup (xs := zl.map fun z => V.ref z.1)) (fun j σ G => ∃ (more : List (Str × V)) (o6 o7 : Option V), σ = [some (.ref t), some (.str z), some (.ref pd), some (.ref pl), some (.ref pw), some (.str one), o6, o7] ∧ Same H G ∧ G pl = some (.lst (ls.map V.str)) ∧ G pd = some (.dK ((es ++ more).map keyE)) ∧ G pw = some (.lst ((more.map (·.1)).map V.str)) ∧ Wy ps z G (es ++ more) ∧ (∀ x ∈ ls.take i, ∀ l ∈ (getP ps x).2.items, l.2 ∈ (es ++ more).map (·.1)) ∧ ∀ e ∈ (zl.take j).map (·.2), e.2 ∈ (es ++ more).map (·.1))
        ⟨more, _, _, rfl, k', g', d', w', wy', c', fun e he => nomatch he⟩ (fun i σ G _ ⟨_, _, _, _, k', _⟩ => tup_of (k' _ _ hal)) ?_ ?_
      · rintro j x σ G4 G5 hj ⟨more, p6, p7, rfl, k', g', d', w', wy', c', cj⟩ ⟨rfl, ex⟩
        rw [List.length_map] at hj
        rw [List.getElem?_map, List.getElem?_eq_getElem hj] at ex
        have ex' : V.ref zl[j].1 = x := Option.some.inj ex
        subst ex'
        have me : zl[j] ∈ zl := List.getElem_mem hj
        have tk : zl.take (j + 1) = zl.take j ++ [zl[j]] := by rw [List.take_add_one, List.getElem?_eq_getElem hj]; rfl
        generalize zl[j] = e at me tk ⊢
        have mel : e.2 ∈ (getP ps one).2.items := by rw [el]; exact List.mem_map.mpr ⟨e, me, rfl⟩
        obtain ⟨cc, x1, x2, ec, hc, y1, y2⟩ := (tz e me).pair
        have ec' : e.1 = cc := by injection ec
        subst ec'
        rw [y1.str, y2.str] at hc
        refine ⟨e.1, _, rfl, tup_of (k' _ _ hc), rfl, _, _, rfl, _, _, rfl, rfl, ?_⟩
        refine ⟨.str e.2.2, rfl, .ref pd, rfl, pd, _, rfl, .inl ⟨_, Sum.inr e.2.2, .inl d', rfl, rfl⟩, _, rfl, ?_⟩
        rw [some_keyE]
        by_cases h : e.2.2 ∈ (es ++ more).map (·.1)
        · rw [decide_eq_true h]
          refine iteF ⟨more, _, _, rfl, k', g', d', w', wy', c', fun e' he' => ?_⟩
          rw [tk, List.map_append, List.mem_append] at he'
          rcases he' with he' | he'
          · exact cj e' he'
          · rw [List.mem_singleton.mp he']
            exact h
        · rw [decide_eq_false h]
          refine iteT ?_
          have lm := wy'.len
          refine ⟨.str one, rfl, .str e.2.1, rfl, by show 2 ≤ sizeLine; decide, fun pb nb => ?_⟩
          have e6 : (upd G5 pb (.tup [.str one, .str e.2.1])) pb = some (.tup [.str one, .str e.2.1]) := upd_same
          have s6 : Same G5 (upd G5 pb (.tup [.str one, .str e.2.1])) := same_new nb
          generalize upd G5 pb (.tup [.str one, .str e.2.1]) = G6 at *
          have d6 := s6 _ _ d'
          have w6 := s6 _ _ w'
          have g6 := s6 _ _ g'
          refine ⟨.ref pd, rfl, .str e.2.2, rfl, pd, _, rfl, DPut.k (k := Sum.inr e.2.2) d6 (by rw [List.length_map]; exact small1000 (by omega)), ?_⟩
          rw [put_keyE _ h]
          refine ⟨.ref pw, rfl, .inl ⟨rfl, _, lst_of (by rw [upd_ne ndw.symm]; exact w6)⟩, .str e.2.2, rfl, pw, _, _, rfl, rfl, by rw [upd_ne ndw.symm]; exact w6, by rw [List.length_map, List.length_map]; rw [List.length_append] at lm; exact small1000 (by omega), ?_⟩
          have rx : Rch ps z e.2.2 := .next (k := e.2.1) (wy0.rc _ mo) mel
          have mx2 : e.2.2 ∈ ps.map (·.1) := cl1 _ mv e.2 mel
          have kt6 : Kt G6 (upd (upd G6 pd (.dK ((es ++ more ++ [(e.2.2, V.ref pb)]).map keyE))) pw (.lst ((more.map (·.1)).map V.str ++ [.str e.2.2]))) := fun b' xs e' => by
            rw [upd_ne (ne_of e' w6 (fun z => nomatch z)), upd_ne (ne_of e' d6 (fun z => nomatch z))]
            exact e'
          have wyN : Wy ps z G6 ((es ++ more) ++ [(e.2.2, V.ref pb)]) := (wy'.kt s6.kq.kt).snoc h (by rw [List.map_append]; exact List.mem_append_left _ mo) e6 rx mx2
          have sub : ∀ y, y ∈ (es ++ more).map (·.1) → y ∈ (es ++ (more ++ [(e.2.2, V.ref pb)])).map (·.1) := fun y hy => by
            rw [← List.append_assoc, List.map_append]
            exact List.mem_append_left _ hy
          refine ⟨more ++ [(e.2.2, .ref pb)], _, _, rfl, ((k'.trans s6).mut npd).mut nwH, by rw [upd_ne nlw, upd_ne ndl.symm]; exact g6, by rw [upd_ne ndw, upd_same, List.append_assoc], by rw [upd_same, List.map_append, List.map_append]; rfl, by rw [← List.append_assoc]; exact wyN.kt kt6, fun x hx l hl => sub _ (c' x hx l hl), fun e' he' => ?_⟩
          rw [tk, List.map_append, List.mem_append] at he'
          rcases he' with he' | he'
          · exact sub _ (cj e' he')
          · rw [List.mem_singleton.mp he', ← List.append_assoc, List.map_append]
            exact List.mem_append_right _ (List.mem_singleton.mpr rfl)
      · rintro σ G4 ⟨more, p6, p7, rfl, k', g', d', w', wy', c', cj⟩
        rw [List.length_map, List.take_length] at cj
        refine ⟨more, _, _, _, rfl, k', g', d', w', wy', fun x hx l hl => ?_⟩
        rw [tkO, List.mem_append] at hx
        rcases hx with hx | hx
        · exact c' x hx l hl
        · rw [List.mem_singleton.mp hx, el] at hl
          exact cj l hl
    rintro σ G2 ⟨more, p5, p6, p7, rfl, k', g', d', w', wy', c'⟩
    rw [List.take_length] at c'
    have lm := wy'.len
    rw [List.length_append] at lm
    refine ⟨.ref pw, rfl, _, ?_, es ++ more, more.map (·.1), pw, _, _, _, _, rfl, rfl, k', d', w', wy', fun x hx => ?_, fun x hx hn => ?_⟩
    · rw [List.length_append]
      cases more with
      | nil =>
        rw [List.map_nil, if_pos rfl, List.length_nil]
        omega
      | cons a r =>
        rw [List.length_cons] at lm ⊢
        have h1 : (if List.map (fun x : Str × V => x.1) (a :: r) = [] then 0 else 1) ≤ 1 := by split <;> omega
        omega
    · rw [List.map_append]
      exact List.mem_append_right _ hx
    · rw [List.map_append, List.mem_append] at hx
      rcases hx with hx | hx
      · by_cases h : x ∈ ls
        · exact c' x h
        · intro l hl
          rw [List.map_append]
          exact List.mem_append_left _ (cl x hx h l hl)
      · exact absurd hx hn
theorem ok_wy {f : Addr} {fd : FuncData} {k : Nat} (F : Fun K "way_to" "way_to" sWy f fd) (mT : mg "tuple" = none) : FnOk P w K mg base CX0 (k + 1) f fd ["links", "last"] spWy := by
  refine F.ok scWy (fun vs H Q E h => ?_) (fun cdv A outer s H vs Q E hr h => ?_)
  · obtain ⟨t, es, ps, z, x, rfl, _⟩ := h
    rfl
  · obtain ⟨t, es, ps, z, x0, rfl, ht, wy, mx, le, q⟩ := h
    have hu : (A.deeper (envOfC "way_to" (defScope sWy) s.heap.objs.size f cdv)).units + 1 < cLine := by have := hr.un; omega
    refine ⟨_, pss_cons (ps_par (i := 2) (j := 3) (by rfl) scWy.nd rfl rfl (by decide) rfl rfl (pa_cons (pe_lst pa_nil) (pa_cons (pv 1) pa_nil)) (by rfl))
      (pss_cons (ps_while PassesOwn.never (pt_cmp (pc_notN (pe_dget hu (pv 0) (pv 3) (fun _ _ => rfl))) (by rfl))
        (pss_cons (ps_asg (pe_dget hu (pv 0) (pv 3) (fun _ _ => rfl)) (pg_tup (by rfl) (pgs_cons (pg_name (i := 4) scWy.nd rfl (.inl rfl)) (pgs_cons (pg_name (i := 5) scWy.nd rfl (.inl rfl)) pgs_nil))))
        (pss_cons (ps_expr (pe_bm PySem.F.plainAttrs_list PySem.F.slot_list_append PySem.F.type_list_append mt_append (pv 2) (pa_cons (pe_tup (pa_cons (pv 5) (pa_cons (pv 3) pa_nil))) pa_nil)))
        (pss_one (ps_set (i := 3) scWy.nd rfl (.inl rfl) (pv 4))))))
      (pss_one (ps_ret (pe_callTy call_tuple_of (by rfl) mT (by decide +kernel) (pa_cons (pe_revL (pv 2)) pa_nil))))), ?_⟩
    obtain ⟨p0, hp0, ex0⟩ := List.mem_map.mp mx
    obtain ⟨i0, hi0, ei0⟩ := List.mem_iff_getElem.mp hp0
    refine ⟨Nat.zero_le _, fun pf nf => ?_⟩
    have e1 : (upd H pf (.lst [])) pf = some (.lst []) := upd_same
    have s1 : Same H (upd H pf (.lst [])) := same_new nf
    generalize upd H pf (.lst []) = H1 at *
    refine ⟨.str x0, rfl, _, _, rfl, ?_⟩
    refine ⟨fun m σ G => ∃ (x : Str) (v : V) (fd : List V) (o4 o5 : Option V), es[m]? = some (x, v) ∧ σ = [some (.ref t), some (.str x0), some (.ref pf), some (.str x), o4, o5] ∧ Same H G ∧ G pf = some (.lst fd) ∧ fd.length + m ≤ 60, ⟨i0, x0, p0.2, [], none, none, by rw [List.getElem?_eq_getElem hi0, ei0, ← ex0], rfl, s1, e1, by show 0 + i0 ≤ 60; omega⟩, ?_⟩
    rintro m σ G ⟨x, v, fd, o4, o5, ex, rfl, kp, gf, lf⟩
    have hv := val_keyE wy.nd (List.mem_of_getElem? ex)
    refine ⟨.ref t, rfl, .str x, rfl, t, v, rfl, .inl ⟨_, Sum.inr x, .inl (kp _ _ ht), rfl, by rw [hv]⟩, _, rfl, ?_⟩
    rcases wy.tr _ _ _ ex with rfl | ⟨b, y, k', j, u, rfl, hb, lj, ej⟩
    · rw [decide_eq_true rfl]
      refine iteF ?_
      refine ⟨.ref pf, rfl, pf, _, rfl, lst_of gf, fun p1 n1 => ?_⟩
      have e1' : (upd G p1 (.lst fd.reverse)) p1 = some (.lst fd.reverse) := upd_same
      have s1' : Same G (upd G p1 (.lst fd.reverse)) := same_new n1
      generalize upd G p1 (.lst fd.reverse) = G1 at *
      refine ⟨p1, _, rfl, .inl ⟨lst_of e1', fun p2 n2 => ?_⟩⟩
      have e2 : (upd G1 p2 (.tup fd.reverse)) p2 = some (.tup fd.reverse) := upd_same
      have s2 : Same G1 (upd G1 p2 (.tup fd.reverse)) := same_new n2
      generalize upd G1 p2 (.tup fd.reverse) = G2 at *
      exact q p2 G2 (kp.trans (s1'.trans s2))
    · rw [decide_eq_false (fun h => by cases h)]
      refine iteT ⟨fun σ' G' => ∃ (x : Str) (v : V) (fd : List V) (o4 o5 : Option V), es[j]? = some (x, v) ∧ σ' = [some (.ref t), some (.str x0), some (.ref pf), some (.str x), o4, o5] ∧ Same H G' ∧ G' pf = some (.lst fd) ∧ fd.length + j ≤ 60, fun σ' G' h => ⟨j, lj, h⟩, ?_⟩
      refine ⟨.ref t, rfl, .str x, rfl, t, .ref b, rfl, .inl ⟨_, Sum.inr x, .inl (kp _ _ ht), rfl, by rw [hv]⟩, b, _, rfl, tup_of (kp _ _ hb), rfl, _, _, rfl, _, _, rfl, rfl, ?_⟩
      refine ⟨.ref pf, rfl, .inl ⟨rfl, _, lst_of gf⟩, .str k', rfl, .str x, rfl, by show 2 ≤ sizeLine; decide, fun p1 n1 => ?_⟩
      have e1' : (upd G p1 (.tup [.str k', .str x])) p1 = some (.tup [.str k', .str x]) := upd_same
      have s1' : Same G (upd G p1 (.tup [.str k', .str x])) := same_new n1
      generalize upd G p1 (.tup [.str k', .str x]) = G1 at *
      refine ⟨pf, _, _, rfl, rfl, s1' _ _ gf, small1000 (by omega), ?_⟩
      exact ⟨.str y, rfl, y, u, _, _, _, ej, rfl, (kp.trans s1').mut nf, upd_same, by rw [List.length_append, List.length_singleton]; omega⟩
theorem ok_fs {f CL C : Addr} {fd : FuncData} {k : Nat} (F : Fun K "first_way" "first_way" sFs f fd) (L : SCls K C) (PT : PpN P w K mg base k C "things" (spSth CL C)) (GS : CdN P w K mg base k "require_store" ["store"] (spRs CL C)) (GT : CdN P w K mg base k "require_thing" ["store", "thing"] (spRt CL C)) (GF : CdN P w K mg base k "first_ways" ["things", "thing"] spFw) (GW : CdN P w K mg base k "way_to" ["links", "last"] spWy) : FnOk P w K mg base CX0 (k + 2) f fd ["store", "thing", "other"] (spFs CL C) := by
  refine F.ok scFs (fun vs H Q E h => ?_) (fun cdv A outer s H vs Q E hr h => ?_)
  · obtain ⟨a, la, t, ms, ks, ps, z, y, rfl, _⟩ := h
    rfl
  · obtain ⟨a, la, t, ms, ks, ps, z, y, rfl, st, nd, mz, my, cl1, lp, q⟩ := h
    have hu : (A.deeper (envOfC "first_way" (defScope sFs) s.heap.objs.size f cdv)).units + 1 < cLine := by have := hr.un; omega
    have hrn : Room k (A.deeper (envOfC "first_way" (defScope sFs) s.heap.objs.size f cdv)) := hr.mono (by omega)
    refine ⟨_, pss_cons (ps_expr (pe_cdn GS hrn (pa_cons (pv 0) pa_nil)))
      (pss_cons (ps_expr (pe_cdn GT hrn (pa_cons (pv 0) (pa_cons (pv 1) pa_nil))))
      (pss_cons (ps_expr (pe_cdn GT hrn (pa_cons (pv 0) (pa_cons (pv 2) pa_nil))))
      (pss_cons (ps_set (i := 3) scFs.nd rfl (.inl rfl) (pe_cdn GF hrn (pa_cons (pe_ppn L.cl PT hr (pv 0)) (pa_cons (pv 1) pa_nil))))
      (pss_one (ps_ret (pe_ifExp (pt_cmp (pc_din hu (pv 2) (pv 3)) (by rfl)) (pe_cdn GW hrn (pa_cons (pv 3) (pa_cons (pv 2) pa_nil))) pe_non)))))), ?_⟩
    obtain ⟨dx, fs, uvs, h1, h2, h3, h4, h5, h6, h7⟩ := id st
    refine ⟨.ref a, rfl, a, la, t, ms, ks, ps, rfl, st, ?_⟩
    refine ⟨.ref a, rfl, .str z, rfl, a, la, t, ms, ks, ps, z, rfl, st, mz, ?_⟩
    refine ⟨.ref a, rfl, .str y, rfl, a, la, t, ms, ks, ps, y, rfl, st, my, ?_⟩
    refine ⟨.ref a, rfl, a, dx, fs, rfl, h1, a, la, t, ms, ks, ps, rfl, st, fun p1 kvs H1 s1 n1 e1 r1 => ?_⟩
    refine ⟨.str z, rfl, p1, kvs, ps, z, rfl, e1, r1, nd, mz, cl1, lp, fun p2 es H2 s2 n2 e2 wy hm => ?_⟩
    have le := wy.len
    refine ⟨.str y, rfl, .ref p2, rfl, p2, _, rfl, .inl ⟨_, Sum.inr y, .inl e2, rfl, rfl⟩, _, rfl, ?_⟩
    rw [some_keyE]
    by_cases h : y ∈ es.map (·.1)
    · rw [decide_eq_true h]
      refine iteT ⟨.ref p2, rfl, .str y, rfl, p2, es, ps, z, y, rfl, e2, wy, h, by omega, fun p3 H3 s3 => ?_⟩
      exact q (.ref p3) true H3 (s1.trans (s2.trans s3)) ⟨fun _ => (hm y).mp h, fun _ => rfl⟩ (decide_eq_false fun h => by cases h)
    · rw [decide_eq_false h]
      exact iteF (q .non false H2 (s1.trans s2) ⟨(fun h => nomatch h), fun r => absurd ((hm y).mpr r) h⟩ (decide_eq_true rfl))
end
end Tf

/-! enumerate(t), t a tuple -/
namespace L2
open PySem PySem.Spec PyProof.Rows
open Sem (wp)
theorem meets_enum1 {v : Value} {o : Obj} {H : Heap → Prop} (B : Begins v o H) :
    Meets (Builtin.«enumerate.__new__» ⟨[.type "enumerate", v], []⟩) (fun _ R s => H s.heap ∧
      R (.ok (.ret (.ref (s.heap.push o).objs.size))) { s with heap := (s.heap.push o).push { cls := .type "enumerate", data := .fields #[.none, .bool false, .ref s.heap.objs.size, rawInt 0, .none, .none] } }) :=
  .of_wp fun prog w A R s h => by
    obtain ⟨hp, g, d, tk, os⟩ := s; obtain ⟨h1, h⟩ := h
    have hsub := sub_enumerate
    have q1 : ∀ {A' : Around} {E : Value → Shared → Prop} {Q : Value → Shared → Prop}, Q (.ref hp.objs.size) ⟨hp.push o, g, d, tk, os⟩ → wpAny (model prog w) A' (pyIter v) Q E ⟨hp, g, d, tk, os⟩ :=
      fun q => B.iter prog w _ _ ⟨hp, g, d, tk, os⟩ _ h1 q
    wp_walk using q1
    refine wpAny_stack_any fun st => wpAny_pure ?_
    split
    · rename_i c _ _ _ _ _
      cases (c == Value.type "enumerate")
      · wp_walk using q1
        exact ⟨_, rfl, h⟩
      · wp_walk using q1
        exact ⟨_, rfl, h⟩
    · wp_walk using q1
      exact ⟨_, rfl, h⟩
theorem enum_begins1 {prog : Program} {w : World} {A : Around} {E : Value → Shared → Prop} {s : Shared} {v : Value} {o : Obj} {H : Heap → Prop} {Q : Value → Shared → Prop} (B : Begins v o H) (h1 : H s.heap)
    (h : ∀ h', IsEnum h' (s.heap.objs.size + 1) s.heap.objs.size 0 .none → h'.get? s.heap.objs.size = some o → h'.objs.size = s.heap.objs.size + 2 →
      (∀ b o, s.heap.get? b = some o → h'.get? b = some o) → Q (.ref (s.heap.objs.size + 1)) { s with heap := h' }) :
    wpAny (model prog w) A (call (.type "enumerate") [v]) Q E s := by
  refine callType_new F.called_enumerate (by decide) (F.typeCall_enumerate_1 _) (F.newCall_enumerate_1 _) (fun obj => F.args_object_init_2 obj _) F.entry_enumerate_new
    (meets_enum1 B) ⟨h1, ?_⟩
  have hz : (s.heap.push o).objs.size = s.heap.objs.size + 1 := Heap.size_push ..
  show _ ∧ _
  rw [hz]
  have he : IsEnum ((s.heap.push o).push { cls := .type "enumerate", data := .fields #[.none, .bool false, .ref s.heap.objs.size, rawInt 0, .none, .none] }) (s.heap.objs.size + 1) s.heap.objs.size 0 .none := by
    have := Heap.get?_push_size (s.heap.push o) (o := { cls := .type "enumerate", data := .fields #[.none, .bool false, .ref s.heap.objs.size, rawInt 0, .none, .none] }) rfl
    rw [hz] at this; exact this
  refine ⟨⟨_, he, rfl⟩, h _ he (Heap.get?_push_of_some _ (Heap.get?_push_size _ B.free)) (by rw [Heap.size_push, hz]) fun b o x => Heap.get?_push_of_some _ (Heap.get?_push_of_some _ x)⟩
/-- the tuple at a, each item in a new pair -/
def ItT (K : PySem.W.Frag) (a : Addr) : It :=
  ⟨fun i H => ∃ (xs : List V) (x : V), SqT K H a xs ∧ xs[i]? = some x, fun i H v H' => ∃ T x, v = .ref T ∧ H T = none ∧ H' = upd H T (.tup [.int (i : Nat), x]) ∧ ∀ xs, SqT K H a xs → xs[i]? = some x, fun i H => ∃ xs : List V, SqT K H a xs ∧ xs.length = i⟩
theorem turn_enumT {P : Program} {w : World} {K : PySem.W.Frag} {elts : List Expr} {kk : Nat} {tpos : Pos} (a e it : Addr) :
    Turn P w K (.Tuple elts kk tpos) (ItT K a) [e, it] e (fun i h => (∃ old, IsEnum h e it ((i : Nat) : Int) old) ∧ h.IsTupleIter it a i ∧ e ≠ it) where
  mem := by simp
  obj := fun i h st b hb => by
    obtain ⟨⟨old, he⟩, ⟨o, ho, hc, hd⟩, _⟩ := st
    have e' : b = e ∨ b = it := by simpa using hb
    rcases e' with z | z
    · rw [z]; exact ⟨_, he, fun v q => nomatch q⟩
    · rw [z]; exact ⟨o, ho, fun v q => by rw [hd] at q; cases q⟩
  keep := fun i h h' st k => let ⟨⟨old, he⟩, hi, hne⟩ := st; ⟨⟨old, k e (by simp) _ he⟩, hi.at fun o q => k it (by simp) o q, hne⟩
  item := by
    intro X hP hw hK hc i pins s σ H E I hf st hg
    subst hP hw hK
    obtain ⟨⟨old, he⟩, hit, hne⟩ := st
    obtain ⟨xs, x, hq, hx⟩ := hg
    obtain ⟨its, rv, p, hz⟩ := I.tuple hq
    obtain ⟨u, hu, ru⟩ := rv.get hx
    have hel : e < s.heap.objs.size := Heap.lt_size he
    have hil : it < s.heap.objs.size := by obtain ⟨_, q, _⟩ := hit; exact Heap.lt_size q
    have pa : s.heap.IsTuple a its.toArray := p
    have hae : a ≠ e := fun z => by
      obtain ⟨o, ho, hcl, _⟩ := pa
      rw [z] at ho
      have q := he.symm.trans ho
      cases q
      exact absurd (show Value.type "enumerate" = Value.type "tuple" from hcl) (by decide)
    have hai : a ≠ it := fun z => by
      obtain ⟨o, ho, hcl, _⟩ := pa
      obtain ⟨o2, ho2, hc2, _⟩ := hit
      rw [z] at ho
      have q := ho.symm.trans ho2
      cases q
      rw [hcl] at hc2
      exact absurd hc2 (by decide)
    have hlt : i < its.toArray.size := by
      have := (List.getElem?_eq_some_iff.mp hu).1
      simpa using this
    refine wpAny_pyNext_enum_itemD (Draws.tuple (A := X.A.in1) (I.ok.hd hc) it a hai its.toArray) he ⟨hit, pa⟩ hlt hne (by simp [hne, Ne.symm hae]) fun x' h' tk hP ho st' hT hsz hk => ?_
    have eu : x' = u := by
      have q : its.toArray[i]? = some u := by simpa using hu
      rw [q] at hP
      exact (Option.some.inj hP).symm
    subst eu
    refine ⟨_, rfl, wpAny_letOwnedTupleGo_enum (s := { s with heap := h', toks := tk + 1 }) ho fun h'' he' sb => ?_⟩
    have hT2 : h''.get? s.heap.objs.size = some { cls := .type "tuple", data := .seq #[.int i tk, x'] } := (sb.2 _ (Nat.ne_of_gt hel)).trans hT
    have new : ObjOk X.prog X.w (upd H s.heap.objs.size (.tup [.int (i : Nat), x])) h'' s.heap.objs.size (.tup [.int (i : Nat), x]) :=
      ⟨by show 2 ≤ sizeLine; decide, [.int i tk, x'], .cons ⟨_, rfl⟩ (.cons ru .nil), ⟨_, hT2, rfl, _, rfl⟩⟩
    have I1 : Inv X pins σ (upd H s.heap.objs.size (.tup [.int (i : Nat), x])) { s with heap := h'', toks := tk + 1 } :=
      I.turnedNew (ch := [e, it]) (fun b ob hb q => (sb.2 b (fun z => hb (by simp [z]))).trans (hk b ob (fun z => hb (by simp [z])) (fun z => hb (by simp [z])) q)) hf (Nat.le_refl _) new
    refine ⟨.ref s.heap.objs.size, _, I1, rfl, ⟨_, x, rfl, I.hok.fresh (Nat.le_refl _), rfl, fun ys hy => by rw [I.tuple_inj hy hq]; exact hx⟩, ⟨⟨x', ?_⟩, st'.1.at fun o q => (sb.2 it (Ne.symm hne)).trans q, hne⟩, fun b hb => ?_⟩
    · have e1 : ((i + 1 : Nat) : Int) = (i : Int) + 1 := by omega
      rw [e1]; exact he'
    · have hb' : b < s.heap.objs.size := by
        have e' : b = e ∨ b = it := by simpa using hb
        rcases e' with z | z
        · rw [z]; exact hel
        · rw [z]; exact hil
      rw [upd_ne (Nat.ne_of_lt hb')]
      exact (hf b hb).1
  done := by
    intro X hP hw hK hc i pins s σ H E I hf st hg
    subst hP hw hK
    obtain ⟨⟨old, he⟩, hit, hne⟩ := st
    obtain ⟨xs, hq, hx⟩ := hg
    obtain ⟨its, rv, p, hz⟩ := I.tuple hq
    obtain ⟨f0, f1, f2, f3, f4, f5⟩ := hf it (by simp)
    have hl := rv.length
    have pa : s.heap.IsTuple a its.toArray := p
    have hai : a ≠ it := fun z => by
      obtain ⟨o, ho, hcl, _⟩ := pa
      obtain ⟨o2, ho2, hc2, _⟩ := hit
      rw [z] at ho
      have q := ho.symm.trans ho2
      cases q
      rw [hcl] at hc2
      exact absurd hc2 (by decide)
    have en : i = its.toArray.size := by simp; omega
    exact wpAny_pyNext_enum_endD (Draws.tuple (A := X.A.in1) (I.ok.hd hc) it a hai its.toArray) he ⟨by rw [← en]; exact hit, pa⟩ fun h' eb => ⟨rfl, I.turned (t' := s.toks) (fun b o hb q => eb b o hb q) f0 f1 f3 f4 f5⟩
  self := fun A i s Q E st h => let ⟨⟨_, he⟩, _⟩ := st; wpAny_pyIter_enum he h
def iEnumT (K : PySem.W.Frag) (ta : TA) : TI := fun σ H R => ta σ H fun vs H1 => ∃ a xs, vs = [.ref a] ∧ SqT K H1 a xs ∧ R (ItT K a) H1
theorem pi_enumT {X : Cx} {e : Expr} {ta : TA} {p pos tpos : Pos} {elts : List Expr} {kk : Nat} (hg : Gl X "enumerate") (hm : X.mg "enumerate" = none) (ha : PA X [e] ta) (hs : starEach [e] X.env = [(false, eval e X.env)] := by rfl) :
    PI X (.Tuple elts kk tpos) (.Call (.Name "enumerate" p) [e] [] pos) (iEnumT X.K ta) := by
  refine ⟨fun pins s σ H R I h => ?_⟩
  refine Call_ (ld_blt I hg hm boot_enumerate (PyProof.Rows.callWith_type1 (thn (ha.run pos pins s σ H _ I h) fun us s1 ⟨vs, H1, I1, r1, q1⟩ => ?_) hs rfl))
  obtain ⟨a, xs, ex, hq, q⟩ := q1
  subst ex
  cases r1 with
  | cons r rr =>
    cases rr
    cases r
    obtain ⟨its, rv, p', hz⟩ := I1.tuple hq
    refine enum_begins1 (begins_tuple a its.toArray) (show s1.heap.IsTuple a its.toArray from p') fun h' he hit hsz hk => wpAny_pyIter_enum he ?_
    have I2 : Inv X pins σ H1 { s1 with heap := h' } := I1.kept (t' := s1.toks) hk
    refine ⟨s1.heap.objs.size + 1, [s1.heap.objs.size + 1, s1.heap.objs.size], _, _, H1, rfl, I2, turn_enumT a (s1.heap.objs.size + 1) s1.heap.objs.size, ⟨⟨.none, he⟩, ⟨_, hit, rfl, rfl⟩, Nat.succ_ne_self _⟩, fun b hb => ?_, q⟩
    have e' : b = s1.heap.objs.size + 1 ∨ b = s1.heap.objs.size := by simpa using hb
    have hle : s1.heap.objs.size ≤ b := by
      rcases e' with z | z
      · rw [z]; exact Nat.le_add_right _ _
      · rw [z]; exact Nat.le_refl _
    exact I1.fpOk hle (I1.hok.fresh hle)
theorem walk_enumT {K : PySem.W.Frag} {a : Addr} {xs : List V} : Walk (ItT K a) xs.length (fun H => H a = some (.tup xs)) (YPair (fun i => some (.int (i : Nat))) (fun i => xs[i]?)) := by
  refine ⟨fun i _ hi q => ⟨xs, xs[i], .inl (.inl q), by simp [hi]⟩, fun _ q => ⟨xs, .inl (.inl q), rfl⟩, fun i H v H' _ q y => ?_⟩
  obtain ⟨T, x, h1, h2, h3, h4⟩ := y
  exact ⟨T, .int (i : Nat), x, h1, h2, h3, rfl, h4 xs (.inl (.inl q))⟩
end L2

/-! joined, reached, renamed: plain laws -/
namespace Tf
open PySem PySem.Spec PyProof.Rows L2 PySem.W
/-- joined, the reached part, renamed: each in order -/
def bS (ps qs : Ps) : Ps := sortS (bothP ps qs)
def rS (ps : Ps) (ws : List Str) : Ps := sortS (onlyP ps ws)
def nS (ns : List (Str × Str)) (ps : Ps) : Ps := sortS (nameS ns ps)
def grph (ns : List (Str × Str)) (xs : List Str) : List (Str × Str) := xs.map fun x => (x, nu ns x)
section
variable {ps qs rs : Ps} {ws ws' : List Str} {ns : List (Str × Str)} {z x y : Str}
theorem sort_nd (ps : Ps) : ((sortS ps).map (·.1)).Nodup := by rw [sortS_names]; exact nodup_canon _
theorem sort_get (nd : (ps.map (·.1)).Nodup) (z : Str) : getP (sortS ps) z = getP ps z := get_perm (sort_nd ps) (sortS_perm nd) z
theorem same_of (np : (ps.map (·.1)).Nodup) (nq : (qs.map (·.1)).Nodup) (m : ∀ z, z ∈ ps.map (·.1) ↔ z ∈ qs.map (·.1)) (g : ∀ z ∈ ps.map (·.1), getP ps z = getP qs z) : sameD ps qs = true := same_perm nq (perm_get np nq m g)
theorem bS_mem : z ∈ (bS ps qs).map (·.1) ↔ z ∈ ps.map (·.1) ∨ z ∈ qs.map (·.1) := by
  unfold bS
  rw [sort_mem, both_mem]
theorem bS_get (np : (ps.map (·.1)).Nodup) (nq : (qs.map (·.1)).Nodup) (m : z ∈ ps.map (·.1) ∨ z ∈ qs.map (·.1)) : getP (bS ps qs) z = if z ∈ ps.map (·.1) then (if z ∈ qs.map (·.1) then joinP (getP ps z) (getP qs z) else getP ps z) else getP qs z := by
  unfold bS
  rw [sort_get (bothP_nd np nq), both_get np nq m]
theorem joinP_assoc (p q r : Pr) : joinP (joinP p q) r = joinP p (joinP q r) := by
  have h1 : canon (canon (p.1.items ++ q.1.items) ++ r.1.items) = canon (p.1.items ++ canon (q.1.items ++ r.1.items)) := canon_congr fun z => by simp only [List.mem_append, mem_canon, or_assoc]
  have h2 : setO (setO (p.2.items ++ q.2.items) ++ r.2.items) = setO (p.2.items ++ setO (q.2.items ++ r.2.items)) := setO_congr fun z => by simp only [List.mem_append, mem_setO, or_assoc]
  show ((⟨canon (canon (p.1.items ++ q.1.items) ++ r.1.items)⟩, ⟨setO (setO (p.2.items ++ q.2.items) ++ r.2.items)⟩) : Pr) = (⟨canon (p.1.items ++ canon (q.1.items ++ r.1.items))⟩, ⟨setO (p.2.items ++ setO (q.2.items ++ r.2.items))⟩)
  rw [h1, h2]
theorem joinP_again (p q : Pr) : joinP (joinP p q) p = joinP p q := by
  have h1 : canon (canon (p.1.items ++ q.1.items) ++ p.1.items) = canon (p.1.items ++ q.1.items) := canon_congr fun z => by
    simp only [List.mem_append, mem_canon]
    exact ⟨fun h => h.elim id .inl, .inl⟩
  have h2 : setO (setO (p.2.items ++ q.2.items) ++ p.2.items) = setO (p.2.items ++ q.2.items) := setO_congr fun z => by
    simp only [List.mem_append, mem_setO]
    exact ⟨fun h => h.elim id .inl, .inl⟩
  show ((⟨canon (canon (p.1.items ++ q.1.items) ++ p.1.items)⟩, ⟨setO (setO (p.2.items ++ q.2.items) ++ p.2.items)⟩) : Pr) = (⟨canon (p.1.items ++ q.1.items)⟩, ⟨setO (p.2.items ++ q.2.items)⟩)
  rw [h1, h2]
theorem joinP_norm (p q : Pr) : normP (joinP p q) = joinP p q := by
  show ((⟨canon (canon (p.1.items ++ q.1.items))⟩, ⟨setO (setO (p.2.items ++ q.2.items))⟩) : Pr) = _
  rw [canon_canon, setO_setO]
  rfl
theorem bS_assoc (np : (ps.map (·.1)).Nodup) (nq : (qs.map (·.1)).Nodup) (nr : (rs.map (·.1)).Nodup) : sameD (bS (bS ps qs) rs) (bS ps (bS qs rs)) = true := by
  have n1 : ((bS ps qs).map (·.1)).Nodup := sort_nd _
  have n2 : ((bS qs rs).map (·.1)).Nodup := sort_nd _
  refine same_of (sort_nd _) (sort_nd _) (fun z => by rw [bS_mem, bS_mem, bS_mem, bS_mem, or_assoc]) fun z hz => ?_
  have m := bS_mem.mp hz
  have m2 : z ∈ ps.map (·.1) ∨ z ∈ (bS qs rs).map (·.1) := by
    rw [bS_mem] at m ⊢
    exact or_assoc.mp m
  rw [bS_get n1 nr m, bS_get np n2 m2]
  by_cases a : z ∈ ps.map (·.1) <;> by_cases b : z ∈ qs.map (·.1) <;> by_cases c : z ∈ rs.map (·.1)
  · have h1 : z ∈ (bS ps qs).map (·.1) := bS_mem.mpr (.inl a)
    have h2 : z ∈ (bS qs rs).map (·.1) := bS_mem.mpr (.inl b)
    rw [if_pos h1, if_pos c, if_pos a, if_pos h2, bS_get np nq (.inl a), if_pos a, if_pos b, bS_get nq nr (.inl b), if_pos b, if_pos c, joinP_assoc]
  · have h1 : z ∈ (bS ps qs).map (·.1) := bS_mem.mpr (.inl a)
    have h2 : z ∈ (bS qs rs).map (·.1) := bS_mem.mpr (.inl b)
    rw [if_pos h1, if_neg c, if_pos a, if_pos h2, bS_get np nq (.inl a), if_pos a, if_pos b, bS_get nq nr (.inl b), if_pos b, if_neg c]
  · have h1 : z ∈ (bS ps qs).map (·.1) := bS_mem.mpr (.inl a)
    have h2 : z ∈ (bS qs rs).map (·.1) := bS_mem.mpr (.inr c)
    rw [if_pos h1, if_pos c, if_pos a, if_pos h2, bS_get np nq (.inl a), if_pos a, if_neg b, bS_get nq nr (.inr c), if_neg b]
  · have h1 : z ∈ (bS ps qs).map (·.1) := bS_mem.mpr (.inl a)
    have h2 : z ∉ (bS qs rs).map (·.1) := fun h => (bS_mem.mp h).elim b c
    rw [if_pos h1, if_neg c, if_pos a, if_neg h2, bS_get np nq (.inl a), if_pos a, if_neg b]
  · have h1 : z ∈ (bS ps qs).map (·.1) := bS_mem.mpr (.inr b)
    rw [if_pos h1, if_pos c, if_neg a, bS_get np nq (.inr b), if_neg a, bS_get nq nr (.inl b), if_pos b, if_pos c]
  · have h1 : z ∈ (bS ps qs).map (·.1) := bS_mem.mpr (.inr b)
    rw [if_pos h1, if_neg c, if_neg a, bS_get np nq (.inr b), if_neg a, bS_get nq nr (.inl b), if_pos b, if_neg c]
  · have h1 : z ∉ (bS ps qs).map (·.1) := fun h => (bS_mem.mp h).elim a b
    rw [if_neg h1, if_neg a, bS_get nq nr (.inr c), if_neg b]
  · exact absurd m fun h => h.elim (fun h => (bS_mem.mp h).elim a b) c
theorem bS_again (np : (ps.map (·.1)).Nodup) (nq : (qs.map (·.1)).Nodup) (nm : Nrm ps) : sameD (bS (bS ps qs) ps) (bS ps qs) = true := by
  have n1 : ((bS ps qs).map (·.1)).Nodup := sort_nd _
  refine same_of (sort_nd _) n1 (fun z => by rw [bS_mem]; exact ⟨fun h => h.elim id fun h => bS_mem.mpr (.inl h), .inl⟩) fun z hz => ?_
  have m := bS_mem.mp hz
  have m1 : z ∈ (bS ps qs).map (·.1) := m.elim id fun h => bS_mem.mpr (.inl h)
  rw [bS_get n1 np m, if_pos m1]
  by_cases a : z ∈ ps.map (·.1)
  · rw [if_pos a, bS_get np nq (.inl a), if_pos a]
    by_cases b : z ∈ qs.map (·.1)
    · rw [if_pos b, joinP_again]
    · rw [if_neg b]
      exact join_self (nm _ (mem_names np a))
  · rw [if_neg a]
/-! what is kept -/
theorem hs_get {ms ks : List Str} (h : Hs ms ks ps) (hz : z ∈ ps.map (·.1)) : normP (getP ps z) = getP ps z := h.nm _ (mem_names h.nd hz)
theorem hs_of {ms ks : List Str} {qs : Ps} (nd : (qs.map (·.1)).Nodup) (g : ∀ z ∈ qs.map (·.1), nameB z = true ∧ normP (getP qs z) = getP qs z ∧ (∀ m ∈ (getP qs z).1.items, m ∈ ms) ∧ ∀ l ∈ (getP qs z).2.items, l.1 ∈ ks ∧ l.2 ∈ qs.map (·.1)) : Hs ms ks qs := by
  have e : ∀ p ∈ qs, getP qs p.1 = p.2 ∧ p.1 ∈ qs.map (·.1) := fun p hp => ⟨getP_mem nd (show (p.1, p.2) ∈ qs from hp), List.mem_map.mpr ⟨p, hp, rfl⟩⟩
  refine ⟨nd, fun p hp => ?_, fun z hz => (g z hz).1, fun p hp m hm => ?_, fun p hp l hl => ?_⟩
  · obtain ⟨e1, e2⟩ := e p hp
    rw [← e1]
    exact (g _ e2).2.1
  · obtain ⟨e1, e2⟩ := e p hp
    rw [← e1] at hm
    exact (g _ e2).2.2.1 m hm
  · obtain ⟨e1, e2⟩ := e p hp
    rw [← e1] at hl
    exact (g _ e2).2.2.2 l hl
theorem bS_hs {ms ks : List Str} (hp : Hs ms ks ps) (hq : Hs ms ks qs) : Hs ms ks (bS ps qs) := by
  refine hs_of (sort_nd _) fun z hz => ?_
  have m := bS_mem.mp hz
  have sp : ∀ l ∈ (getP ps z).2.items, l.1 ∈ ks ∧ l.2 ∈ (bS ps qs).map (·.1) := fun l hl => ⟨(hp.get_l z l hl).1, bS_mem.mpr (.inl (hp.get_l z l hl).2)⟩
  have sq : ∀ l ∈ (getP qs z).2.items, l.1 ∈ ks ∧ l.2 ∈ (bS ps qs).map (·.1) := fun l hl => ⟨(hq.get_l z l hl).1, bS_mem.mpr (.inr (hq.get_l z l hl).2)⟩
  rw [bS_get hp.nd hq.nd m]
  by_cases a : z ∈ ps.map (·.1) <;> by_cases b : z ∈ qs.map (·.1)
  · rw [if_pos a, if_pos b]
    refine ⟨hp.wd z a, joinP_norm _ _, fun x hx => ?_, fun l hl => ?_⟩
    · exact (List.mem_append.mp (mem_canon.mp hx)).elim (hp.get_m z x) (hq.get_m z x)
    · exact (List.mem_append.mp (mem_setO.mp hl)).elim (sp l) (sq l)
  · rw [if_pos a, if_neg b]
    exact ⟨hp.wd z a, hs_get hp a, hp.get_m z, sp⟩
  · rw [if_neg a]
    exact ⟨hq.wd z b, hs_get hq b, hq.get_m z, sq⟩
  · exact absurd m fun h => h.elim a b
theorem hs_cls {ms ks : List Str} (h : Hs ms ks ps) : Cls1 ps := fun p hp e he => (h.ml p hp e he).2
theorem hs_rch {ms ks : List Str} (h : Hs ms ks ps) (hz : z ∈ ps.map (·.1)) (r : Rch ps z x) : x ∈ ps.map (·.1) := by
  induction r with
  | here => exact hz
  | next _ hl _ => exact (h.get_l _ _ hl).2
/-! what is reached -/
theorem only_get (nw : ws.Nodup) (hx : x ∈ ws) : getP (onlyP ps ws) x = getP ps x := by
  refine getP_mem (by rw [onlyP_names]; exact nw) ?_
  unfold onlyP
  exact List.mem_map.mpr ⟨x, hx, rfl⟩
theorem rS_mem : x ∈ (rS ps ws).map (·.1) ↔ x ∈ ws := by
  unfold rS
  rw [sort_mem, onlyP_names]
theorem rS_get (nw : ws.Nodup) (hx : x ∈ ws) : getP (rS ps ws) x = getP ps x := by
  unfold rS
  rw [sort_get (by rw [onlyP_names]; exact nw), only_get nw hx]
theorem rS_hs {ms ks : List Str} (h : Hs ms ks ps) (nw : ws.Nodup) (rc : ∀ x, x ∈ ws ↔ Rch ps z x) (hz : z ∈ ps.map (·.1)) : Hs ms ks (rS ps ws) := by
  refine hs_of (sort_nd _) fun x hx => ?_
  have mx := rS_mem.mp hx
  have rx := (rc x).mp mx
  have nx := hs_rch h hz rx
  rw [rS_get nw mx]
  exact ⟨h.wd x nx, hs_get h nx, h.get_m x, fun l hl => ⟨(h.get_l x l hl).1, rS_mem.mpr ((rc l.2).mpr (.next (k := l.1) rx hl))⟩⟩
theorem rS_rch (nw : ws.Nodup) (rc : ∀ x, x ∈ ws ↔ Rch ps z x) : Rch (rS ps ws) z x ↔ Rch ps z x := by
  constructor
  · intro r
    induction r with
    | here => exact .here
    | next _ hl ih => rw [rS_get nw ((rc _).mpr ih)] at hl; exact .next ih hl
  · intro r
    induction r with
    | here => exact .here
    | next h hl ih => exact .next ih (by rw [rS_get nw ((rc _).mpr h)]; exact hl)
theorem rS_again (nw : ws.Nodup) (rc : ∀ x, x ∈ ws ↔ Rch ps z x) (nw' : ws'.Nodup) (rc' : ∀ x, x ∈ ws' ↔ Rch (rS ps ws) z x) : sameD (rS (rS ps ws) ws') (rS ps ws) = true := by
  have e : ∀ x, x ∈ ws' ↔ x ∈ ws := fun x => by rw [rc', rS_rch nw rc, rc]
  refine same_of (sort_nd _) (sort_nd _) (fun x => by rw [rS_mem, rS_mem, e]) fun x hx => ?_
  exact rS_get nw' (rS_mem.mp hx)
theorem rS_both {ms ks : List Str} (h : Hs ms ks ps) (nw : ws.Nodup) (sub : ∀ x ∈ ws, x ∈ ps.map (·.1)) : sameD (bS (rS ps ws) ps) ps = true := by
  refine same_of (sort_nd _) h.nd (fun x => by rw [bS_mem, rS_mem]; exact ⟨fun q => q.elim (sub x) id, .inr⟩) fun x hx => ?_
  have m := bS_mem.mp hx
  have nr : ((rS ps ws).map (·.1)).Nodup := sort_nd _
  rw [bS_get nr h.nd m]
  by_cases a : x ∈ (rS ps ws).map (·.1)
  · have nx := sub x (rS_mem.mp a)
    rw [if_pos a, if_pos nx, rS_get nw (rS_mem.mp a)]
    exact join_self (hs_get h nx)
  · rw [if_neg a]
/-! renamed -/
theorem nS_mem : y ∈ (nS ns ps).map (·.1) ↔ ∃ x ∈ ps.map (·.1), nu ns x = y := by
  unfold nS
  rw [sort_mem, nameS_names, List.mem_map]
theorem nS_get (inj : ((ps.map (·.1)).map (nu ns)).Nodup) (nd : (ps.map (·.1)).Nodup) (hx : x ∈ ps.map (·.1)) : getP (nS ns ps) (nu ns x) = nuP ns (getP ps x) := by
  unfold nS
  have ni : ((nameS ns ps).map (·.1)).Nodup := by rw [nameS_names]; exact inj
  rw [sort_get ni]
  refine getP_mem ni ?_
  unfold nameS
  exact List.mem_map.mpr ⟨(x, getP ps x), mem_names nd hx, rfl⟩
theorem nuP_congr {n1 n2 : List (Str × Str)} {p : Pr} (h : ∀ l ∈ p.2.items, nu n1 l.2 = nu n2 l.2) : nuP n1 p = nuP n2 p := by
  unfold nuP
  have e : p.2.items.map (nuL n1) = p.2.items.map (nuL n2) := List.map_congr_left fun l hl => by
    unfold nuL
    rw [h l hl]
  rw [e]
theorem nuP_links {p : Pr} {k w : Str} (h : (k, w) ∈ (nuP ns p).2.items) : ∃ l ∈ p.2.items, l.1 = k ∧ nu ns l.2 = w := by
  obtain ⟨l, hl, e⟩ := List.mem_map.mp (mem_setO.mp h)
  exact ⟨l, hl, congrArg (fun q : Str × Str => q.1) e, congrArg (fun q : Str × Str => q.2) e⟩
theorem nS_rch {ms ks : List Str} (h : Hs ms ks ps) (inj : ((ps.map (·.1)).map (nu ns)).Nodup) (hz : z ∈ ps.map (·.1)) : Rch (nS ns ps) (nu ns z) y ↔ ∃ x, Rch ps z x ∧ nu ns x = y := by
  constructor
  · intro r
    induction r with
    | here => exact ⟨z, .here, rfl⟩
    | next _ hl ih =>
      obtain ⟨x, rx, rfl⟩ := ih
      rw [nS_get inj h.nd (hs_rch h hz rx)] at hl
      obtain ⟨l, hl', _, e⟩ := nuP_links hl
      exact ⟨l.2, .next (k := l.1) rx hl', e⟩
  · rintro ⟨x, r, rfl⟩
    induction r with
    | here => exact .here
    | @next a b k rx hl ih =>
      refine .next (k := k) ih ?_
      rw [nS_get inj h.nd (hs_rch h hz rx)]
      exact mem_setO.mpr (List.mem_map.mpr ⟨_, hl, rfl⟩)
theorem grph_keys (ns : List (Str × Str)) (xs : List Str) : (grph ns xs).map (·.1) = xs := by
  unfold grph
  rw [List.map_map]
  exact List.map_id' xs
theorem grph_nu {xs : List Str} (nd : xs.Nodup) (hx : x ∈ xs) : nu (grph ns xs) x = nu ns x :=
  nu_mem (by rw [grph_keys]; exact nd) (List.mem_map.mpr ⟨x, hx, rfl⟩)
theorem grph_map {xs : List Str} (nd : xs.Nodup) : xs.map (nu (grph ns xs)) = xs.map (nu ns) := List.map_congr_left fun x hx => grph_nu nd hx
theorem inj_sub {xs : List Str} (nx : xs.Nodup) (inj : ((ps.map (·.1)).map (nu ns)).Nodup) (sub : ∀ x ∈ xs, x ∈ ps.map (·.1)) : (xs.map (nu ns)).Nodup := nodup_mapOn nx fun a ha b hb e => inj_nd inj (sub a ha) (sub b hb) e
/-- reached, then renamed; renamed, then reached -/
theorem moved_same {ms ks : List Str} (h : Hs ms ks ps) (inj : ((ps.map (·.1)).map (nu ns)).Nodup) (hz : z ∈ ps.map (·.1)) (nw : ws.Nodup) (rc : ∀ x, x ∈ ws ↔ Rch ps z x) (nw' : ws'.Nodup) (rc' : ∀ x, x ∈ ws' ↔ Rch (nS ns ps) (nu ns z) x) : sameD (rS (nS ns ps) ws') (nS (grph ns ((rS ps ws).map (·.1))) (rS ps ws)) = true := by
  have nr : ((rS ps ws).map (·.1)).Nodup := sort_nd _
  have sub : ∀ x ∈ ws, x ∈ ps.map (·.1) := fun x hx => hs_rch h hz ((rc x).mp hx)
  have injG : (((rS ps ws).map (·.1)).map (nu (grph ns ((rS ps ws).map (·.1))))).Nodup := by
    rw [grph_map nr]
    exact inj_sub nr inj fun x hx => sub x (rS_mem.mp hx)
  have hr := rS_hs h nw rc hz
  refine same_of (sort_nd _) (sort_nd _) (fun y => ?_) fun y hy => ?_
  · rw [rS_mem, rc', nS_rch h inj hz, nS_mem]
    constructor
    · rintro ⟨x, rx, e⟩
      have mx : x ∈ (rS ps ws).map (·.1) := rS_mem.mpr ((rc x).mpr rx)
      exact ⟨x, mx, by rw [grph_nu nr mx]; exact e⟩
    · rintro ⟨x, mx, e⟩
      rw [grph_nu nr mx] at e
      exact ⟨x, (rc x).mp (rS_mem.mp mx), e⟩
  · have my := rS_mem.mp hy
    obtain ⟨x, rx, rfl⟩ := (nS_rch h inj hz).mp ((rc' y).mp my)
    have mw := (rc x).mpr rx
    have mx : x ∈ (rS ps ws).map (·.1) := rS_mem.mpr mw
    rw [rS_get nw' my, nS_get inj h.nd (sub x mw)]
    have e := nS_get injG nr mx
    rw [grph_nu nr mx] at e
    rw [e, rS_get nw mw]
    refine nuP_congr fun l hl => (grph_nu nr ?_).symm
    have := (hr.get_l x l (by rw [rS_get nw mw]; exact hl)).2
    exact this
theorem nuP_join {n1 n2 ns : List (Str × Str)} {p q : Pr} (h1 : ∀ l ∈ p.2.items, nu n1 l.2 = nu ns l.2) (h2 : ∀ l ∈ q.2.items, nu n2 l.2 = nu ns l.2) : joinP (nuP n1 p) (nuP n2 q) = nuP ns (joinP p q) := by
  rw [nuP_congr h1, nuP_congr h2]
  have e : setO (setO (p.2.items.map (nuL ns)) ++ setO (q.2.items.map (nuL ns))) = setO ((setO (p.2.items ++ q.2.items)).map (nuL ns)) := setO_congr fun l => by
    simp only [List.mem_append, mem_setO, List.mem_map]
    constructor
    · rintro (⟨x, hx, rfl⟩ | ⟨x, hx, rfl⟩)
      · exact ⟨x, .inl hx, rfl⟩
      · exact ⟨x, .inr hx, rfl⟩
    · rintro ⟨x, hx | hx, rfl⟩
      · exact .inl ⟨x, hx, rfl⟩
      · exact .inr ⟨x, hx, rfl⟩
  show ((⟨canon (p.1.items ++ q.1.items)⟩, ⟨setO (setO (p.2.items.map (nuL ns)) ++ setO (q.2.items.map (nuL ns)))⟩) : Pr) = (⟨canon (p.1.items ++ q.1.items)⟩, ⟨setO ((setO (p.2.items ++ q.2.items)).map (nuL ns))⟩)
  rw [e]
/-- renamed, then joined; joined, then renamed -/
theorem joined_same {ms ks : List Str} (hp : Hs ms ks ps) (hq : Hs ms ks qs) (inj : (((bS ps qs).map (·.1)).map (nu ns)).Nodup) : sameD (bS (nS (grph ns (ps.map (·.1))) ps) (nS (grph ns (qs.map (·.1))) qs)) (nS ns (bS ps qs)) = true := by
  have sp : ∀ x ∈ ps.map (·.1), x ∈ (bS ps qs).map (·.1) := fun x hx => bS_mem.mpr (.inl hx)
  have sq : ∀ x ∈ qs.map (·.1), x ∈ (bS ps qs).map (·.1) := fun x hx => bS_mem.mpr (.inr hx)
  have ip : ((ps.map (·.1)).map (nu (grph ns (ps.map (·.1))))).Nodup := by
    rw [grph_map hp.nd]
    exact inj_sub hp.nd inj sp
  have iq : ((qs.map (·.1)).map (nu (grph ns (qs.map (·.1))))).Nodup := by
    rw [grph_map hq.nd]
    exact inj_sub hq.nd inj sq
  have mp : ∀ y, y ∈ (nS (grph ns (ps.map (·.1))) ps).map (·.1) ↔ ∃ x ∈ ps.map (·.1), nu ns x = y := fun y => by
    rw [nS_mem]
    exact ⟨fun ⟨x, hx, e⟩ => ⟨x, hx, by rw [← grph_nu hp.nd hx]; exact e⟩, fun ⟨x, hx, e⟩ => ⟨x, hx, by rw [grph_nu hp.nd hx]; exact e⟩⟩
  have mq : ∀ y, y ∈ (nS (grph ns (qs.map (·.1))) qs).map (·.1) ↔ ∃ x ∈ qs.map (·.1), nu ns x = y := fun y => by
    rw [nS_mem]
    exact ⟨fun ⟨x, hx, e⟩ => ⟨x, hx, by rw [← grph_nu hq.nd hx]; exact e⟩, fun ⟨x, hx, e⟩ => ⟨x, hx, by rw [grph_nu hq.nd hx]; exact e⟩⟩
  have gp : ∀ x ∈ ps.map (·.1), getP (nS (grph ns (ps.map (·.1))) ps) (nu ns x) = nuP (grph ns (ps.map (·.1))) (getP ps x) := fun x hx => by
    have e := nS_get ip hp.nd hx
    rw [grph_nu hp.nd hx] at e
    exact e
  have gq : ∀ x ∈ qs.map (·.1), getP (nS (grph ns (qs.map (·.1))) qs) (nu ns x) = nuP (grph ns (qs.map (·.1))) (getP qs x) := fun x hx => by
    have e := nS_get iq hq.nd hx
    rw [grph_nu hq.nd hx] at e
    exact e
  have lp : ∀ x, ∀ l ∈ (getP ps x).2.items, nu (grph ns (ps.map (·.1))) l.2 = nu ns l.2 := fun x l hl => grph_nu hp.nd (hp.get_l x l hl).2
  have lq : ∀ x, ∀ l ∈ (getP qs x).2.items, nu (grph ns (qs.map (·.1))) l.2 = nu ns l.2 := fun x l hl => grph_nu hq.nd (hq.get_l x l hl).2
  have nB : ((bS ps qs).map (·.1)).Nodup := sort_nd _
  refine same_of (sort_nd _) (sort_nd _) (fun y => ?_) fun y hy => ?_
  · rw [bS_mem, mp, mq, nS_mem]
    constructor
    · rintro (⟨x, hx, e⟩ | ⟨x, hx, e⟩)
      · exact ⟨x, sp x hx, e⟩
      · exact ⟨x, sq x hx, e⟩
    · rintro ⟨x, hx, e⟩
      exact (bS_mem.mp hx).imp (fun h => ⟨x, h, e⟩) fun h => ⟨x, h, e⟩
  · have m := bS_mem.mp hy
    obtain ⟨x, mx, rfl⟩ : ∃ x, x ∈ (bS ps qs).map (·.1) ∧ nu ns x = y := by
      rw [mp, mq] at m
      rcases m with ⟨x, hx, e⟩ | ⟨x, hx, e⟩
      · exact ⟨x, sp x hx, e⟩
      · exact ⟨x, sq x hx, e⟩
    have up : nu ns x ∈ (nS (grph ns (ps.map (·.1))) ps).map (·.1) ↔ x ∈ ps.map (·.1) := by
      rw [mp]
      refine ⟨fun ⟨x', hx', e⟩ => ?_, fun h => ⟨x, h, rfl⟩⟩
      rw [← inj_nd inj (sp x' hx') mx e]
      exact hx'
    have uq : nu ns x ∈ (nS (grph ns (qs.map (·.1))) qs).map (·.1) ↔ x ∈ qs.map (·.1) := by
      rw [mq]
      refine ⟨fun ⟨x', hx', e⟩ => ?_, fun h => ⟨x, h, rfl⟩⟩
      rw [← inj_nd inj (sq x' hx') mx e]
      exact hx'
    have n1 : ((nS (grph ns (ps.map (·.1))) ps).map (·.1)).Nodup := sort_nd _
    have n2 : ((nS (grph ns (qs.map (·.1))) qs).map (·.1)).Nodup := sort_nd _
    rw [bS_get n1 n2 m, nS_get inj nB mx, bS_get hp.nd hq.nd (bS_mem.mp mx)]
    by_cases a : x ∈ ps.map (·.1) <;> by_cases b : x ∈ qs.map (·.1)
    · rw [if_pos (up.mpr a), if_pos (uq.mpr b), if_pos a, if_pos b, gp x a, gq x b]
      exact nuP_join (lp x) (lq x)
    · rw [if_pos (up.mpr a), if_neg (fun h => b (uq.mp h)), if_pos a, if_neg b, gp x a]
      exact nuP_congr (lp x)
    · rw [if_neg (fun h => a (up.mp h)), if_neg a, gq x b]
      exact nuP_congr (lq x)
    · exact absurd (bS_mem.mp mx) fun h => h.elim a b
end
/-! the new names -/
def tl : List Str := ["ta", "tb", "tc", "td", "te", "tf", "tg", "th", "ti", "tj", "tk", "tl", "tm", "tn", "to", "tp", "tq", "tr", "ts", "tt"]
theorem tl_ok : ∀ y ∈ tl, nameB y = true := by decide +kernel
theorem tl_nd : tl.Nodup := by decide +kernel
theorem tl_at : ∀ i, i < 20 → ((("abcdefghijklmnopqrst" : Str).cps[i]?).map fun c => (("t" : Str) ++ ⟨#[c]⟩ : Str)) = tl[i]? := by decide +kernel
theorem zip_keys {zs : List Str} (l : zs.length ≤ 20) : (zs.zip tl).map (·.1) = zs := List.map_fst_zip (by show zs.length ≤ 20; exact l)
theorem zip_snd : ∀ (zs ys : List Str), (zs.zip ys).map (·.2) = ys.take zs.length
  | [], ys => by simp
  | z :: zs, [] => by simp
  | z :: zs, y :: ys => by
    rw [List.zip_cons_cons, List.map_cons, zip_snd zs ys]
    rfl
theorem zip_inj {zs : List Str} (nd : zs.Nodup) (l : zs.length ≤ 20) : zs.map (nu (zs.zip tl)) = tl.take zs.length := by
  have k := zip_keys l
  have e : zs.map (nu (zs.zip tl)) = (zs.zip tl).map (·.2) := by
    have h : ((zs.zip tl).map (·.1)).map (nu (zs.zip tl)) = (zs.zip tl).map (·.2) := by
      rw [List.map_map]
      exact List.map_congr_left fun p hp => nu_mem (by rw [k]; exact nd) hp
    rw [k] at h
    exact h
  rw [e]
  exact zip_snd zs tl
end Tf

/-! stores joined, reached, renamed: _law_joined_right -/
namespace Tf
open PySem PySem.Spec PyProof.Rows L2 PySem.W
abbrev sJr : Stmt := top 50
abbrev nJr : List Str := ["_law_dice_here", "_law_language_here", "_law_base", "_law_one", "_law_two", "_law_three", "_law_both", "_law_name", "_law_part", "_law_names", "_law_moved", "_law_left", "_law_right", "_law_turn", "_law_end", "_law_at", "_law_thing"]
theorem scJr : FnScope nJr ["_law_dice_here", "_law_language_here", "_law_base"] (defScope sJr) := ⟨rfl, rfl, rfl, by decide +kernel, rfl, by decide +kernel, by decide +kernel⟩
/-- what is known of stores that are joined -/
structure J8 (P : Program) (w : World) (K : PySem.W.Frag) (mg : Str → Option Value) (base : Heap) (n : Nat) (CL CS CM : Addr) : Prop where
  cl : Cls K CM
  pn : PpN P w K mg base n CM "names" (spSnm CL CM)
  re : MtN P w K mg base n CM "reached" ["self", "thing"] (spRea CL CM CM)
  rb : MtN P w K mg base n CM "renamed_by" ["self", "names"] (spRb CL CM CM)
  eq : OwN P w K mg base n CM "__eq__" (spSeq K CL CS CM CM)
  ne : NeO K CM
  or : BnN P w K mg base n CM .BitOr (spSor CL CM CM CM)
  ha : OwN P w K mg base n CM "__contains__" (spSha K CL CM)
def spJr (CL : Addr) : Sp := fun vs H Q _ => ∃ (d pg pm pk la : Addr) (ms ks : List Str), vs = [.ref d, .ref pg, .ref la] ∧ Dice H d ∧ H pg = some (.tup [.ref pm, .ref pk]) ∧ H pm = some (.tup (ms.map V.str)) ∧ H pk = some (.tup (ks.map V.str)) ∧ canon ms = ms ∧ ms.length ≤ 3 ∧ 1 ≤ ks.length ∧ ks.length ≤ 3 ∧ LangAt CL H la ms ks ∧
  ∀ H' : Hp, Nr d H H' → Dice H' d → Q (.bl true) H'
/-- a small store -/
structure Sm (ms ks : List Str) (n c : Nat) (ps : Ps) : Prop where
  hs : Hs ms ks ps
  ln : ps.length ≤ n
  lk : ∀ z, (getP ps z).2.items.length ≤ c
section
variable {ms ks : List Str} {n c n1 c1 n2 c2 : Nat} {ps qs : Ps} {ws : List Str} {z : Str} {ns : List (Str × Str)}
theorem get_len0 {z : Str} (h : z ∉ ps.map (·.1)) : (getP ps z).2.items.length ≤ c := by
  rw [get_off h]
  exact Nat.zero_le _
theorem setO_le {α : Type} [DecidableEq α] [OrdD α] (xs : List α) : (setO xs).length ≤ xs.length := nodup_le (nodup_setO _) fun x hx => mem_setO.mp hx
theorem Sm.bS (hp : Sm ms ks n1 c1 ps) (hq : Sm ms ks n2 c2 qs) : Sm ms ks (n1 + n2) (c1 + c2) (bS ps qs) := by
  refine ⟨bS_hs hp.hs hq.hs, ?_, fun z => ?_⟩
  · unfold Tf.bS
    rw [(sortS_perm (bothP_nd hp.hs.nd hq.hs.nd)).length_eq]
    unfold bothP
    rw [List.length_append, List.length_map]
    have := List.length_filter_le (fun q : Str × Pr => !decide (q.1 ∈ ps.map (·.1))) qs
    have := hp.ln
    have := hq.ln
    omega
  · have h1 := hp.lk z
    have h2 := hq.lk z
    by_cases m : z ∈ (Tf.bS ps qs).map (·.1)
    · rw [bS_get hp.hs.nd hq.hs.nd (bS_mem.mp m)]
      split
      · split
        · refine Nat.le_trans (setO_le _) ?_
          rw [List.length_append]
          omega
        · omega
      · omega
    · exact get_len0 m
theorem Sm.rS (hp : Sm ms ks n c ps) (nw : ws.Nodup) (rc : ∀ x, x ∈ ws ↔ Rch ps z x) (hz : z ∈ ps.map (·.1)) : Sm ms ks n c (rS ps ws) := by
  have hr := rS_hs hp.hs nw rc hz
  refine ⟨hr, ?_, fun x => ?_⟩
  · have h1 := nodup_le (ys := ps.map (·.1)) hr.nd fun x hx => hs_rch hp.hs hz ((rc x).mp (rS_mem.mp hx))
    rw [List.length_map, List.length_map] at h1
    exact Nat.le_trans h1 hp.ln
  · by_cases m : x ∈ (Tf.rS ps ws).map (·.1)
    · rw [rS_get nw (rS_mem.mp m)]
      exact hp.lk x
    · exact get_len0 m
theorem Sm.nS (hp : Sm ms ks n c ps) (inj : ((ps.map (·.1)).map (nu ns)).Nodup) (nb : ∀ x ∈ ps.map (·.1), nameB (nu ns x) = true) : Sm ms ks n c (nS ns ps) := by
  refine ⟨hs_of (sort_nd _) fun y hy => ?_, ?_, fun y => ?_⟩
  · obtain ⟨x, hx, rfl⟩ := nS_mem.mp hy
    rw [nS_get inj hp.hs.nd hx]
    refine ⟨nb x hx, ?_, hp.hs.get_m x, fun l hl => ?_⟩
    · have e1 : canon (getP ps x).1.items = (getP ps x).1.items := congrArg (fun q : Pr => q.1.items) (hs_get hp.hs hx)
      show ((⟨canon (getP ps x).1.items⟩, ⟨setO (setO ((getP ps x).2.items.map (nuL ns)))⟩) : Pr) = ((getP ps x).1, ⟨setO ((getP ps x).2.items.map (nuL ns))⟩)
      rw [e1, setO_setO]
    · obtain ⟨l', hl', h1, h2⟩ := nuP_links (k := l.1) (w := l.2) hl
      rw [← h1]
      exact ⟨(hp.hs.get_l x l' hl').1, nS_mem.mpr ⟨l'.2, (hp.hs.get_l x l' hl').2, h2⟩⟩
  · unfold Tf.nS
    rw [(sortS_perm (by rw [nameS_names]; exact inj)).length_eq]
    unfold nameS
    rw [List.length_map]
    exact hp.ln
  · by_cases m : y ∈ (Tf.nS ns ps).map (·.1)
    · obtain ⟨x, hx, rfl⟩ := nS_mem.mp m
      rw [nS_get inj hp.hs.nd hx]
      refine Nat.le_trans (setO_le _) ?_
      rw [List.length_map]
      exact hp.lk x
    · exact get_len0 m
theorem Sm.jn (hp : Sm ms ks n1 c1 ps) (hq : Sm ms ks n2 c2 qs) (m3 : ms.length ≤ 3) (h : c1 + c2 ≤ 60) : Jn ps qs := fun p hpp _ => by
  have e := getP_mem hp.hs.nd (show (p.1, p.2) ∈ ps from hpp)
  have a1 := hp.hs.m3 p.1
  have a2 := hq.hs.m3 p.1
  have b1 := hp.lk p.1
  have b2 := hq.lk p.1
  rw [e] at a1 b1
  exact ⟨by omega, by omega⟩
end
section
variable {K : PySem.W.Frag} {CL CS CM a b la t u : Addr} {G : Hp} {ms ks : List Str} {n1 c1 n2 c2 : Nat} {ps qs : Ps} {Q : VK}
theorem bin_of (sa : StoreAt CL CM G a la t ms ks ps) (sb : StoreAt CL CM G b la u ms ks qs) (m3 : ms.length ≤ 3) (hp : Sm ms ks n1 c1 ps) (hq : Sm ms ks n2 c2 qs) (h : n1 + n2 ≤ 60 ∧ c1 + c2 ≤ 60)
    (q : ∀ (x t' : Addr) (G' : Hp), Same G G' → StoreAt CL CM G' x la t' ms ks (bS ps qs) → Q (.ref x) G') : rBinO CM (spSor CL CM CM CM) E0 (.ref a) (.ref b) G Q := by
  obtain ⟨dx, fs, i1⟩ := sa.ins
  obtain ⟨dy, gs, i2⟩ := sb.ins
  have := hp.ln
  have := hq.ln
  exact ⟨a, dx, fs, b, dy, gs, rfl, rfl, i1, i2, a, la, t, b, la, u, ms, ks, ps, qs, rfl, sa, sb, hp.hs.nd, hq.hs.nd, by omega, hp.jn hq m3 h.2, fun x t' G' s _ _ st => ⟨x, rfl, q x t' G' s st⟩⟩
theorem neq_of {X : Cx} (nM : PySem.W.notFirst X.K CM (.ref CM) = true) (sa : StoreAt CL CM G a la t ms ks ps) (sb : StoreAt CL CM G b la u ms ks qs) (e : sameD ps qs = true) (q : Q (.bl false) G) : rEqO X CM (spSeq X.K CL CS CM CM) E0 true (.ref a) (.ref b) G Q := by
  obtain ⟨dx, fs, i1⟩ := sa.ins
  obtain ⟨dy, gs, i2⟩ := sb.ins
  refine ⟨a, dx, fs, .ref CM, rfl, i1, TyL.ins i2, nM, a, la, t, ms, ks, ps, .ref b, rfl, sa, .inr ⟨b, la, u, ms, ks, qs, rfl, sb, _, rfl, ?_⟩⟩
  rw [e, decide_eq_true rfl, decide_eq_true rfl]
  exact q
theorem eq_of {X : Cx} (nM : PySem.W.notFirst X.K CM (.ref CM) = true) (sa : StoreAt CL CM G a la t ms ks ps) (sb : StoreAt CL CM G b la u ms ks qs) (e : sameD ps qs = true) (q : Q (.bl true) G) : rEqO X CM (spSeq X.K CL CS CM CM) E0 false (.ref a) (.ref b) G Q := by
  obtain ⟨dx, fs, i1⟩ := sa.ins
  obtain ⟨dy, gs, i2⟩ := sb.ins
  refine ⟨a, dx, fs, .ref CM, rfl, i1, TyL.ins i2, nM, a, la, t, ms, ks, ps, .ref b, rfl, sa, .inr ⟨b, la, u, ms, ks, qs, rfl, sb, _, rfl, ?_⟩⟩
  rw [e, decide_eq_true rfl, decide_eq_true rfl]
  exact q
end
theorem zip_snoc : ∀ {zs ys : List Str} {j : Nat} {z y : Str}, zs[j]? = some z → ys[j]? = some y → (zs.take (j + 1)).zip ys = (zs.take j).zip ys ++ [(z, y)]
  | [], _, _, _, _, h, _ => by cases h
  | _ :: _, [], _, _, _, _, h => by cases h
  | a :: zs, b :: ys, 0, z, y, h1, h2 => by
    cases (Option.some.inj h1)
    cases (Option.some.inj h2)
    rfl
  | a :: zs, b :: ys, j + 1, z, y, h1, h2 => by
    have e := zip_snoc (zs := zs) (ys := ys) (j := j) h1 h2
    show (a, b) :: (zs.take (j + 1)).zip ys = (a, b) :: ((zs.take j).zip ys ++ [(z, y)])
    rw [e]
theorem val_key {ns : List (Str × Str)} {x : Str} (h : x ∈ ns.map (·.1)) : valV (kvT ns) (Sum.inr x) = some (.str (nu ns x)) := by
  have e := val_nu x ns
  cases hv : valV (kvT ns) (Sum.inr x) with
  | none =>
    have a := valV_any (Sum.inr x : Key) (kvT ns)
    rw [hv] at a
    obtain ⟨p, hp, rfl⟩ := List.mem_map.mp h
    exact absurd (decide_eq_true rfl) (List.any_eq_false.mp a ((Sum.inr p.1 : Key), V.str p.2) (List.mem_map.mpr ⟨p, hp, rfl⟩))
  | some v =>
    rw [hv] at e
    rw [← e]
    rfl
section
variable {K : PySem.W.Frag} {CL CS CM a b la t u : Addr} {G : Hp} {ms ks : List Str} {n1 c1 : Nat} {ps : Ps} {ns : List (Str × Str)} {Q : VK} {E : XK}
theorem rb_of (sa : StoreAt CL CM G a la t ms ks ps) (hn : G b = some (.dK (kvT ns))) (hp : Sm ms ks n1 c1 ps) (h : n1 ≤ 60 ∧ c1 ≤ 60) (ke : ns.map (·.1) = ps.map (·.1)) (nb : ∀ x ∈ ps.map (·.1), nameB (nu ns x) = true) (inj : ((ps.map (·.1)).map (nu ns)).Nodup)
    (q : ∀ (x t' : Addr) (G' : Hp), Same G G' → StoreAt CL CM G' x la t' ms ks (nS ns ps) → Q (.ref x) G') : spRb CL CM CM [.ref a, .ref b] G Q E := by
  have l1 := hp.ln
  have l2 : ns.length = ps.length := by
    have := congrArg List.length ke
    rw [List.length_map, List.length_map] at this
    exact this
  refine ⟨a, la, t, b, ms, ks, ps, ns, rfl, sa, hn, hp.hs.nd, by omega, by omega, fun p hp' => ?_, nb, inj, fun p hp' => ⟨?_, fun l hl => (hp.hs.ml p hp' l hl).2⟩, fun x t' G' s _ _ st => q x t' G' s st⟩
  · rw [← ke]
    exact List.mem_map.mpr ⟨p, hp', rfl⟩
  · have e := getP_mem hp.hs.nd (show (p.1, p.2) ∈ ps from hp')
    have := hp.lk p.1
    rw [e] at this
    omega
end
/-- the new names of a part -/
structure Grf (ns : List (Str × Str)) (ps : Ps) : Prop where
  ke : (grph ns (ps.map (·.1))).map (·.1) = ps.map (·.1)
  nb : ∀ x ∈ ps.map (·.1), nameB (nu (grph ns (ps.map (·.1))) x) = true
  inj : ((ps.map (·.1)).map (nu (grph ns (ps.map (·.1))))).Nodup
theorem grf_of {ns : List (Str × Str)} {ps qs : Ps} (nd : (ps.map (·.1)).Nodup) (sub : ∀ x ∈ ps.map (·.1), x ∈ qs.map (·.1)) (nb : ∀ x ∈ qs.map (·.1), nameB (nu ns x) = true) (inj : ((qs.map (·.1)).map (nu ns)).Nodup) : Grf ns ps :=
  ⟨grph_keys _ _, fun x hx => by rw [grph_nu nd hx]; exact nb x (sub x hx), by rw [grph_map nd]; exact inj_sub nd inj sub⟩
theorem t_len : ("t" : Str).length = 1 := by decide +kernel
theorem abc_len : ("abcdefghijklmnopqrst" : Str).length = 20 := by decide +kernel
theorem grph_merge {ns : List (Str × Str)} {xs : List Str} (nd : xs.Nodup) : mergeK [] (kvT (xs.map fun x => (x, nu ns x))) = kvT (grph ns xs) := kvT_merge (ns := grph ns xs) (by rw [grph_keys]; exact nd)
section
variable {P : Program} {w : World} {K : PySem.W.Frag} {mg : Str → Option Value} {base : Heap}
theorem ok_jr {f CL CS CM : Addr} {fd : FuncData} {n : Nat} (F : Fun K "_law_joined_right" "_law_joined_right" sJr f fd) (T : J8 P w K mg base n CL CS CM) (nM : PySem.W.notFirst K CM (.ref CM) = true) (GS : CdN P w K mg base n "_law_store" ["_law_dice_here", "_law_language_here", "_law_most"] spSto) (GP : CdN P w K mg base n "_law_pick" ["_law_dice_here", "_law_items"] (spPick K)) (GFS : CdN P w K mg base (n + 2) "first_way" ["store", "thing", "other"] (spFs CL CM)) (SO : CmN P w K mg base n CS "of" (spSof CL CS CM)) (gS : mg "Store" = some (.ref CS)) (mL : mg "list" = none) (mD : mg "dict" = none) (mEn : mg "enumerate" = none) (mRg : mg "range" = none) : FnOk P w K mg base CX0 (n + 3) f fd ["_law_dice_here", "_law_language_here", "_law_base"] (spJr CL) := by
  refine F.ok scJr (fun vs H Q E h => ?_) (fun cdv A outer s H vs Q E hr h => ?_)
  · obtain ⟨d, pg, pm, pk, la, ms, ks, rfl, _⟩ := h
    rfl
  · obtain ⟨d, pg, pm, pk, la, ms, ks, rfl, dc, hg, hm, hk, cm, m3, k1, k3, hla, q⟩ := h
    have hu64 : (A.deeper (envOfC "_law_joined_right" (defScope sJr) s.heap.objs.size f cdv)).units + 64 < cLine := by have := hr.un; omega
    have hu : (A.deeper (envOfC "_law_joined_right" (defScope sJr) s.heap.objs.size f cdv)).units + 1 < cLine := by omega
    have hrn : Room n (A.deeper (envOfC "_law_joined_right" (defScope sJr) s.heap.objs.size f cdv)) := hr.mono (by omega)
    have hr1 : Room (n + 1) (A.deeper (envOfC "_law_joined_right" (defScope sJr) s.heap.objs.size f cdv)) := hr.mono (by omega)
    refine ⟨_, pss_cons (ps_asg (pe_lc (own := [("_law_turn", 13)]) (g := gName 13) (tt := tYes) (te := ClX.tCMeth CS (spSof CL CS CM) E0 (tC (.ref CS)) (tCons (tVar 2) (tCons (tCall spSto [] E0 (tCons (tVar 0) (tCons (tVar 1) (tCons (tC (.int 5)) tNil)))) tNil))) (by rfl) scJr.nd (pi_range1 rfl mRg (pa_cons pe_int pa_nil)) (blkOk_by (own := [("_law_turn", 13)]) (N := nJr) (sc := defScope sJr) (by decide +kernel)) (fun _ _ _ _ _ => pg_name (i := 13) scJr.nd rfl (Or.inl rfl)) (fun _ _ _ _ _ => pts_nil) (fun _ _ _ _ _ => pe_cmn SO hrn (pe_glob (v := .ref CS) rfl gS rfl) (pa_cons (pv 2) (pa_cons (pe_cdn GS hrn (pa_cons (pv 0) (pa_cons (pv 1) (pa_cons pe_int pa_nil)))) pa_nil)))) (pg_unl rfl (pgs_cons (pg_name (i := 3) scJr.nd rfl (.inl rfl)) (pgs_cons (pg_name (i := 4) scJr.nd rfl (.inl rfl)) (pgs_cons (pg_name (i := 5) scJr.nd rfl (.inl rfl)) pgs_nil)))))
      (pss_cons (ps_set (i := 6) scJr.nd rfl (.inr rfl) (pe_op (op_binN T.or hrn) (pv 3) (pv 4)))
      (pss_cons (ps_if (PW.pt (pw_or (pt_cmpR (op_neN T.eq T.ne.ne T.ne.mo hr1) (pv 6) (pe_op (op_binN T.or hrn) (pv 4) (pv 3)) (nomark _)) (pw_or (pt_cmpR (op_neN T.eq T.ne.ne T.ne.mo hr1) (pe_op (op_binN T.or hrn) (pe_op (op_binN T.or hrn) (pv 3) (pv 4)) (pv 5)) (pe_op (op_binN T.or hrn) (pv 3) (pe_op (op_binN T.or hrn) (pv 4) (pv 5))) (nomark _)) (pw_or1 (pt_cmpR (op_neN T.eq T.ne.ne T.ne.mo hr1) (pe_op (op_binN T.or hrn) (pv 6) (pv 3)) (pv 6) (nomark _)))))) (pss_one (ps_ret pe_bl)) pss_nil)
      (pss_cons (ps_set (i := 7) scJr.nd rfl (.inr rfl) (pe_cdn GP hrn (pa_cons (pv 0) (pa_cons (pe_callTy call_list_of (by rfl) mL (by decide +kernel) (pa_cons (pe_ppn T.cl T.pn hr1 (pv 6)) pa_nil)) pa_nil))))
      (pss_cons (ps_set (i := 8) scJr.nd rfl (.inr rfl) (pe_mtn T.cl T.re hrn (pv 6) (pa_cons (pv 7) pa_nil)))
      (pss_cons (ps_if (PW.pt (pw_or (pt_cmpR (op_neN T.eq T.ne.ne T.ne.mo hr1) (pe_mtn T.cl T.re hrn (pv 8) (pa_cons (pv 7) pa_nil)) (pv 8) (nomark _)) (pw_or (pt_cmpR (op_neN T.eq T.ne.ne T.ne.mo hr1) (pe_op (op_binN T.or hrn) (pv 8) (pv 6)) (pv 6) (nomark _)) (pw_or1 (pt_cmpR (op_notInN T.ha hrn) (pv 7) (pv 8) (by rfl)))))) (pss_one (ps_ret pe_bl)) pss_nil)
      (pss_cons (ps_if (pt_cmpR (op_neP hu64) (pe_lc (own := [("_law_end", 14)]) (g := gName 14) (tt := tTest (tOp rNe (tNotN (tCall (spFs CL CM) [] E0 (tCons (tVar 6) (tCons (tVar 7) (tCons (tVar 14) tNil))))) (tOp (rInO CM (spSha K CL CM) E0 false) (tVar 14) (tVar 8)))) (te := tVar 14) (by rfl) scJr.nd (pi_tup (pe_ppn T.cl T.pn hr1 (pv 6))) (blkOk_by (own := [("_law_end", 14)]) (N := nJr) (sc := defScope sJr) (by decide +kernel)) (fun _ _ _ _ _ => pg_name (i := 14) scJr.nd rfl (Or.inl rfl)) (fun _ _ _ _ _ => pts_one (pt_cmpR op_ne (pe_cmp (pc_notN (pe_cdn GFS hr (pa_cons (pv 6) (pa_cons (pv 7) (pa_cons (pv 14) pa_nil))))) (by rfl)) (pe_cmpR (op_inN T.ha hrn) (pv 14) (pv 8) (by rfl)) (by rfl))) (fun _ _ _ _ _ => pv 14)) (pe_lst pa_nil) (nomark _)) (pss_one (ps_ret pe_bl)) pss_nil)
      (pss_cons (ps_set (i := 9) scJr.nd rfl (.inr rfl) (pe_callTy (call_dictP rfl) (by rfl) mD (by decide +kernel) (pa_cons (pe_lc (own := [("_law_at", 15), ("_law_thing", 16)]) (g := gTup K 2 (gCons (gName 15) (gCons (gName 16) gNil))) (tt := tYes) (by rfl) scJr.nd (pi_enumT rfl mEn (pa_cons (pe_ppn T.cl T.pn hr1 (pv 6)) pa_nil)) (blkOk_by (own := [("_law_at", 15), ("_law_thing", 16)]) (N := nJr) (sc := defScope sJr) (by decide +kernel)) (fun _ _ _ _ _ => pg_tup (by rfl) (pgs_cons (pg_name (i := 15) scJr.nd rfl (Or.inl rfl)) (pgs_cons (pg_name (i := 16) scJr.nd rfl (Or.inl rfl)) pgs_nil))) (fun _ _ _ _ _ => pts_nil) (fun _ _ _ _ _ => pe_tup (pa_cons (pv 16) (pa_cons (pe_op op_add_str pe_str (pe_item_str pe_str (pv 15) (fun _ _ => rfl))) pa_nil)))) pa_nil)))
      (pss_cons (ps_set (i := 10) scJr.nd rfl (.inl rfl) (pe_mtn T.cl T.rb hrn (pv 6) (pa_cons (pv 9) pa_nil)))
      (pss_cons (ps_if (pt_cmpR (op_neN T.eq T.ne.ne T.ne.mo hr1) (pe_mtn T.cl T.re hrn (pv 10) (pa_cons (pe_dget hu (pv 9) (pv 7) (fun _ _ => rfl)) pa_nil)) (pe_mtn T.cl T.rb hrn (pv 8) (pa_cons (pe_callTy (call_dictP rfl) (by rfl) mD (by decide +kernel) (pa_cons (pe_lc (own := [("_law_thing", 16)]) (g := gName 16) (tt := tYes) (te := tTup (tCons (tVar 16) (tCons (tDGet (tVar 9) (tVar 16)) tNil))) (by rfl) scJr.nd (pi_tup (pe_ppn T.cl T.pn hr1 (pv 8))) (blkOk_by (own := [("_law_thing", 16)]) (N := nJr) (sc := defScope sJr) (by decide +kernel)) (fun _ _ _ _ _ => pg_name (i := 16) scJr.nd rfl (Or.inl rfl)) (fun _ _ _ _ _ => pts_nil) (fun _ _ _ _ _ => pe_tup (pa_cons (pv 16) (pa_cons (pe_dget hu (pv 9) (pv 16) (fun _ _ => rfl)) pa_nil)))) pa_nil)) pa_nil)) (nomark _)) (pss_one (ps_ret pe_bl)) pss_nil)
      (pss_cons (ps_set (i := 11) scJr.nd rfl (.inl rfl) (pe_callTy (call_dictP rfl) (by rfl) mD (by decide +kernel) (pa_cons (pe_lc (own := [("_law_thing", 16)]) (g := gName 16) (tt := tYes) (te := tTup (tCons (tVar 16) (tCons (tDGet (tVar 9) (tVar 16)) tNil))) (by rfl) scJr.nd (pi_tup (pe_ppn T.cl T.pn hr1 (pv 3))) (blkOk_by (own := [("_law_thing", 16)]) (N := nJr) (sc := defScope sJr) (by decide +kernel)) (fun _ _ _ _ _ => pg_name (i := 16) scJr.nd rfl (Or.inl rfl)) (fun _ _ _ _ _ => pts_nil) (fun _ _ _ _ _ => pe_tup (pa_cons (pv 16) (pa_cons (pe_dget hu (pv 9) (pv 16) (fun _ _ => rfl)) pa_nil)))) pa_nil)))
      (pss_cons (ps_set (i := 12) scJr.nd rfl (.inl rfl) (pe_callTy (call_dictP rfl) (by rfl) mD (by decide +kernel) (pa_cons (pe_lc (own := [("_law_thing", 16)]) (g := gName 16) (tt := tYes) (te := tTup (tCons (tVar 16) (tCons (tDGet (tVar 9) (tVar 16)) tNil))) (by rfl) scJr.nd (pi_tup (pe_ppn T.cl T.pn hr1 (pv 4))) (blkOk_by (own := [("_law_thing", 16)]) (N := nJr) (sc := defScope sJr) (by decide +kernel)) (fun _ _ _ _ _ => pg_name (i := 16) scJr.nd rfl (Or.inl rfl)) (fun _ _ _ _ _ => pts_nil) (fun _ _ _ _ _ => pe_tup (pa_cons (pv 16) (pa_cons (pe_dget hu (pv 9) (pv 16) (fun _ _ => rfl)) pa_nil)))) pa_nil)))
      (pss_one (ps_ret (pe_cmpR (op_eqN T.eq hrn) (pe_op (op_binN T.or hrn) (pe_mtn T.cl T.rb hrn (pv 3) (pa_cons (pv 11) pa_nil)) (pe_mtn T.cl T.rb hrn (pv 4) (pa_cons (pv 12) pa_nil))) (pv 10) (nomark _))))))))))))))), ?_⟩
    -- three stores
    refine ⟨3, rfl, by decide, by decide, fun D nD => ?_⟩
    have dD : d ≠ D := dice_ne dc nD
    refine lc_it (walk_range (lo := 0) (n := 3)) (fun j G => Nr d H G ∧ Dice G d ∧ ∃ es : List (Addr × Addr × Ps), G D = some (.lst (es.map fun e => .ref e.1)) ∧ es.length = j ∧ ∀ e ∈ es, StoreAt CL CM G e.1 la e.2.1 ms ks e.2.2 ∧ Sm ms ks 5 4 e.2.2 ∧ 1 ≤ e.2.2.length) ⟨(same_new nD).nr, dc.same (same_new nD), [], upd_same, rfl, (fun e he => nomatch he)⟩ (fun j G _ p => trivial) (fun j x G1 G2 hj p y => ?_) fun G p => ?_
    · obtain ⟨nr, dcG, es, eD, le, hes⟩ := p
      obtain ⟨rfl, rfl⟩ := y
      refine ⟨by simp [wipe], ?_⟩
      unfold tYes
      simp only [↓reduceIte]
      have kq := nr.kq dc
      refine ⟨rfl, .ref la, rfl, .ref d, rfl, .ref pg, rfl, d, pg, pm, pk, ms, ks, 5, rfl, dcG, kq.tup hg, kq.tup hm, kq.tup hk, cm, by omega, k1, by omega, by decide, by decide, fun t kvs ps G3 nr3 dc3 nt ht hps pst wd p1 p5 => ?_⟩
      refine ⟨la, t, ms, ks, kvs, ps, rfl, (hla.kq kq).kq (nr3.kq dcG), ht, hps, pst.sin, fun a u G4 s4 na nu st4 => ?_⟩
      have eD4 := s4 _ _ (nr3 _ _ dD.symm eD)
      have NR4 : Nr d H G4 := nr.trans (nr3.trans s4.nr)
      refine ⟨_, eD4, by rw [List.length_map]; exact small1000 (by omega), fun c o ne e => ?_, ?_, es ++ [(a, u, normS ps)], by rw [upd_same, List.map_append]; rfl, by rw [List.length_append, List.length_singleton, le], fun e he => ?_⟩
      · rw [upd_ne (ne_of_none e nD)]
        exact NR4 c o ne e
      · obtain ⟨x1, x2, x3, h, e⟩ := dc3.same s4
        exact ⟨x1, x2, x3, h, by rw [upd_ne dD]; exact e⟩
      · rcases List.mem_append.mp he with h | h
        · obtain ⟨h1, h2⟩ := hes e h
          exact ⟨store_app ((h1.nr nr3 dcG).same s4) eD4, h2⟩
        · rw [List.mem_singleton.mp h]
          have pm' := normS_perm pst.nd pst.nrm
          refine ⟨store_app st4 eD4, ⟨pst.hs.perm pm', by show (normS ps).length ≤ 5; rw [pm'.length_eq]; exact p5, fun z => ?_⟩, by show 1 ≤ (normS ps).length; rw [pm'.length_eq]; exact p1⟩
          show (getP (normS ps) z).2.items.length ≤ 4
          rw [get_perm (normS_nd ps) pm' z]
          by_cases m : z ∈ ps.map (·.1)
          · exact (pst.th _ (mem_names pst.nd m)).l2
          · exact get_len0 m
    obtain ⟨nr, dcG, es, eD, le, hes⟩ := p
    obtain ⟨⟨o1, t1, p1⟩, ⟨o2, t2, p2⟩, ⟨o3, t3, p3⟩, rfl⟩ : ∃ a b c, es = [a, b, c] := by
      match es, le with
      | [a, b, c], _ => exact ⟨a, b, c, rfl⟩
    obtain ⟨S1, M1, L1⟩ := hes (o1, t1, p1) (by simp)
    obtain ⟨S2, M2, _⟩ := hes (o2, t2, p2) (by simp)
    obtain ⟨S3, M3, _⟩ := hes (o3, t3, p3) (by simp)
    replace S1 : StoreAt CL CM G o1 la t1 ms ks p1 := S1
    replace S2 : StoreAt CL CM G o2 la t2 ms ks p2 := S2
    replace S3 : StoreAt CL CM G o3 la t3 ms ks p3 := S3
    replace M1 : Sm ms ks 5 4 p1 := M1
    replace M2 : Sm ms ks 5 4 p2 := M2
    replace M3 : Sm ms ks 5 4 p3 := M3
    replace L1 : 1 ≤ p1.length := L1
    refine ⟨D, _, rfl, lst_of eD, rfl, _, _, rfl, _, _, rfl, _, _, rfl, rfl, ?_⟩
    clear hes eD le hla hg hm hk
    -- joined in any order
    refine ⟨.ref o1, rfl, .ref o2, rfl, bin_of S1 S2 m3 M1 M2 ⟨by decide, by decide⟩ fun o6 t6 G1 s1 S6 => ?_⟩
    have M6 : Sm ms ks 10 8 (bS p1 p2) := M1.bS M2
    have nr1 := nr.trans s1.nr
    have dc1 := dcG.same s1
    replace S1 := S1.same s1
    replace S2 := S2.same s1
    replace S3 := S3.same s1
    clear s1 nr dcG
    refine ⟨.ref o6, rfl, .ref o2, rfl, .ref o1, rfl, bin_of S2 S1 m3 M2 M1 ⟨by decide, by decide⟩ fun x1 u1 G2 s2 X1 => neq_of nM (S6.same s2) X1 (both_comm_same M1.hs.nd M2.hs.nd) ⟨false, rfl, iteF ?_⟩⟩
    refine ⟨.ref o1, rfl, .ref o2, rfl, bin_of (S1.same s2) (S2.same s2) m3 M1 M2 ⟨by decide, by decide⟩ fun a1 v1 G3 s3 A1 => ?_⟩
    have T3 : Same G1 G3 := s2.trans s3
    refine ⟨.ref o3, rfl, bin_of A1 (S3.same T3) m3 M6 M3 ⟨by decide, by decide⟩ fun a2 v2 G4 s4 A2 => ?_⟩
    have T4 := T3.trans s4
    refine ⟨.ref o1, rfl, .ref o2, rfl, .ref o3, rfl, bin_of (S2.same T4) (S3.same T4) m3 M2 M3 ⟨by decide, by decide⟩ fun a3 v3 G5 s5 A3 => ?_⟩
    have T5 := T4.trans s5
    refine bin_of (S1.same T5) A3 m3 M1 (M2.bS M3) ⟨by decide, by decide⟩ fun a4 v4 G6 s6 A4 => neq_of nM ((A2.same s5).same s6) A4 (bS_assoc M1.hs.nd M2.hs.nd M3.hs.nd) ⟨false, rfl, iteF ?_⟩
    have T6 := T5.trans s6
    refine ⟨.ref o6, rfl, .ref o1, rfl, bin_of (S6.same T6) (S1.same T6) m3 M6 M1 ⟨by decide, by decide⟩ fun b1 w1 G7 s7 B1 => ⟨.ref o6, rfl, neq_of nM B1 (S6.same (T6.trans s7)) (bS_again M1.hs.nd M2.hs.nd M1.hs.nm) ⟨false, rfl, iteF ?_⟩⟩⟩
    have T7 := T6.trans s7
    clear A1 A2 A3 A4 B1 X1 s2 s3 s4 s5 s6 s7 T3 T4 T5 T6
    replace S1 := S1.same T7
    replace S2 := S2.same T7
    replace S6 := S6.same T7
    have dc7 := dc1.same T7
    have nr7 : Nr d H G7 := nr1.trans T7.nr
    clear S3 M3 T7 dc1 nr1
    -- what is reached
    obtain ⟨dx, fs, uvs, g1, g2, g3, g4, g5, g6, g7⟩ := id S6
    refine ⟨.ref d, rfl, .ref o6, rfl, o6, dx, fs, rfl, g1, o6, la, t6, ms, ks, _, rfl, S6, fun pn G8 s8 nn en => ?_⟩
    refine ⟨pn, _, rfl, .inr (tup_of en), fun pc nc => ?_⟩
    have e9 : (upd G8 pc (.lst (((bS p1 p2).map (·.1)).map V.str))) pc = some (.lst (((bS p1 p2).map (·.1)).map V.str)) := upd_same
    have s9 : Same G8 (upd G8 pc (.lst (((bS p1 p2).map (·.1)).map V.str))) := same_new nc
    generalize upd G8 pc (.lst (((bS p1 p2).map (·.1)).map V.str)) = G9 at *
    have T9 : Same G7 G9 := s8.trans s9
    have l6 := M6.ln
    refine ⟨d, pc, _, rfl, dc7.same T9, e9, dice_ne (dc7.same s8) nc, fun h => ?_, by rw [List.length_map, List.length_map]; omega, fun v G10 mv nr10 dc10 => ?_⟩
    · obtain ⟨p, hp⟩ := List.exists_mem_of_length_pos (show 0 < p1.length by omega)
      have m := (bS_mem (ps := p1) (qs := p2)).mpr (.inl (List.mem_map.mpr ⟨p, hp, rfl⟩))
      rw [List.map_eq_nil_iff.mp h] at m
      cases m
    obtain ⟨z, mz, rfl⟩ := List.mem_map.mp mv
    have NR10 : Nr d H G10 := nr7.trans (T9.nr.trans nr10)
    replace S1 := (S1.same T9).nr nr10 (dc7.same T9)
    replace S2 := (S2.same T9).nr nr10 (dc7.same T9)
    replace S6 := (S6.same T9).nr nr10 (dc7.same T9)
    clear g1 g2 g3 g4 g5 g6 g7 s8 nn en nc s9 e9 T9 nr10 dc7 nr7 mv L1
    obtain ⟨dx, fs, uvs, g1, g2, g3, g4, g5, g6, g7⟩ := id S6
    refine ⟨.ref o6, rfl, o6, dx, fs, rfl, g1, look_none g7 (by decide +kernel), .str z, rfl, o6, la, t6, ms, ks, _, z, rfl, S6, mz, M6.hs.nd, hs_cls M6.hs, by omega, fun o8 t8 ws G11 s11 _ _ nw rc sub S8 => ?_⟩
    replace S8 : StoreAt CL CM G11 o8 la t8 ms ks (rS (bS p1 p2) ws) := S8
    have M8 : Sm ms ks 10 8 (rS (bS p1 p2) ws) := M6.rS nw rc mz
    have l8 := M8.ln
    have z8 : z ∈ (rS (bS p1 p2) ws).map (·.1) := rS_mem.mpr ((rc z).mpr .here)
    obtain ⟨dy, gs, uvs', j1, j2, j3, j4, j5, j6, j7⟩ := id S8
    refine ⟨.ref o8, rfl, o8, dy, gs, rfl, j1, look_none j7 (by decide +kernel), .str z, rfl, o8, la, t8, ms, ks, _, z, rfl, S8, z8, M8.hs.nd, hs_cls M8.hs, by omega, fun c1 v1 ws' G12 s12 _ _ nw' rc' sub' C1 => ?_⟩
    refine ⟨.ref o8, rfl, neq_of nM C1 (S8.same s12) (rS_again nw rc nw' rc') ⟨false, rfl, iteF ?_⟩⟩
    have T12 := s11.trans s12
    refine ⟨.ref o8, rfl, .ref o6, rfl, bin_of (S8.same s12) (S6.same T12) m3 M8 M6 ⟨by decide, by decide⟩ fun c2 v2 G13 s13 C2 => ⟨.ref o6, rfl, neq_of nM C2 (S6.same (T12.trans s13)) (rS_both M6.hs nw sub) ⟨false, rfl, iteF ?_⟩⟩⟩
    have T13 := T12.trans s13
    refine ⟨.str z, rfl, .ref o8, rfl, o8, dy, gs, rfl, (s12.trans s13) _ _ j1, o8, la, t8, ms, ks, _, .str z, rfl, S8.same (s12.trans s13), .inr ⟨z, rfl, ?_⟩⟩
    rw [decide_eq_true z8]
    refine ⟨true, rfl, false, rfl, iteF ?_⟩
    replace S1 := S1.same T13
    replace S2 := S2.same T13
    replace S6 := S6.same T13
    replace S8 := S8.same (s12.trans s13)
    replace NR10 : Nr d H G13 := NR10.trans T13.nr
    replace dc10 := dc10.same T13
    clear g1 g2 g3 g4 g5 g6 g7 j1 j2 j3 j4 j5 j6 j7 C1 C2 T12 T13 s11 s12 s13 nw' rc' sub'
    -- ways
    obtain ⟨dx, fs, uvs, g1, g2, g3, g4, g5, g6, g7⟩ := id S6
    refine ⟨.ref o6, rfl, o6, dx, fs, rfl, g1, o6, la, t6, ms, ks, _, rfl, S6, fun pn G14 s14 nn en => ?_⟩
    refine ⟨pn, rfl, ⟨_, tup_of en⟩, fun D nD => ?_⟩
    refine lc_on (h := V.str) (xs := (bS p1 p2).map (·.1)) (by have := walk_tup (K := K) (a := pn) (xs := ((bS p1 p2).map (·.1)).map V.str); rw [List.length_map] at this; exact this) rfl (fun _ => false) V.str nD (fun H' s' => tup_of (s' _ _ en)) (by rw [List.length_map]; omega) (fun y my H' s' Q' q' => ?_) (fun _ _ c => by cases c) fun G15 s15 e15 => ?_
    · have S6' := S6.same (s14.trans s')
      refine ⟨.ref o6, rfl, .str z, rfl, .str y, rfl, o6, la, t6, ms, ks, _, z, y, rfl, S6', M6.hs.nd, mz, my, hs_cls M6.hs, by omega, fun v b H2 s2 hb hv => ?_⟩
      have S8' := S8.same ((s14.trans s').trans s2)
      obtain ⟨dy, gs, i8⟩ := S8'.ins
      refine ⟨.str y, rfl, .ref o8, rfl, o8, dy, gs, rfl, i8, o8, la, t8, ms, ks, _, .str y, rfl, S8', .inr ⟨y, rfl, _, rfl, rfl, false, ?_, q' H2 s2⟩⟩
      have eb : b = decide (y ∈ (rS (bS p1 p2) ws).map (·.1)) := by
        rw [Bool.eq_iff_iff, hb, decide_eq_true_iff, rS_mem, rc]
      rw [hv, Bool.not_not, eb, if_neg Bool.false_ne_true, decide_eq_true rfl]
      rfl
    have e15' : G15 D = some (.lst []) := by
      rw [e15, List.filter_eq_nil_iff.mpr (fun _ _ => Bool.false_ne_true)]
      rfl
    refine cmp_nil true (lst_of e15') (fun x hx => nomatch hx) fun G16 s16 => ⟨false, rfl, iteF ?_⟩
    have T16 : Same G13 G16 := s14.trans (s15.trans s16)
    replace S1 := S1.same T16
    replace S2 := S2.same T16
    replace S6 := S6.same T16
    replace S8 := S8.same T16
    replace NR10 : Nr d H G16 := NR10.trans T16.nr
    replace dc10 := dc10.same T16
    clear g1 g2 g3 g4 g5 g6 g7 s14 s15 s16 e15 e15' en nn T16 nD
    -- new names
    have nd6 := M6.hs.nd
    have lz : ((bS p1 p2).map (·.1)).length ≤ 10 := by rw [List.length_map]; exact l6
    obtain ⟨dx, fs, i6⟩ := S6.ins
    refine ⟨.ref o6, rfl, o6, dx, fs, rfl, i6, o6, la, t6, ms, ks, _, rfl, S6, fun pn G17 s17 nn en => ?_⟩
    refine ⟨pn, _, rfl, tup_of en, fun D nD => ?_⟩
    refine lc_it (walk_enumT (K := K) (a := pn) (xs := ((bS p1 p2).map (·.1)).map V.str)) (fun j G => Same G17 G ∧ ∃ ts : List Addr, G D = some (.lst (ts.map V.ref)) ∧ Paired (fun (p : Addr) (kv : Key × V) => G p = some (.tup [kV kv.1, kv.2])) ts (kvT ((((bS p1 p2).map (·.1)).take j).zip tl)) ∧ ts.length = j) ⟨same_new nD, [], upd_same, .nil, rfl⟩ (fun j G _ p => p.1 _ _ en) (fun j x G1 G2 hj p y => ?_) fun G p => ?_
    · obtain ⟨sG, ts, eD, pt, lt⟩ := p
      obtain ⟨T1, x1, y1, rfl, nT, rfl, ex1, ey⟩ := y
      have ex2 : x1 = .int (j : Nat) := (Option.some.inj ex1).symm
      subst ex2
      have hj' : j < ((bS p1 p2).map (·.1)).length := by simpa using hj
      have ey : (((bS p1 p2).map (·.1)).map V.str)[j]? = some y1 := ey
      rw [List.getElem?_map, List.getElem?_eq_getElem hj'] at ey
      have ey' : V.str ((bS p1 p2).map (·.1))[j] = y1 := Option.some.inj ey
      subst ey'
      have ez : ((bS p1 p2).map (·.1))[j]? = some ((bS p1 p2).map (·.1))[j] := List.getElem?_eq_getElem hj'
      generalize ((bS p1 p2).map (·.1))[j] = zj at ez ⊢
      have g3 : (upd G1 T1 (.tup [.int (j : Nat), .str zj])) T1 = some (.tup [.int (j : Nat), .str zj]) := upd_same
      have s3 : Same G1 (upd G1 T1 (.tup [.int (j : Nat), .str zj])) := same_new nT
      generalize upd G1 T1 (.tup [.int (j : Nat), .str zj]) = G3 at *
      obtain ⟨c, hc, etl⟩ : ∃ c, ("abcdefghijklmnopqrst" : Str).cps[j]? = some c ∧ tl[j]? = some (("t" : Str) ++ ⟨#[c]⟩) := by
        have h := tl_at j (by omega)
        cases hc : ("abcdefghijklmnopqrst" : Str).cps[j]? with
        | none =>
          rw [hc] at h
          have q : tl[j]? = none := h.symm
          rw [List.getElem?_eq_none_iff] at q
          exact absurd q (by show ¬ 20 ≤ j; omega)
        | some c =>
          rw [hc] at h
          exact ⟨c, rfl, h.symm⟩
      refine ⟨T1, _, rfl, tup_of g3, rfl, _, _, rfl, _, _, rfl, rfl, rfl, ?_⟩
      unfold tYes
      simp only [↓reduceIte]
      refine ⟨.str zj, rfl, .int (j : Nat), rfl, _, _, c, rfl, rfl, by omega, by omega, by rw [abc_len]; omega, by rw [Int.toNat_natCast]; exact hc, _, _, rfl, rfl, by rw [t_len]; show 1 + 1 ≤ sizeLine; decide, by show 2 ≤ sizeLine; decide, fun p3 n3 => ?_⟩
      have e4 : (upd G3 p3 (.tup [.str zj, .str (("t" : Str) ++ ⟨#[c]⟩)])) p3 = some (.tup [.str zj, .str (("t" : Str) ++ ⟨#[c]⟩)]) := upd_same
      have s4 : Same G3 (upd G3 p3 (.tup [.str zj, .str (("t" : Str) ++ ⟨#[c]⟩)])) := same_new n3
      generalize upd G3 p3 (.tup [.str zj, .str (("t" : Str) ++ ⟨#[c]⟩)]) = G4 at *
      have dD' := s4 _ _ (s3 _ _ eD)
      have nDp : ∀ b xs, G4 b = some (.tup xs) → (upd G4 D (.lst (ts.map V.ref ++ [.ref p3]))) b = some (.tup xs) := fun b xs eb => by
        rw [upd_ne (ne_of eb dD' (fun z' => nomatch z'))]
        exact eb
      refine ⟨_, dD', by rw [List.length_map]; exact small1000 (by omega), ((sG.trans s3).trans s4).mut nD, ts ++ [p3], by rw [upd_same, List.map_append]; rfl, ?_, by rw [List.length_append, List.length_singleton, lt]⟩
      rw [zip_snoc ez etl]
      unfold kvT
      rw [List.map_append]
      exact paired_app (Paired.mapP pt fun p kv h => nDp _ _ (s4 _ _ (s3 _ _ h))) (nDp _ _ e4)
    obtain ⟨sG, ts, eD, pt, lt⟩ := p
    rw [List.length_map, List.take_length] at pt
    refine ⟨D, ts, _, rfl, lst_of eD, Paired.mapP pt fun _ _ h => tup_of h, fun pw npw => ?_⟩
    have kz := zip_keys (zs := (bS p1 p2).map (·.1)) (by omega)
    rw [kvT_merge (by rw [kz]; exact nd6)]
    have injN : (((bS p1 p2).map (·.1)).map (nu (((bS p1 p2).map (·.1)).zip tl))).Nodup := by
      rw [zip_inj nd6 (by omega)]
      exact tl_nd.sublist (List.take_sublist _ _)
    have nbN : ∀ x ∈ (bS p1 p2).map (·.1), nameB (nu (((bS p1 p2).map (·.1)).zip tl) x) = true := fun x hx => by
      have m : nu (((bS p1 p2).map (·.1)).zip tl) x ∈ ((bS p1 p2).map (·.1)).map (nu (((bS p1 p2).map (·.1)).zip tl)) := List.mem_map.mpr ⟨x, hx, rfl⟩
      rw [zip_inj nd6 (by omega)] at m
      exact tl_ok _ (List.mem_of_mem_take m)
    generalize ((bS p1 p2).map (·.1)).zip tl = ns at pt kz injN nbN ⊢
    have e18 : (upd G pw (.dK (kvT ns))) pw = some (.dK (kvT ns)) := upd_same
    have s18 : Same G (upd G pw (.dK (kvT ns))) := same_new npw
    generalize upd G pw (.dK (kvT ns)) = G18 at *
    have T18 : Same G16 G18 := s17.trans (sG.trans s18)
    replace S1 := S1.same T18
    replace S2 := S2.same T18
    replace S6 := S6.same T18
    replace S8 := S8.same T18
    replace NR10 : Nr d H G18 := NR10.trans T18.nr
    replace dc10 := dc10.same T18
    have kin : ∀ x ∈ (bS p1 p2).map (·.1), valV (kvT ns) (Sum.inr x) = some (.str (nu ns x)) := fun x hx => val_key (by rw [kz]; exact hx)
    clear s17 sG s18 T18 nn en nD eD pt npw lt i6
    -- moved
    obtain ⟨dx, fs, uvs, g1, g2, g3, g4, g5, g6, g7⟩ := id S6
    refine ⟨.ref o6, rfl, o6, dx, fs, rfl, g1, look_none g7 (by decide +kernel), .ref pw, rfl, ?_⟩
    dsimp only [tNil]
    refine rb_of S6 e18 M6 ⟨by decide, by decide⟩ kz nbN injN fun o10 t10 G19 s19 S10 => ?_
    have M10 : Sm ms ks 10 8 (nS ns (bS p1 p2)) := M6.nS injN nbN
    have l10 := M10.ln
    have d19 := s19 _ _ e18
    replace S1 := S1.same s19
    replace S2 := S2.same s19
    replace S8 := S8.same s19
    replace NR10 : Nr d H G19 := NR10.trans s19.nr
    replace dc10 := dc10.same s19
    clear S6 g1 g2 g3 g4 g5 g6 g7 s19 e18
    obtain ⟨dx, fs, uvs, g1, g2, g3, g4, g5, g6, g7⟩ := id S10
    have mzM : nu ns z ∈ (nS ns (bS p1 p2)).map (·.1) := nS_mem.mpr ⟨z, mz, rfl⟩
    refine ⟨.ref o10, rfl, o10, dx, fs, rfl, g1, look_none g7 (by decide +kernel), .ref pw, rfl, .str z, rfl, pw, .str (nu ns z), rfl, .inl ⟨kvT ns, Sum.inr z, .inl d19, rfl, by rw [kin z mz]⟩, o10, la, t10, ms, ks, _, nu ns z, rfl, S10, mzM, M10.hs.nd, hs_cls M10.hs, by omega, fun e1 v1 wsM G20 s20 _ _ nwM rcM subM E1 => ?_⟩
    replace E1 : StoreAt CL CM G20 e1 la v1 ms ks (rS (nS ns (bS p1 p2)) wsM) := E1
    have sub8 : ∀ x ∈ (rS (bS p1 p2) ws).map (·.1), x ∈ (bS p1 p2).map (·.1) := fun x hx => sub x (rS_mem.mp hx)
    have sub1 : ∀ x ∈ p1.map (·.1), x ∈ (bS p1 p2).map (·.1) := fun x hx => bS_mem.mpr (.inl hx)
    have sub2 : ∀ x ∈ p2.map (·.1), x ∈ (bS p1 p2).map (·.1) := fun x hx => bS_mem.mpr (.inr hx)
    have g8 : Grf ns (rS (bS p1 p2) ws) := grf_of M8.hs.nd sub8 nbN injN
    have g1' : Grf ns p1 := grf_of M1.hs.nd sub1 nbN injN
    have g2' : Grf ns p2 := grf_of M2.hs.nd sub2 nbN injN
    have l1 := M1.ln
    have l2 := M2.ln
    obtain ⟨dy, gs, uvs', j1, j2, j3, j4, j5, j6, j7⟩ := id (S8.same s20)
    refine ⟨.ref o8, rfl, o8, dy, gs, rfl, j1, look_none j7 (by decide +kernel), ?_⟩
    obtain ⟨dxa, fsa, ia⟩ := StoreAt.ins (S8.same s20)
    refine ⟨.ref o8, rfl, o8, dxa, fsa, rfl, ia, o8, la, t8, ms, ks, _, rfl, S8.same s20, fun pna Xa sxa nna ena => ?_⟩
    refine ⟨pna, rfl, ⟨_, tup_of ena⟩, fun Da nDa => ?_⟩
    refine lc_pairs (g := fun x => (x, nu ns x)) (xs := (rS (bS p1 p2) ws).map (·.1)) (by have := walk_tup (K := K) (a := pna) (xs := ((rS (bS p1 p2) ws).map (·.1)).map V.str); rw [List.length_map] at this; exact this) nDa (fun Y s => tup_of (s _ _ ena)) (by rw [List.length_map]; omega) (fun x hx Y s R' hR => ?_) fun Ya tsa sya eya pya => ?_
    · exact ⟨.str x, rfl, .ref pw, rfl, .str x, rfl, pw, .str (nu ns x), rfl, .inl ⟨kvT ns, Sum.inr x, .inl (s _ _ (sxa _ _ (s20 _ _ d19))), rfl, by rw [kin x (sub8 x hx)]⟩, by show 2 ≤ sizeLine; decide, hR⟩
    refine ⟨Da, tsa, _, rfl, lst_of eya, Paired.mapP pya fun _ _ h => tup_of h, fun qa nqa => ?_⟩
    rw [grph_merge M8.hs.nd]
    have eza : (upd Ya qa (.dK (kvT (grph ns ((rS (bS p1 p2) ws).map (·.1)))))) qa = some (.dK (kvT (grph ns ((rS (bS p1 p2) ws).map (·.1))))) := upd_same
    have sza : Same Ya (upd Ya qa (.dK (kvT (grph ns ((rS (bS p1 p2) ws).map (·.1)))))) := same_new nqa
    generalize upd Ya qa (.dK (kvT (grph ns ((rS (bS p1 p2) ws).map (·.1))))) = Za at *
    have Ta : Same G20 Za := sxa.trans (sya.trans sza)
    dsimp only [tNil]
    refine rb_of ((S8.same s20).same Ta) eza M8 ⟨by decide, by decide⟩ g8.ke g8.nb g8.inj fun e2 v2 G22 s22 E2 => ?_
    refine neq_of nM (E1.same (Ta.trans s22)) E2 (moved_same M6.hs injN mz nw rc nwM rcM) ⟨false, rfl, iteF ?_⟩
    have T22 : Same G19 G22 := s20.trans (Ta.trans s22)
    replace S1 := S1.same T22
    replace S2 := S2.same T22
    replace S10 := S10.same T22
    replace NR10 : Nr d H G22 := NR10.trans T22.nr
    replace dc10 := dc10.same T22
    replace d19 := T22 _ _ d19
    clear E1 E2 S8 s20 Ta s22 T22 eza j1 j2 j3 j4 j5 j6 j7 g1 g2 g3 g4 g5 g6 g7
    -- each renamed
    obtain ⟨dxb, fsb, ib⟩ := StoreAt.ins (S1)
    refine ⟨.ref o1, rfl, o1, dxb, fsb, rfl, ib, o1, la, t1, ms, ks, _, rfl, S1, fun pnb Xb sxb nnb enb => ?_⟩
    refine ⟨pnb, rfl, ⟨_, tup_of enb⟩, fun Db nDb => ?_⟩
    refine lc_pairs (g := fun x => (x, nu ns x)) (xs := (p1).map (·.1)) (by have := walk_tup (K := K) (a := pnb) (xs := ((p1).map (·.1)).map V.str); rw [List.length_map] at this; exact this) nDb (fun Y s => tup_of (s _ _ enb)) (by rw [List.length_map]; omega) (fun x hx Y s R' hR => ?_) fun Yb tsb syb eyb pyb => ?_
    · exact ⟨.str x, rfl, .ref pw, rfl, .str x, rfl, pw, .str (nu ns x), rfl, .inl ⟨kvT ns, Sum.inr x, .inl (s _ _ (sxb _ _ (d19))), rfl, by rw [kin x (sub1 x hx)]⟩, by show 2 ≤ sizeLine; decide, hR⟩
    refine ⟨Db, tsb, _, rfl, lst_of eyb, Paired.mapP pyb fun _ _ h => tup_of h, fun qb nqb => ?_⟩
    rw [grph_merge M1.hs.nd]
    have ezb : (upd Yb qb (.dK (kvT (grph ns ((p1).map (·.1)))))) qb = some (.dK (kvT (grph ns ((p1).map (·.1))))) := upd_same
    have szb : Same Yb (upd Yb qb (.dK (kvT (grph ns ((p1).map (·.1)))))) := same_new nqb
    generalize upd Yb qb (.dK (kvT (grph ns ((p1).map (·.1))))) = Zb at *
    have Tb : Same G22 Zb := sxb.trans (syb.trans szb)
    obtain ⟨dxc, fsc, ic⟩ := StoreAt.ins (S2.same Tb)
    refine ⟨.ref o2, rfl, o2, dxc, fsc, rfl, ic, o2, la, t2, ms, ks, _, rfl, S2.same Tb, fun pnc Xc sxc nnc enc => ?_⟩
    refine ⟨pnc, rfl, ⟨_, tup_of enc⟩, fun Dc nDc => ?_⟩
    refine lc_pairs (g := fun x => (x, nu ns x)) (xs := (p2).map (·.1)) (by have := walk_tup (K := K) (a := pnc) (xs := ((p2).map (·.1)).map V.str); rw [List.length_map] at this; exact this) nDc (fun Y s => tup_of (s _ _ enc)) (by rw [List.length_map]; omega) (fun x hx Y s R' hR => ?_) fun Yc tsc syc eyc pyc => ?_
    · exact ⟨.str x, rfl, .ref pw, rfl, .str x, rfl, pw, .str (nu ns x), rfl, .inl ⟨kvT ns, Sum.inr x, .inl (s _ _ (sxc _ _ (Tb _ _ d19))), rfl, by rw [kin x (sub2 x hx)]⟩, by show 2 ≤ sizeLine; decide, hR⟩
    refine ⟨Dc, tsc, _, rfl, lst_of eyc, Paired.mapP pyc fun _ _ h => tup_of h, fun qc nqc => ?_⟩
    rw [grph_merge M2.hs.nd]
    have ezc : (upd Yc qc (.dK (kvT (grph ns ((p2).map (·.1)))))) qc = some (.dK (kvT (grph ns ((p2).map (·.1))))) := upd_same
    have szc : Same Yc (upd Yc qc (.dK (kvT (grph ns ((p2).map (·.1)))))) := same_new nqc
    generalize upd Yc qc (.dK (kvT (grph ns ((p2).map (·.1))))) = Zc at *
    have Tc : Same Zb Zc := sxc.trans (syc.trans szc)
    have ezb' := Tc _ _ ezb
    have Td : Same G22 Zc := Tb.trans Tc
    replace S1 := S1.same Td
    replace S2 := S2.same Td
    replace S10 := S10.same Td
    obtain ⟨dx, fs, uvs, g1, g2, g3, g4, g5, g6, g7⟩ := id S1
    refine ⟨.ref o1, rfl, o1, dx, fs, rfl, g1, look_none g7 (by decide +kernel), .ref qb, rfl, ?_⟩
    dsimp only [tNil]
    refine rb_of S1 ezb' M1 ⟨by decide, by decide⟩ g1'.ke g1'.nb g1'.inj fun r1 w1 G24 s24 R1 => ?_
    obtain ⟨dy, gs, uvs', j1, j2, j3, j4, j5, j6, j7⟩ := id (S2.same s24)
    refine ⟨.ref o2, rfl, o2, dy, gs, rfl, j1, look_none j7 (by decide +kernel), .ref qc, rfl, ?_⟩
    dsimp only [tNil]
    refine rb_of (S2.same s24) (s24 _ _ ezc) M2 ⟨by decide, by decide⟩ g2'.ke g2'.nb g2'.inj fun r2 w2 G25 s25 R2 => ?_
    refine bin_of (R1.same s25) R2 m3 (M1.nS g1'.inj g1'.nb) (M2.nS g2'.inj g2'.nb) ⟨by decide, by decide⟩ fun r3 w3 G26 s26 R3 => ?_
    have Te : Same G22 G26 := Td.trans (s24.trans (s25.trans s26))
    exact ⟨.ref o10, rfl, eq_of nM R3 (S10.same (s24.trans (s25.trans s26))) (joined_same M1.hs M2.hs injN) (q G26 (NR10.trans Te.nr) (dc10.same Te))⟩
end
end Tf

/-! the law -/
namespace Tf
open PySem PySem.Spec PyProof.Rows L2 PySem.W
abbrev sLaw8 : Stmt := top 51
abbrev nLaw8 : List Str := ["_law_script", "_law_spot", "_law_dice_here", "_law_language_here", "_law_base", "_law_store_here"]
theorem scLaw8 : FnScope nLaw8 ["_law_script"] (defScope sLaw8) := ⟨rfl, rfl, rfl, by decide +kernel, rfl, by decide +kernel, by decide +kernel⟩
def spLaw8 (K : PySem.W.Frag) : Sp := fun vs H Q _ => ∃ (a : Addr) (ns : List Int), vs = [.ref a] ∧ SqL K H a (ns.map V.int) ∧ ns.length ≤ 63 ∧ ∀ H', Q (.bl true) H'
theorem sql_keep {K : PySem.W.Frag} {H H1 H2 : Hp} {a d : Addr} {xs : List V} (h : SqL K H a xs) (nd : H d = none) (s : Same H H1) (n : Nr d H1 H2) : SqL K H2 a xs := by
  rcases h with (h | ⟨o, h⟩) | h
  · exact .inl (.inl (n _ _ (ne_of_none h nd) (s _ _ h)))
  · exact .inl (.inr ⟨o, n _ _ (ne_of_none h nd) (s _ _ h)⟩)
  · exact .inr h
section
variable {P : Program} {w : World} {K : PySem.W.Frag} {mg : Str → Option Value} {base : Heap}
theorem ok_law8 {f fI CL CS CM : Addr} {fd : FuncData} {n : Nat} (F : Fun K "law" "law" sLaw8 f fd) (GDi : CdN P w K mg base n "_law_dice" ["_law_script", "_law_spot"] (spDice K)) (GL : CdN P w K mg base n "_law_language" ["_law_dice_here", "_law_marks", "_law_sorts"] spLg) (GS : CdN P w K mg base n "_law_store" ["_law_dice_here", "_law_language_here", "_law_most"] spSto) (GF : CdN P w K mg base n "_law_flat" ["_law_store_here"] spFt)
    (GH : CdN P w K mg base (n + 2) "_law_history_right" ["_law_dice_here", "_law_language_here", "_law_made", "_law_flat_here"] (spHr CL CS CM)) (GJ : CdN P w K mg base (n + 3) "_law_joined_right" ["_law_dice_here", "_law_language_here", "_law_base"] (spJr CL))
    (LO : CmN P w K mg base n CL "of" (spLof K CL)) (SO : CmN P w K mg base n CS "of" (spSof CL CS CM)) (gL : mg "Language" = some (.ref CL)) (gS : mg "Store" = some (.ref CS)) (MS : Mk K CS fI) (I0 : FnR P w K mg base CX0 n fI (spSin0 CL CS))
    (mRg : mg "range" = none) (mMx : mg "max" = none) (mMn : mg "min" = none) (mN : mg "len" = none) : FnOk P w K mg base CX0 (n + 4) f fd ["_law_script"] (spLaw8 K) := by
  refine F.ok scLaw8 (fun vs H Q E h => ?_) (fun cdv A outer s H vs Q E hr h => ?_)
  · obtain ⟨a, ns, rfl, _⟩ := h
    rfl
  · obtain ⟨a, ns, rfl, hS, hl, q⟩ := h
    have hrn : Room n (A.deeper (envOfC "law" (defScope sLaw8) s.heap.objs.size f cdv)) := hr.mono (by omega)
    have hr1 : Room (n + 1) (A.deeper (envOfC "law" (defScope sLaw8) s.heap.objs.size f cdv)) := hr.mono (by omega)
    have hr2 : Room (n + 2) (A.deeper (envOfC "law" (defScope sLaw8) s.heap.objs.size f cdv)) := hr.mono (by omega)
    refine ⟨_, pss_cons (ps_for PassesOwn.never rfl (pi_range1 rfl mRg (pa_cons (pe_callB (call_max2 rfl) (by rfl) mMx (by decide +kernel) (pa_cons pe_int (pa_cons (pe_callB (call_min2 rfl) (by rfl) mMn (by decide +kernel) (pa_cons pe_int (pa_cons (pe_callB call_lenS (by rfl) mN PySem.boot_len (pa_cons (pv 0) pa_nil)) pa_nil))) pa_nil))) pa_nil)) (pg_name (i := 1) scLaw8.nd rfl (Or.inl rfl))
        (pss_cons (ps_set (i := 2) scLaw8.nd rfl (.inl rfl) (pe_cdn GDi hrn (pa_cons (pv 0) (pa_cons (pv 1) pa_nil))))
        (pss_cons (ps_set (i := 3) scLaw8.nd rfl (.inl rfl) (pe_cdn GL hrn (pa_cons (pv 2) (pa_cons pe_int (pa_cons pe_int pa_nil)))))
        (pss_cons (ps_set (i := 4) scLaw8.nd rfl (.inl rfl) (pe_cmn LO hrn (pe_glob (v := .ref CL) rfl gL rfl) (pa_cons (pe_ix ix_tup (pv 3) pe_int (fun _ _ => rfl)) (pa_cons (pe_ix ix_tup (pv 3) pe_int (fun _ _ => rfl)) pa_nil))))
        (pss_cons (ps_set (i := 5) scLaw8.nd rfl (.inl rfl) (pe_cdn GS hrn (pa_cons (pv 2) (pa_cons (pv 3) (pa_cons pe_int pa_nil)))))
        (pss_cons (ps_if (pt_not (pt_val (pe_cdn GH hr2 (pa_cons (pv 2) (pa_cons (pv 3) (pa_cons (pe_cmn SO hrn (pe_glob (v := .ref CS) rfl gS rfl) (pa_cons (pv 4) (pa_cons (pv 5) pa_nil))) (pa_cons (pe_cdn GF hrn (pa_cons (pv 5) pa_nil)) pa_nil))))))) (pss_one (ps_ret pe_bl)) pss_nil)
        (pss_cons (ps_if (pt_not (pt_val (pe_cdn GH hr2 (pa_cons (pv 2) (pa_cons (pv 3) (pa_cons (StX.pe_makeR (E := E0) MS I0 hr1 (by rfl) gS pass0 (pa_cons (pv 4) pa_nil)) (pa_cons (pe_tup (pa_cons (pe_lst pa_nil) (pa_cons (pe_lst pa_nil) (pa_cons (pe_lst pa_nil) pa_nil)))) pa_nil))))))) (pss_one (ps_ret pe_bl)) pss_nil)
        (pss_one (ps_if (pt_not (pt_val (pe_cdn GJ hr (pa_cons (pv 2) (pa_cons (pv 3) (pa_cons (pv 4) pa_nil)))))) (pss_one (ps_ret pe_bl)) pss_nil))))))))) (pss_one (ps_ret pe_bl)), ?_⟩
    refine ⟨.ref a, rfl, a, _, rfl, .inl hS, 5, _, rfl, 1, _, rfl, ?_⟩
    obtain ⟨N, eN⟩ : ∃ N : Int, N = (if (if ((ns.map V.int).length : Int) < 5 then ((ns.map V.int).length : Int) else 5) > 1 then (if ((ns.map V.int).length : Int) < 5 then ((ns.map V.int).length : Int) else 5) else 1) := ⟨_, rfl⟩
    rw [← eN]
    have n1 : 1 ≤ N ∧ N ≤ 5 := by
      rw [eN]
      split <;> split <;> omega
    refine ⟨N, rfl, by omega, by omega, for_range (n := N.toNat) (fun i σ H' => ∃ o1 o2 o3 o4 o5 : Option V, σ = [some (.ref a), o1, o2, o3, o4, o5] ∧ SqL K H' a (ns.map V.int)) ⟨none, none, none, none, none, rfl, hS⟩ ?_ fun σ H' _ => q H'⟩
    rintro i σ H1 hi ⟨o1, o2, o3, o4, o5, rfl, hS1⟩
    refine ⟨.ref a, rfl, _, rfl, a, ns, _, rfl, hS1, by omega, by omega, fun d H2 s2 nd dc => ?_⟩
    refine ⟨.ref d, rfl, d, 3, 3, rfl, dc, by decide, by decide, fun pg pm pk ms ks H3 nr3 dc3 ng nm nk hg hm hk lg => ?_⟩
    have l3 := lg.lm
    have k3 := lg.lk
    have k1 := lg.l1
    have nms : Nms ms := fun z hz => words_ok z (lg.wm z hz)
    have nks : Nms ks := fun z hz => words_ok z (lg.wk z hz)
    have lok : langOk ms ks = true := ok_of_parts (by rw [lg.cm]; omega) (by rw [lg.ck]; omega) (by rw [lg.ck]; omega) (by rw [lg.ck, lg.cm]; exact lg.off)
    refine ⟨rfl, .ref pg, rfl, pg, _, 0, .ref pm, rfl, rfl, tup_of hg, rfl, .ref pg, rfl, pg, _, 1, .ref pk, rfl, rfl, tup_of hg, rfl, pm, pk, ms, ks, rfl, tup_of hm, tup_of hk, nms, nks, by omega, by omega, lok, fun la H4 s4 nla hla => ?_⟩
    rw [lg.cm, lg.ck] at hla
    have dc4 := dc3.same s4
    refine ⟨.ref d, rfl, .ref pg, rfl, d, pg, pm, pk, ms, ks, 5, rfl, dc4, s4 _ _ hg, s4 _ _ hm, s4 _ _ hk, lg.cm, by omega, k1, by omega, by decide, by decide, fun t kvs ps H5 nr5 dc5 nt ht hps pst wd p1 p5 => ?_⟩
    -- a drawn store's history
    have hla5 := hla.kq (nr5.kq dc4)
    refine ⟨.ref d, rfl, .ref pg, rfl, rfl, .ref la, rfl, .ref t, rfl, la, t, ms, ks, kvs, ps, rfl, hla5, ht, hps, pst.sin, fun a1 u H6 s6 na nu st6 => ?_⟩
    have each : ∀ p ∈ ps, p.2.1.items.length ≤ 3 ∧ p.2.2.items.length ≤ 4 := fun p hp => by
      have th := pst.th p hp
      have nd : p.2.1.items.Nodup := by rw [← th.cm]; exact nodup_canon _
      exact ⟨Nat.le_trans (nodup_le nd th.mm) l3, th.l2⟩
    refine ⟨.ref t, rfl, t, kvs, ps, rfl, s6 _ _ ht, hps.kq s6.kq, pst.nd, pst.nrm, by omega, fun p hp => by have := each p hp; omega, by have := rM_len (n := 3) fun p hp => (each p hp).1; omega, by have := rL_len (n := 4) fun p hp => (each p hp).2; omega, fun p pn pM pL H7 s7 _ _ _ _ fl => ?_⟩
    obtain ⟨e1, e2, e3⟩ := pst.fl
    have N47 : Nr d H4 H7 := nr5.trans (s6.trans s7).nr
    have N37 : Nr d H3 H7 := s4.nr.trans N47
    have kq7 := N37.kq dc3
    have dc7 := dc5.same (s6.trans s7)
    refine ⟨d, pg, pm, pk, a1, la, u, p, pn, pM, pL, CM, ms, ks, normS ps, rfl, dc7, kq7.tup hg, kq7.tup hm, kq7.tup hk, l3, k1, k3, .inr rfl, st6.same s7, pst.hb p5, by rw [e1, e2, e3]; exact fl, fun H8 nr8 dc8 => ⟨true, rfl, iteF ?_⟩⟩
    -- an empty store's history
    have N48 := N47.trans nr8
    have N38 := N37.trans nr8
    have hla8 := hla.kq (N48.kq dc4)
    refine ⟨.ref d, rfl, .ref pg, rfl, .ref la, rfl, fun xb db nxb ndb nxd => ⟨H8, xb, db, la, ms, ks, rfl, rfl, nxb, ndb, nxd, hla8, fun tb H9 s9 ntb st9 => ⟨rfl, ?_⟩⟩⟩
    refine ⟨Nat.zero_le _, fun q1 m1 => ?_⟩
    have f1 : (upd H9 q1 (.lst [])) q1 = some (.lst []) := upd_same
    have u1 : Same H9 (upd H9 q1 (.lst [])) := same_new m1
    generalize upd H9 q1 (.lst []) = G1 at *
    refine ⟨Nat.zero_le _, fun q2 m2 => ?_⟩
    have f2 : (upd G1 q2 (.lst [])) q2 = some (.lst []) := upd_same
    have u2 : Same G1 (upd G1 q2 (.lst [])) := same_new m2
    generalize upd G1 q2 (.lst []) = G2 at *
    refine ⟨Nat.zero_le _, fun q3 m3 => ?_⟩
    have f3 : (upd G2 q3 (.lst [])) q3 = some (.lst []) := upd_same
    have u3 : Same G2 (upd G2 q3 (.lst [])) := same_new m3
    generalize upd G2 q3 (.lst []) = G3 at *
    refine ⟨by show 3 ≤ sizeLine; decide, fun q4 m4 => ?_⟩
    have f4 : (upd G3 q4 (.tup [.ref q1, .ref q2, .ref q3])) q4 = some (.tup [.ref q1, .ref q2, .ref q3]) := upd_same
    have u4 : Same G3 (upd G3 q4 (.tup [.ref q1, .ref q2, .ref q3])) := same_new m4
    generalize upd G3 q4 (.tup [.ref q1, .ref q2, .ref q3]) = G4 at *
    have SU : Same H9 G4 := u1.trans (u2.trans (u3.trans u4))
    have N3G : Nr d H3 G4 := N38.trans (s9.trans SU).nr
    have N4G : Nr d H4 G4 := N48.trans (s9.trans SU).nr
    have kqG := N3G.kq dc3
    have dcG := dc8.same (s9.trans SU)
    obtain ⟨z1, z2, z3⟩ := fl_nil
    refine ⟨d, pg, pm, pk, xb, la, tb, q4, q1, q2, q3, CS, ms, ks, [], rfl, dcG, kqG.tup hg, kqG.tup hm, kqG.tup hk, l3, k1, k3, .inl rfl, st9.same SU, Hb.nil, by rw [z1, z2, z3]; exact ⟨[], [], f4, u4 _ _ (u3 _ _ (u2 _ _ f1)), u4 _ _ (u3 _ _ f2), .nil, u4 _ _ f3, .nil⟩, fun H10 nr10 dc10 => ⟨true, rfl, iteF ?_⟩⟩
    -- stores joined
    have kq10 := (N3G.trans nr10).kq dc3
    refine ⟨.ref d, rfl, .ref pg, rfl, .ref la, rfl, d, pg, pm, pk, la, ms, ks, rfl, dc10, kq10.tup hg, kq10.tup hm, kq10.tup hk, lg.cm, l3, k1, k3, hla.kq ((N4G.trans nr10).kq dc4), fun H11 nr11 dc11 => ⟨true, rfl, iteF ?_⟩⟩
    exact ⟨_, _, _, _, _, rfl, sql_keep hS1 nd s2 (nr3.trans (N3G.trans (nr10.trans nr11)))⟩
end
end Tf

/-! the end: what the written part tells -/
namespace Tf
open PySem PySem.Spec PyProof.Rows L2 ClX
theorem kit_ref {K : PySem.W.Frag} {t : Value} {C : Addr} {b : Bool} (hc : PySem.W.isClsIn K C = true) (ht : PySem.W.typeIn K (.ref C) = some (.type "type")) (hne : (t == Value.ref C) = false) (h : PySem.W.subIn K t (.ref C) = some b) : PySem.W.kitOne K t (.ref C) = some b := by
  have e2 : ((PySem.W.clsIn K C).isSome && PySem.W.typeIn K (.ref C) == some (.type "type")) = true := by
    have h2' : (PySem.W.clsIn K C).isSome = true := hc
    rw [h2', ht] <;> rfl
  unfold PySem.W.kitOne PySem.W.kitCls
  rw [hne, if_neg Bool.false_ne_true]
  show (if ((PySem.W.clsIn K C).isSome && PySem.W.typeIn K (.ref C) == some (.type "type")) = true then PySem.W.subIn K t (.ref C) else none) = some b
  rw [if_pos e2]
  exact h
theorem kit_refT {K : PySem.W.Frag} {t : Value} {C : Addr} (hc : PySem.W.isClsIn K C = true) (ht : PySem.W.typeIn K (.ref C) = some (.type "type")) (h : PySem.W.subIn K t (.ref C) = some true) : PySem.W.kitOne K t (.ref C) = some true := by
  cases e : (t == Value.ref C) with
  | false => exact kit_ref hc ht e h
  | true =>
    unfold PySem.W.kitOne
    rw [e, if_pos rfl]
theorem ty_ne (t : String) (C : Addr) : (Value.type t == Value.ref C) = false := beq_eq_false_iff_ne.mpr (fun z => by cases z)
theorem rawN {P : Program} {w : World} {K : PySem.W.Frag} {mg : Str → Option Value} {base : Heap} {CX : CXT} {k : Nat} {f : Addr} {fd : FuncData} {ps : List Str} {sp : Sp} (F : FnOk P w K mg base CX k f fd ps sp) (hb : Binds K fd ps []) : FnR P w K mg base CX k f sp :=
  (F.raw hb .nil).imp fun vs H Q E h => by
    rw [List.append_nil]
    exact h

theorem all_mk {P : Program} {w : World} {K : PySem.W.Frag} {h : Heap} {mg : Str → Option Value} {fa : Addr} (X : K.In h) (G : h.Ns mainGlobals mg) (hfa : mg "law" = some (.ref fa))
    {CL CS CM pLO pLM pLK pSO pST pSN : Addr}
    {t8 t4 t9 ts tT : Tok} {rLO rLM rLK rSO rST rSN : List Value}
    {fNa : Addr} {odNa anNa : Option Addr} {slNa : Array (Option Value)} {ocNa kVNa dcNa pmNa cdNa ctNa : Value}
    {fRl : Addr} {odRl anRl : Option Addr} {slRl : Array (Option Value)} {ocRl kVRl dcRl pmRl cdRl ctRl : Value}
    {fRm : Addr} {odRm anRm : Option Addr} {slRm : Array (Option Value)} {ocRm kVRm dcRm pmRm cdRm ctRm : Value}
    {fRk : Addr} {odRk anRk : Option Addr} {slRk : Array (Option Value)} {ocRk kVRk dcRk pmRk cdRk ctRk : Value}
    {fDn : Addr} {odDn anDn : Option Addr} {slDn : Array (Option Value)} {ocDn kVDn dcDn pmDn cdDn ctDn : Value}
    {fRt : Addr} {odRt anRt : Option Addr} {slRt : Array (Option Value)} {ocRt kVRt dcRt pmRt cdRt ctRt : Value}
    {fRp : Addr} {odRp anRp : Option Addr} {slRp : Array (Option Value)} {ocRp kVRp dcRp pmRp cdRp ctRp : Value}
    {fDs : Addr} {odDs anDs : Option Addr} {slDs : Array (Option Value)} {ocDs kVDs dcDs pmDs cdDs ctDs : Value}
    {fCk : Addr} {odCk anCk : Option Addr} {slCk : Array (Option Value)} {ocCk kVCk dcCk pmCk cdCk ctCk : Value}
    {fSi : Addr} {odSi anSi : Option Addr} {slSi : Array (Option Value)} {ocSi kVSi dcSi pmSi cdSi ctSi : Value}
    {fJp : Addr} {odJp anJp : Option Addr} {slJp : Array (Option Value)} {ocJp kVJp dcJp pmJp cdJp ctJp : Value}
    {fJt : Addr} {odJt anJt : Option Addr} {slJt : Array (Option Value)} {ocJt kVJt dcJt pmJt cdJt ctJt : Value}
    {fNn : Addr} {odNn anNn : Option Addr} {slNn : Array (Option Value)} {ocNn kVNn dcNn pmNn cdNn ctNn : Value}
    {fRn : Addr} {odRn anRn : Option Addr} {slRn : Array (Option Value)} {ocRn kVRn dcRn pmRn cdRn ctRn : Value}
    {fDi : Addr} {odDi anDi : Option Addr} {slDi : Array (Option Value)} {ocDi kVDi dcDi pmDi cdDi ctDi : Value}
    {fRo : Addr} {odRo anRo : Option Addr} {slRo : Array (Option Value)} {ocRo kVRo dcRo pmRo cdRo ctRo : Value}
    {fPi : Addr} {odPi anPi : Option Addr} {slPi : Array (Option Value)} {ocPi kVPi dcPi pmPi cdPi ctPi : Value}
    {fMi : Addr} {odMi anMi : Option Addr} {slMi : Array (Option Value)} {ocMi kVMi dcMi pmMi cdMi ctMi : Value}
    {fWo : Addr} {odWo anWo : Option Addr} {slWo : Array (Option Value)} {ocWo kVWo dcWo pmWo cdWo ctWo : Value}
    {fLg : Addr} {odLg anLg : Option Addr} {slLg : Array (Option Value)} {ocLg kVLg dcLg pmLg cdLg ctLg : Value}
    {fLk : Addr} {odLk anLk : Option Addr} {slLk : Array (Option Value)} {ocLk kVLk dcLk pmLk cdLk ctLk : Value}
    {fSo : Addr} {odSo anSo : Option Addr} {slSo : Array (Option Value)} {ocSo kVSo dcSo pmSo cdSo ctSo : Value}
    {fRs : Addr} {odRs anRs : Option Addr} {slRs : Array (Option Value)} {ocRs kVRs dcRs pmRs cdRs ctRs : Value}
    {fWa : Addr} {odWa anWa : Option Addr} {slWa : Array (Option Value)} {ocWa kVWa dcWa pmWa cdWa ctWa : Value}
    {fFw : Addr} {odFw anFw : Option Addr} {slFw : Array (Option Value)} {ocFw kVFw dcFw pmFw cdFw ctFw : Value}
    {fFs : Addr} {odFs anFs : Option Addr} {slFs : Array (Option Value)} {ocFs kVFs dcFs pmFs cdFs ctFs : Value}
    {fFt : Addr} {odFt anFt : Option Addr} {slFt : Array (Option Value)} {ocFt kVFt dcFt pmFt cdFt ctFt : Value}
    {fCg : Addr} {odCg anCg : Option Addr} {slCg : Array (Option Value)} {ocCg kVCg dcCg pmCg cdCg ctCg : Value}
    {fHr : Addr} {odHr anHr : Option Addr} {slHr : Array (Option Value)} {ocHr kVHr dcHr pmHr cdHr ctHr : Value}
    {fJr : Addr} {odJr anJr : Option Addr} {slJr : Array (Option Value)} {ocJr kVJr dcJr pmJr cdJr ctJr : Value}
    {fLa : Addr} {odLa anLa : Option Addr} {slLa : Array (Option Value)} {ocLa kVLa dcLa pmLa cdLa ctLa : Value}
    {fLIn : Addr} {odLIn anLIn : Option Addr} {slLIn : Array (Option Value)} {ocLIn kVLIn dcLIn pmLIn cdLIn ctLIn : Value}
    {fLOf : Addr} {odLOf anLOf : Option Addr} {slLOf : Array (Option Value)} {ocLOf kVLOf dcLOf pmLOf cdLOf ctLOf : Value}
    {fLMk : Addr} {odLMk anLMk : Option Addr} {slLMk : Array (Option Value)} {ocLMk kVLMk dcLMk pmLMk cdLMk ctLMk : Value}
    {fLKi : Addr} {odLKi anLKi : Option Addr} {slLKi : Array (Option Value)} {ocLKi kVLKi dcLKi pmLKi cdLKi ctLKi : Value}
    {fLEq : Addr} {odLEq anLEq : Option Addr} {slLEq : Array (Option Value)} {ocLEq kVLEq dcLEq pmLEq cdLEq ctLEq : Value}
    {fSIn : Addr} {odSIn anSIn : Option Addr} {slSIn : Array (Option Value)} {ocSIn kVSIn dcSIn pmSIn cdSIn ctSIn : Value}
    {fSOf : Addr} {odSOf anSOf : Option Addr} {slSOf : Array (Option Value)} {ocSOf kVSOf dcSOf pmSOf cdSOf ctSOf : Value}
    {fSTh : Addr} {odSTh anSTh : Option Addr} {slSTh : Array (Option Value)} {ocSTh kVSTh dcSTh pmSTh cdSTh ctSTh : Value}
    {fSEq : Addr} {odSEq anSEq : Option Addr} {slSEq : Array (Option Value)} {ocSEq kVSEq dcSEq pmSEq cdSEq ctSEq : Value}
    {fSHa : Addr} {odSHa anSHa : Option Addr} {slSHa : Array (Option Value)} {ocSHa kVSHa dcSHa pmSHa cdSHa ctSHa : Value}
    {fSWp : Addr} {odSWp anSWp : Option Addr} {slSWp : Array (Option Value)} {ocSWp kVSWp dcSWp pmSWp cdSWp ctSWp : Value}
    {fSWt : Addr} {odSWt anSWt : Option Addr} {slSWt : Array (Option Value)} {ocSWt kVSWt dcSWt pmSWt cdSWt ctSWt : Value}
    {fSWm : Addr} {odSWm anSWm : Option Addr} {slSWm : Array (Option Value)} {ocSWm kVSWm dcSWm pmSWm cdSWm ctSWm : Value}
    {fSRl : Addr} {odSRl anSRl : Option Addr} {slSRl : Array (Option Value)} {ocSRl kVSRl dcSRl pmSRl cdSRl ctSRl : Value}
    {fSWl : Addr} {odSWl anSWl : Option Addr} {slSWl : Array (Option Value)} {ocSWl kVSWl dcSWl pmSWl cdSWl ctSWl : Value}
    {fSWo : Addr} {odSWo anSWo : Option Addr} {slSWo : Array (Option Value)} {ocSWo kVSWo dcSWo pmSWo cdSWo ctSWo : Value}
    {fSWh : Addr} {odSWh anSWh : Option Addr} {slSWh : Array (Option Value)} {ocSWh kVSWh dcSWh pmSWh cdSWh ctSWh : Value}
    {fSNm : Addr} {odSNm anSNm : Option Addr} {slSNm : Array (Option Value)} {ocSNm kVSNm dcSNm pmSNm cdSNm ctSNm : Value}
    {fSLe : Addr} {odSLe anSLe : Option Addr} {slSLe : Array (Option Value)} {ocSLe kVSLe dcSLe pmSLe cdSLe ctSLe : Value}
    {fSRb : Addr} {odSRb anSRb : Option Addr} {slSRb : Array (Option Value)} {ocSRb kVSRb dcSRb pmSRb cdSRb ctSRb : Value}
    {fSRe : Addr} {odSRe anSRe : Option Addr} {slSRe : Array (Option Value)} {ocSRe kVSRe dcSRe pmSRe cdSRe ctSRe : Value}
    {fSOr : Addr} {odSOr anSOr : Option Addr} {slSOr : Array (Option Value)} {ocSOr kVSOr dcSOr pmSOr cdSOr ctSOr : Value}
    {fMIn : Addr} {odMIn anMIn : Option Addr} {slMIn : Array (Option Value)} {ocMIn kVMIn dcMIn pmMIn cdMIn ctMIn : Value}
    (aCL : PySem.W.nsIn K mainGlobals "Language" = some (some (.ref CL)))
    (i1CL : PySem.W.plainGet K CL Str.empty = true)
    (i2CL : PySem.W.hasDictIn K CL = true)
    (i3CL : PySem.W.plainOver K CL = true)
    (i4CL : PySem.W.findIn K (.ref CL) "__setattr__" = some (some (.builtin "object.__setattr__")))
    (j0CL : PySem.W.findIn K (.ref CL) "own_marks" = some none)
    (j1CL : PySem.W.findIn K (.ref CL) "own_kinds" = some none)
    (k1CL : PySem.W.makesIn K CL = true)
    (k2CL : PySem.W.keepIn K (.ref CL) = true)
    (k3CL : PySem.W.findIn K (.ref CL) "__class__" = some (some (.builtin "object.__class__")))
    (k4CL : PySem.W.mroIn K CL (.type "object") = some true)
    (k5CL : PySem.W.findIn K (.ref CL) "__ne__" = some (some (.builtin "object.__ne__")))
    (k6CL : PySem.W.isClsIn K CL = true)
    (k7CL : PySem.W.typeIn K (.ref CL) = some (.type "type"))
    (iniCL : PySem.W.findIn K (.ref CL) "__init__" = some (some (.ref fLIn)))
    (aCS : PySem.W.nsIn K mainGlobals "Store" = some (some (.ref CS)))
    (i1CS : PySem.W.plainGet K CS Str.empty = true)
    (i2CS : PySem.W.hasDictIn K CS = true)
    (i3CS : PySem.W.plainOver K CS = true)
    (i4CS : PySem.W.findIn K (.ref CS) "__setattr__" = some (some (.builtin "object.__setattr__")))
    (j0CS : PySem.W.findIn K (.ref CS) "own_language" = some none)
    (j1CS : PySem.W.findIn K (.ref CS) "own_things" = some none)
    (k1CS : PySem.W.makesIn K CS = true)
    (k2CS : PySem.W.keepIn K (.ref CS) = true)
    (k3CS : PySem.W.findIn K (.ref CS) "__class__" = some (some (.builtin "object.__class__")))
    (k4CS : PySem.W.mroIn K CS (.type "object") = some true)
    (k5CS : PySem.W.findIn K (.ref CS) "__ne__" = some (some (.builtin "object.__ne__")))
    (k6CS : PySem.W.isClsIn K CS = true)
    (k7CS : PySem.W.typeIn K (.ref CS) = some (.type "type"))
    (iniCS : PySem.W.findIn K (.ref CS) "__init__" = some (some (.ref fSIn)))
    (aCM : PySem.W.nsIn K mainGlobals "MadeStore" = some (some (.ref CM)))
    (i1CM : PySem.W.plainGet K CM Str.empty = true)
    (i2CM : PySem.W.hasDictIn K CM = true)
    (i3CM : PySem.W.plainOver K CM = true)
    (i4CM : PySem.W.findIn K (.ref CM) "__setattr__" = some (some (.builtin "object.__setattr__")))
    (j0CM : PySem.W.findIn K (.ref CM) "own_language" = some none)
    (j1CM : PySem.W.findIn K (.ref CM) "own_things" = some none)
    (k1CM : PySem.W.makesIn K CM = true)
    (k2CM : PySem.W.keepIn K (.ref CM) = true)
    (k3CM : PySem.W.findIn K (.ref CM) "__class__" = some (some (.builtin "object.__class__")))
    (k4CM : PySem.W.mroIn K CM (.type "object") = some true)
    (k5CM : PySem.W.findIn K (.ref CM) "__ne__" = some (some (.builtin "object.__ne__")))
    (k6CM : PySem.W.isClsIn K CM = true)
    (k7CM : PySem.W.typeIn K (.ref CM) = some (.type "type"))
    (iniCM : PySem.W.findIn K (.ref CM) "__init__" = some (some (.ref fMIn)))
    (e5 : PySem.W.specialIn K (.builtin "object.__class__") "__get__" = some (some (.builtin "getset_descriptor.__get__")))
    (e6 : PySem.W.takesIn K (.builtin "object.__class__") = some true)
    (suMS : PySem.W.subIn K (.ref CM) (.ref CS) = some true)
    (nM : PySem.W.notFirst K CM (.ref CM) = true)
    (nS : PySem.W.notFirst K CM (.ref CS) = true)
    (nLL : PySem.W.notFirst K CL (.ref CL) = true)
    (sfM : PySem.W.selfFirst K CM = true)
    (r1CL : PySem.W.readsIn K CL (.type "type") = true)
    (r2CL : PySem.W.specialIn K (.ref CL) "__getattribute__" = some (some (.builtin "type.__getattribute__")))
    (r3CL : PySem.W.findCls K (.ref CL) (.type "type") "of" = some (.get (.builtin "classmethod.__get__") (.ref pLO) .none (.ref CL)))
    (r4CL : PySem.W.recIn K pLO "classmethod" = some (.ref fLOf :: rLO))
    (r5CL : PySem.W.fnIn K fLOf = true)
    (r1CS : PySem.W.readsIn K CS (.type "type") = true)
    (r2CS : PySem.W.specialIn K (.ref CS) "__getattribute__" = some (some (.builtin "type.__getattribute__")))
    (r3CS : PySem.W.findCls K (.ref CS) (.type "type") "of" = some (.get (.builtin "classmethod.__get__") (.ref pSO) .none (.ref CS)))
    (r4CS : PySem.W.recIn K pSO "classmethod" = some (.ref fSOf :: rSO))
    (r5CS : PySem.W.fnIn K fSOf = true)
    (u1CLLMk : PySem.W.findIn K (.ref CL) "marks" = some (some (.ref pLM)))
    (u2LMk : PySem.W.specialIn K (.ref pLM) "__get__" = some (some (.builtin "property.__get__")))
    (u3LMk : PySem.W.takesIn K (.ref pLM) = some true)
    (u4LMk : PySem.W.recIn K pLM "property" = some (.ref fLMk :: rLM))
    (u1CLLKi : PySem.W.findIn K (.ref CL) "kinds" = some (some (.ref pLK)))
    (u2LKi : PySem.W.specialIn K (.ref pLK) "__get__" = some (some (.builtin "property.__get__")))
    (u3LKi : PySem.W.takesIn K (.ref pLK) = some true)
    (u4LKi : PySem.W.recIn K pLK "property" = some (.ref fLKi :: rLK))
    (u1CMSTh : PySem.W.findIn K (.ref CM) "things" = some (some (.ref pST)))
    (u1CSSTh : PySem.W.findIn K (.ref CS) "things" = some (some (.ref pST)))
    (u2STh : PySem.W.specialIn K (.ref pST) "__get__" = some (some (.builtin "property.__get__")))
    (u3STh : PySem.W.takesIn K (.ref pST) = some true)
    (u4STh : PySem.W.recIn K pST "property" = some (.ref fSTh :: rST))
    (u1CMSNm : PySem.W.findIn K (.ref CM) "names" = some (some (.ref pSN)))
    (u1CSSNm : PySem.W.findIn K (.ref CS) "names" = some (some (.ref pSN)))
    (u2SNm : PySem.W.specialIn K (.ref pSN) "__get__" = some (some (.builtin "property.__get__")))
    (u3SNm : PySem.W.takesIn K (.ref pSN) = some true)
    (u4SNm : PySem.W.recIn K pSN "property" = some (.ref fSNm :: rSN))
    (v1CLLEq : PySem.W.findIn K (.ref CL) "__eq__" = some (some (.ref fLEq)))
    (v2LEq : PySem.W.isFn K (.ref fLEq) = true)
    (v1CMSEq : PySem.W.findIn K (.ref CM) "__eq__" = some (some (.ref fSEq)))
    (v2SEq : PySem.W.isFn K (.ref fSEq) = true)
    (v1CMSHa : PySem.W.findIn K (.ref CM) "__contains__" = some (some (.ref fSHa)))
    (v1CSSHa : PySem.W.findIn K (.ref CS) "__contains__" = some (some (.ref fSHa)))
    (v2SHa : PySem.W.isFn K (.ref fSHa) = true)
    (v1CMSLe : PySem.W.findIn K (.ref CM) "__len__" = some (some (.ref fSLe)))
    (v1CSSLe : PySem.W.findIn K (.ref CS) "__len__" = some (some (.ref fSLe)))
    (v2SLe : PySem.W.isFn K (.ref fSLe) = true)
    (v1CMSWp : PySem.W.findIn K (.ref CM) "with_pair" = some (some (.ref fSWp)))
    (v1CSSWp : PySem.W.findIn K (.ref CS) "with_pair" = some (some (.ref fSWp)))
    (v2SWp : PySem.W.isFn K (.ref fSWp) = true)
    (v1CMSWt : PySem.W.findIn K (.ref CM) "with_thing" = some (some (.ref fSWt)))
    (v1CSSWt : PySem.W.findIn K (.ref CS) "with_thing" = some (some (.ref fSWt)))
    (v2SWt : PySem.W.isFn K (.ref fSWt) = true)
    (v1CMSWm : PySem.W.findIn K (.ref CM) "with_marks" = some (some (.ref fSWm)))
    (v1CSSWm : PySem.W.findIn K (.ref CS) "with_marks" = some (some (.ref fSWm)))
    (v2SWm : PySem.W.isFn K (.ref fSWm) = true)
    (v1CMSRl : PySem.W.findIn K (.ref CM) "require_link" = some (some (.ref fSRl)))
    (v1CSSRl : PySem.W.findIn K (.ref CS) "require_link" = some (some (.ref fSRl)))
    (v2SRl : PySem.W.isFn K (.ref fSRl) = true)
    (v1CMSWl : PySem.W.findIn K (.ref CM) "with_link" = some (some (.ref fSWl)))
    (v1CSSWl : PySem.W.findIn K (.ref CS) "with_link" = some (some (.ref fSWl)))
    (v2SWl : PySem.W.isFn K (.ref fSWl) = true)
    (v1CMSWo : PySem.W.findIn K (.ref CM) "without_link" = some (some (.ref fSWo)))
    (v1CSSWo : PySem.W.findIn K (.ref CS) "without_link" = some (some (.ref fSWo)))
    (v2SWo : PySem.W.isFn K (.ref fSWo) = true)
    (v1CMSWh : PySem.W.findIn K (.ref CM) "without_thing" = some (some (.ref fSWh)))
    (v1CSSWh : PySem.W.findIn K (.ref CS) "without_thing" = some (some (.ref fSWh)))
    (v2SWh : PySem.W.isFn K (.ref fSWh) = true)
    (v1CMSRb : PySem.W.findIn K (.ref CM) "renamed_by" = some (some (.ref fSRb)))
    (v2SRb : PySem.W.isFn K (.ref fSRb) = true)
    (v1CMSRe : PySem.W.findIn K (.ref CM) "reached" = some (some (.ref fSRe)))
    (v2SRe : PySem.W.isFn K (.ref fSRe) = true)
    (v1CMSOr : PySem.W.findIn K (.ref CM) "__or__" = some (some (.ref fSOr)))
    (v2SOr : PySem.W.isFn K (.ref fSOr) = true)
    (v2LIn : PySem.W.isFn K (.ref fLIn) = true)
    (v2SIn : PySem.W.isFn K (.ref fSIn) = true)
    (v2MIn : PySem.W.isFn K (.ref fMIn) = true)
    (w0Na : PySem.W.nsIn K mainGlobals "is_name" = some (some (.ref fNa)))
    (w1Na : K.lookup fNa = some ⟨ocNa, odNa, .func (PySem.W.fnOf "is_name" "is_name" (defArgs sName) (defBody sName) (defScope sName) .none kVNa dcNa pmNa anNa cdNa ctNa), slNa⟩)
    (w2Na : PySem.W.codeIn K cdNa "is_name" = true)
    (w3Na : PySem.W.keepIn K (.ref fNa) = true)
    (w0Rl : PySem.W.nsIn K mainGlobals "require_language" = some (some (.ref fRl)))
    (w1Rl : K.lookup fRl = some ⟨ocRl, odRl, .func (PySem.W.fnOf "require_language" "require_language" (defArgs sRl) (defBody sRl) (defScope sRl) .none kVRl dcRl pmRl anRl cdRl ctRl), slRl⟩)
    (w2Rl : PySem.W.codeIn K cdRl "require_language" = true)
    (w3Rl : PySem.W.keepIn K (.ref fRl) = true)
    (w0Rm : PySem.W.nsIn K mainGlobals "require_mark" = some (some (.ref fRm)))
    (w1Rm : K.lookup fRm = some ⟨ocRm, odRm, .func (PySem.W.fnOf "require_mark" "require_mark" (defArgs sRm) (defBody sRm) (defScope sRm) .none kVRm dcRm pmRm anRm cdRm ctRm), slRm⟩)
    (w2Rm : PySem.W.codeIn K cdRm "require_mark" = true)
    (w3Rm : PySem.W.keepIn K (.ref fRm) = true)
    (w0Rk : PySem.W.nsIn K mainGlobals "require_kind" = some (some (.ref fRk)))
    (w1Rk : K.lookup fRk = some ⟨ocRk, odRk, .func (PySem.W.fnOf "require_kind" "require_kind" (defArgs sRk) (defBody sRk) (defScope sRk) .none kVRk dcRk pmRk anRk cdRk ctRk), slRk⟩)
    (w2Rk : PySem.W.codeIn K cdRk "require_kind" = true)
    (w3Rk : PySem.W.keepIn K (.ref fRk) = true)
    (w0Dn : PySem.W.nsIn K mainGlobals "different_names" = some (some (.ref fDn)))
    (w1Dn : K.lookup fDn = some ⟨ocDn, odDn, .func (PySem.W.fnOf "different_names" "different_names" (defArgs sDn) (defBody sDn) (defScope sDn) .none kVDn dcDn pmDn anDn cdDn ctDn), slDn⟩)
    (w2Dn : PySem.W.codeIn K cdDn "different_names" = true)
    (w3Dn : PySem.W.keepIn K (.ref fDn) = true)
    (w0Rt : PySem.W.nsIn K mainGlobals "require_thing" = some (some (.ref fRt)))
    (w1Rt : K.lookup fRt = some ⟨ocRt, odRt, .func (PySem.W.fnOf "require_thing" "require_thing" (defArgs sRt) (defBody sRt) (defScope sRt) .none kVRt dcRt pmRt anRt cdRt ctRt), slRt⟩)
    (w2Rt : PySem.W.codeIn K cdRt "require_thing" = true)
    (w3Rt : PySem.W.keepIn K (.ref fRt) = true)
    (w0Rp : PySem.W.nsIn K mainGlobals "require_pair" = some (some (.ref fRp)))
    (w1Rp : K.lookup fRp = some ⟨ocRp, odRp, .func (PySem.W.fnOf "require_pair" "require_pair" (defArgs sRp) (defBody sRp) (defScope sRp) .none kVRp dcRp pmRp anRp cdRp ctRp), slRp⟩)
    (w2Rp : PySem.W.codeIn K cdRp "require_pair" = true)
    (w3Rp : PySem.W.keepIn K (.ref fRp) = true)
    (w0Ds : PySem.W.nsIn K mainGlobals "different_items" = some (some (.ref fDs)))
    (w1Ds : K.lookup fDs = some ⟨ocDs, odDs, .func (PySem.W.fnOf "different_items" "different_items" (defArgs sDi) (defBody sDi) (defScope sDi) .none kVDs dcDs pmDs anDs cdDs ctDs), slDs⟩)
    (w2Ds : PySem.W.codeIn K cdDs "different_items" = true)
    (w3Ds : PySem.W.keepIn K (.ref fDs) = true)
    (w0Ck : PySem.W.nsIn K mainGlobals "checked_things" = some (some (.ref fCk)))
    (w1Ck : K.lookup fCk = some ⟨ocCk, odCk, .func (PySem.W.fnOf "checked_things" "checked_things" (defArgs sCk) (defBody sCk) (defScope sCk) .none kVCk dcCk pmCk anCk cdCk ctCk), slCk⟩)
    (w2Ck : PySem.W.codeIn K cdCk "checked_things" = true)
    (w3Ck : PySem.W.keepIn K (.ref fCk) = true)
    (w0Si : PySem.W.nsIn K mainGlobals "store_in" = some (some (.ref fSi)))
    (w1Si : K.lookup fSi = some ⟨ocSi, odSi, .func (PySem.W.fnOf "store_in" "store_in" (defArgs sSi) (defBody sSi) (defScope sSi) .none kVSi dcSi pmSi anSi cdSi ctSi), slSi⟩)
    (w2Si : PySem.W.codeIn K cdSi "store_in" = true)
    (w3Si : PySem.W.keepIn K (.ref fSi) = true)
    (w0Jp : PySem.W.nsIn K mainGlobals "joined_pair" = some (some (.ref fJp)))
    (w1Jp : K.lookup fJp = some ⟨ocJp, odJp, .func (PySem.W.fnOf "joined_pair" "joined_pair" (defArgs sJp) (defBody sJp) (defScope sJp) .none kVJp dcJp pmJp anJp cdJp ctJp), slJp⟩)
    (w2Jp : PySem.W.codeIn K cdJp "joined_pair" = true)
    (w3Jp : PySem.W.keepIn K (.ref fJp) = true)
    (w0Jt : PySem.W.nsIn K mainGlobals "joined_things" = some (some (.ref fJt)))
    (w1Jt : K.lookup fJt = some ⟨ocJt, odJt, .func (PySem.W.fnOf "joined_things" "joined_things" (defArgs sJt) (defBody sJt) (defScope sJt) .none kVJt dcJt pmJt anJt cdJt ctJt), slJt⟩)
    (w2Jt : PySem.W.codeIn K cdJt "joined_things" = true)
    (w3Jt : PySem.W.keepIn K (.ref fJt) = true)
    (w0Nn : PySem.W.nsIn K mainGlobals "new_names" = some (some (.ref fNn)))
    (w1Nn : K.lookup fNn = some ⟨ocNn, odNn, .func (PySem.W.fnOf "new_names" "new_names" (defArgs sNn) (defBody sNn) (defScope sNn) .none kVNn dcNn pmNn anNn cdNn ctNn), slNn⟩)
    (w2Nn : PySem.W.codeIn K cdNn "new_names" = true)
    (w3Nn : PySem.W.keepIn K (.ref fNn) = true)
    (w0Rn : PySem.W.nsIn K mainGlobals "reached_in" = some (some (.ref fRn)))
    (w1Rn : K.lookup fRn = some ⟨ocRn, odRn, .func (PySem.W.fnOf "reached_in" "reached_in" (defArgs sRin) (defBody sRin) (defScope sRin) .none kVRn dcRn pmRn anRn cdRn ctRn), slRn⟩)
    (w2Rn : PySem.W.codeIn K cdRn "reached_in" = true)
    (w3Rn : PySem.W.keepIn K (.ref fRn) = true)
    (w0Di : PySem.W.nsIn K mainGlobals "_law_dice" = some (some (.ref fDi)))
    (w1Di : K.lookup fDi = some ⟨ocDi, odDi, .func (PySem.W.fnOf "_law_dice" "_law_dice" (defArgs sDice) (defBody sDice) (defScope sDice) .none kVDi dcDi pmDi anDi cdDi ctDi), slDi⟩)
    (w2Di : PySem.W.codeIn K cdDi "_law_dice" = true)
    (w3Di : PySem.W.keepIn K (.ref fDi) = true)
    (w0Ro : PySem.W.nsIn K mainGlobals "_law_roll" = some (some (.ref fRo)))
    (w1Ro : K.lookup fRo = some ⟨ocRo, odRo, .func (PySem.W.fnOf "_law_roll" "_law_roll" (defArgs sRoll) (defBody sRoll) (defScope sRoll) .none kVRo dcRo pmRo anRo cdRo ctRo), slRo⟩)
    (w2Ro : PySem.W.codeIn K cdRo "_law_roll" = true)
    (w3Ro : PySem.W.keepIn K (.ref fRo) = true)
    (w0Pi : PySem.W.nsIn K mainGlobals "_law_pick" = some (some (.ref fPi)))
    (w1Pi : K.lookup fPi = some ⟨ocPi, odPi, .func (PySem.W.fnOf "_law_pick" "_law_pick" (defArgs sPick) (defBody sPick) (defScope sPick) .none kVPi dcPi pmPi anPi cdPi ctPi), slPi⟩)
    (w2Pi : PySem.W.codeIn K cdPi "_law_pick" = true)
    (w3Pi : PySem.W.keepIn K (.ref fPi) = true)
    (w0Mi : PySem.W.nsIn K mainGlobals "_law_mixed" = some (some (.ref fMi)))
    (w1Mi : K.lookup fMi = some ⟨ocMi, odMi, .func (PySem.W.fnOf "_law_mixed" "_law_mixed" (defArgs sMixed) (defBody sMixed) (defScope sMixed) .none kVMi dcMi pmMi anMi cdMi ctMi), slMi⟩)
    (w2Mi : PySem.W.codeIn K cdMi "_law_mixed" = true)
    (w3Mi : PySem.W.keepIn K (.ref fMi) = true)
    (w0Wo : PySem.W.nsIn K mainGlobals "_law_words" = some (some (.ref fWo)))
    (w1Wo : K.lookup fWo = some ⟨ocWo, odWo, .func (PySem.W.fnOf "_law_words" "_law_words" (defArgs sWords) (defBody sWords) (defScope sWords) .none kVWo dcWo pmWo anWo cdWo ctWo), slWo⟩)
    (w2Wo : PySem.W.codeIn K cdWo "_law_words" = true)
    (w3Wo : PySem.W.keepIn K (.ref fWo) = true)
    (w0Lg : PySem.W.nsIn K mainGlobals "_law_language" = some (some (.ref fLg)))
    (w1Lg : K.lookup fLg = some ⟨ocLg, odLg, .func (PySem.W.fnOf "_law_language" "_law_language" (defArgs sLg) (defBody sLg) (defScope sLg) .none kVLg dcLg pmLg anLg cdLg ctLg), slLg⟩)
    (w2Lg : PySem.W.codeIn K cdLg "_law_language" = true)
    (w3Lg : PySem.W.keepIn K (.ref fLg) = true)
    (w0Lk : PySem.W.nsIn K mainGlobals "_law_links" = some (some (.ref fLk)))
    (w1Lk : K.lookup fLk = some ⟨ocLk, odLk, .func (PySem.W.fnOf "_law_links" "_law_links" (defArgs sLk) (defBody sLk) (defScope sLk) .none kVLk dcLk pmLk anLk cdLk ctLk), slLk⟩)
    (w2Lk : PySem.W.codeIn K cdLk "_law_links" = true)
    (w3Lk : PySem.W.keepIn K (.ref fLk) = true)
    (w0So : PySem.W.nsIn K mainGlobals "_law_store" = some (some (.ref fSo)))
    (w1So : K.lookup fSo = some ⟨ocSo, odSo, .func (PySem.W.fnOf "_law_store" "_law_store" (defArgs sSto) (defBody sSto) (defScope sSto) .none kVSo dcSo pmSo anSo cdSo ctSo), slSo⟩)
    (w2So : PySem.W.codeIn K cdSo "_law_store" = true)
    (w3So : PySem.W.keepIn K (.ref fSo) = true)
    (w0Rs : PySem.W.nsIn K mainGlobals "require_store" = some (some (.ref fRs)))
    (w1Rs : K.lookup fRs = some ⟨ocRs, odRs, .func (PySem.W.fnOf "require_store" "require_store" (defArgs sRs) (defBody sRs) (defScope sRs) .none kVRs dcRs pmRs anRs cdRs ctRs), slRs⟩)
    (w2Rs : PySem.W.codeIn K cdRs "require_store" = true)
    (w3Rs : PySem.W.keepIn K (.ref fRs) = true)
    (w0Wa : PySem.W.nsIn K mainGlobals "way_to" = some (some (.ref fWa)))
    (w1Wa : K.lookup fWa = some ⟨ocWa, odWa, .func (PySem.W.fnOf "way_to" "way_to" (defArgs sWy) (defBody sWy) (defScope sWy) .none kVWa dcWa pmWa anWa cdWa ctWa), slWa⟩)
    (w2Wa : PySem.W.codeIn K cdWa "way_to" = true)
    (w3Wa : PySem.W.keepIn K (.ref fWa) = true)
    (w0Fw : PySem.W.nsIn K mainGlobals "first_ways" = some (some (.ref fFw)))
    (w1Fw : K.lookup fFw = some ⟨ocFw, odFw, .func (PySem.W.fnOf "first_ways" "first_ways" (defArgs sFw) (defBody sFw) (defScope sFw) .none kVFw dcFw pmFw anFw cdFw ctFw), slFw⟩)
    (w2Fw : PySem.W.codeIn K cdFw "first_ways" = true)
    (w3Fw : PySem.W.keepIn K (.ref fFw) = true)
    (w0Fs : PySem.W.nsIn K mainGlobals "first_way" = some (some (.ref fFs)))
    (w1Fs : K.lookup fFs = some ⟨ocFs, odFs, .func (PySem.W.fnOf "first_way" "first_way" (defArgs sFs) (defBody sFs) (defScope sFs) .none kVFs dcFs pmFs anFs cdFs ctFs), slFs⟩)
    (w2Fs : PySem.W.codeIn K cdFs "first_way" = true)
    (w3Fs : PySem.W.keepIn K (.ref fFs) = true)
    (w0Ft : PySem.W.nsIn K mainGlobals "_law_flat" = some (some (.ref fFt)))
    (w1Ft : K.lookup fFt = some ⟨ocFt, odFt, .func (PySem.W.fnOf "_law_flat" "_law_flat" (defArgs sFt) (defBody sFt) (defScope sFt) .none kVFt dcFt pmFt anFt cdFt ctFt), slFt⟩)
    (w2Ft : PySem.W.codeIn K cdFt "_law_flat" = true)
    (w3Ft : PySem.W.keepIn K (.ref fFt) = true)
    (w0Cg : PySem.W.nsIn K mainGlobals "_law_changed" = some (some (.ref fCg)))
    (w1Cg : K.lookup fCg = some ⟨ocCg, odCg, .func (PySem.W.fnOf "_law_changed" "_law_changed" (defArgs sCg) (defBody sCg) (defScope sCg) .none kVCg dcCg pmCg anCg cdCg ctCg), slCg⟩)
    (w2Cg : PySem.W.codeIn K cdCg "_law_changed" = true)
    (w3Cg : PySem.W.keepIn K (.ref fCg) = true)
    (w0Hr : PySem.W.nsIn K mainGlobals "_law_history_right" = some (some (.ref fHr)))
    (w1Hr : K.lookup fHr = some ⟨ocHr, odHr, .func (PySem.W.fnOf "_law_history_right" "_law_history_right" (defArgs sHr) (defBody sHr) (defScope sHr) .none kVHr dcHr pmHr anHr cdHr ctHr), slHr⟩)
    (w2Hr : PySem.W.codeIn K cdHr "_law_history_right" = true)
    (w3Hr : PySem.W.keepIn K (.ref fHr) = true)
    (w0Jr : PySem.W.nsIn K mainGlobals "_law_joined_right" = some (some (.ref fJr)))
    (w1Jr : K.lookup fJr = some ⟨ocJr, odJr, .func (PySem.W.fnOf "_law_joined_right" "_law_joined_right" (defArgs sJr) (defBody sJr) (defScope sJr) .none kVJr dcJr pmJr anJr cdJr ctJr), slJr⟩)
    (w2Jr : PySem.W.codeIn K cdJr "_law_joined_right" = true)
    (w3Jr : PySem.W.keepIn K (.ref fJr) = true)
    (w0La : PySem.W.nsIn K mainGlobals "law" = some (some (.ref fLa)))
    (w1La : K.lookup fLa = some ⟨ocLa, odLa, .func (PySem.W.fnOf "law" "law" (defArgs sLaw8) (defBody sLaw8) (defScope sLaw8) .none kVLa dcLa pmLa anLa cdLa ctLa), slLa⟩)
    (w2La : PySem.W.codeIn K cdLa "law" = true)
    (w3La : PySem.W.keepIn K (.ref fLa) = true)
    (w1LIn : K.lookup fLIn = some ⟨ocLIn, odLIn, .func (PySem.W.fnOf "__init__" "Language.__init__" (defArgs sLin) (defBody sLin) (defScope sLin) .none kVLIn dcLIn pmLIn anLIn cdLIn ctLIn), slLIn⟩)
    (w2LIn : PySem.W.codeIn K cdLIn "Language.__init__" = true)
    (w3LIn : PySem.W.keepIn K (.ref fLIn) = true)
    (w1LOf : K.lookup fLOf = some ⟨ocLOf, odLOf, .func (PySem.W.fnOf "of" "Language.of" (defArgs sLof) (defBody sLof) (defScope sLof) .none kVLOf dcLOf pmLOf anLOf cdLOf ctLOf), slLOf⟩)
    (w2LOf : PySem.W.codeIn K cdLOf "Language.of" = true)
    (w3LOf : PySem.W.keepIn K (.ref fLOf) = true)
    (w1LMk : K.lookup fLMk = some ⟨ocLMk, odLMk, .func (PySem.W.fnOf "marks" "Language.marks" (defArgs sLmk) (defBody sLmk) (defScope sLmk) .none kVLMk dcLMk pmLMk anLMk cdLMk ctLMk), slLMk⟩)
    (w2LMk : PySem.W.codeIn K cdLMk "Language.marks" = true)
    (w3LMk : PySem.W.keepIn K (.ref fLMk) = true)
    (w1LKi : K.lookup fLKi = some ⟨ocLKi, odLKi, .func (PySem.W.fnOf "kinds" "Language.kinds" (defArgs sLki) (defBody sLki) (defScope sLki) .none kVLKi dcLKi pmLKi anLKi cdLKi ctLKi), slLKi⟩)
    (w2LKi : PySem.W.codeIn K cdLKi "Language.kinds" = true)
    (w3LKi : PySem.W.keepIn K (.ref fLKi) = true)
    (w1LEq : K.lookup fLEq = some ⟨ocLEq, odLEq, .func (PySem.W.fnOf "__eq__" "Language.__eq__" (defArgs sLeq) (defBody sLeq) (defScope sLeq) .none kVLEq dcLEq pmLEq anLEq cdLEq ctLEq), slLEq⟩)
    (w2LEq : PySem.W.codeIn K cdLEq "Language.__eq__" = true)
    (w3LEq : PySem.W.keepIn K (.ref fLEq) = true)
    (w1SIn : K.lookup fSIn = some ⟨ocSIn, odSIn, .func (PySem.W.fnOf "__init__" "Store.__init__" (defArgs sSin) (defBody sSin) (defScope sSin) .none kVSIn dcSIn pmSIn anSIn cdSIn ctSIn), slSIn⟩)
    (w2SIn : PySem.W.codeIn K cdSIn "Store.__init__" = true)
    (w3SIn : PySem.W.keepIn K (.ref fSIn) = true)
    (w1SOf : K.lookup fSOf = some ⟨ocSOf, odSOf, .func (PySem.W.fnOf "of" "Store.of" (defArgs sSof) (defBody sSof) (defScope sSof) .none kVSOf dcSOf pmSOf anSOf cdSOf ctSOf), slSOf⟩)
    (w2SOf : PySem.W.codeIn K cdSOf "Store.of" = true)
    (w3SOf : PySem.W.keepIn K (.ref fSOf) = true)
    (w1STh : K.lookup fSTh = some ⟨ocSTh, odSTh, .func (PySem.W.fnOf "things" "Store.things" (defArgs sSth) (defBody sSth) (defScope sSth) .none kVSTh dcSTh pmSTh anSTh cdSTh ctSTh), slSTh⟩)
    (w2STh : PySem.W.codeIn K cdSTh "Store.things" = true)
    (w3STh : PySem.W.keepIn K (.ref fSTh) = true)
    (w1SEq : K.lookup fSEq = some ⟨ocSEq, odSEq, .func (PySem.W.fnOf "__eq__" "Store.__eq__" (defArgs sSeq) (defBody sSeq) (defScope sSeq) .none kVSEq dcSEq pmSEq anSEq cdSEq ctSEq), slSEq⟩)
    (w2SEq : PySem.W.codeIn K cdSEq "Store.__eq__" = true)
    (w3SEq : PySem.W.keepIn K (.ref fSEq) = true)
    (w1SHa : K.lookup fSHa = some ⟨ocSHa, odSHa, .func (PySem.W.fnOf "__contains__" "Store.__contains__" (defArgs sSha) (defBody sSha) (defScope sSha) .none kVSHa dcSHa pmSHa anSHa cdSHa ctSHa), slSHa⟩)
    (w2SHa : PySem.W.codeIn K cdSHa "Store.__contains__" = true)
    (w3SHa : PySem.W.keepIn K (.ref fSHa) = true)
    (w1SWp : K.lookup fSWp = some ⟨ocSWp, odSWp, .func (PySem.W.fnOf "with_pair" "Store.with_pair" (defArgs sWp) (defBody sWp) (defScope sWp) .none kVSWp dcSWp pmSWp anSWp cdSWp ctSWp), slSWp⟩)
    (w2SWp : PySem.W.codeIn K cdSWp "Store.with_pair" = true)
    (w3SWp : PySem.W.keepIn K (.ref fSWp) = true)
    (w1SWt : K.lookup fSWt = some ⟨ocSWt, odSWt, .func (PySem.W.fnOf "with_thing" "Store.with_thing" (defArgs sWt) (defBody sWt) (defScope sWt) .none kVSWt dcSWt pmSWt anSWt cdSWt ctSWt), slSWt⟩)
    (w2SWt : PySem.W.codeIn K cdSWt "Store.with_thing" = true)
    (w3SWt : PySem.W.keepIn K (.ref fSWt) = true)
    (w1SWm : K.lookup fSWm = some ⟨ocSWm, odSWm, .func (PySem.W.fnOf "with_marks" "Store.with_marks" (defArgs sWm) (defBody sWm) (defScope sWm) .none kVSWm dcSWm pmSWm anSWm cdSWm ctSWm), slSWm⟩)
    (w2SWm : PySem.W.codeIn K cdSWm "Store.with_marks" = true)
    (w3SWm : PySem.W.keepIn K (.ref fSWm) = true)
    (w1SRl : K.lookup fSRl = some ⟨ocSRl, odSRl, .func (PySem.W.fnOf "require_link" "Store.require_link" (defArgs sRlk) (defBody sRlk) (defScope sRlk) .none kVSRl dcSRl pmSRl anSRl cdSRl ctSRl), slSRl⟩)
    (w2SRl : PySem.W.codeIn K cdSRl "Store.require_link" = true)
    (w3SRl : PySem.W.keepIn K (.ref fSRl) = true)
    (w1SWl : K.lookup fSWl = some ⟨ocSWl, odSWl, .func (PySem.W.fnOf "with_link" "Store.with_link" (defArgs sWl) (defBody sWl) (defScope sWl) .none kVSWl dcSWl pmSWl anSWl cdSWl ctSWl), slSWl⟩)
    (w2SWl : PySem.W.codeIn K cdSWl "Store.with_link" = true)
    (w3SWl : PySem.W.keepIn K (.ref fSWl) = true)
    (w1SWo : K.lookup fSWo = some ⟨ocSWo, odSWo, .func (PySem.W.fnOf "without_link" "Store.without_link" (defArgs sWol) (defBody sWol) (defScope sWol) .none kVSWo dcSWo pmSWo anSWo cdSWo ctSWo), slSWo⟩)
    (w2SWo : PySem.W.codeIn K cdSWo "Store.without_link" = true)
    (w3SWo : PySem.W.keepIn K (.ref fSWo) = true)
    (w1SWh : K.lookup fSWh = some ⟨ocSWh, odSWh, .func (PySem.W.fnOf "without_thing" "Store.without_thing" (defArgs sWot) (defBody sWot) (defScope sWot) .none kVSWh dcSWh pmSWh anSWh cdSWh ctSWh), slSWh⟩)
    (w2SWh : PySem.W.codeIn K cdSWh "Store.without_thing" = true)
    (w3SWh : PySem.W.keepIn K (.ref fSWh) = true)
    (w1SNm : K.lookup fSNm = some ⟨ocSNm, odSNm, .func (PySem.W.fnOf "names" "Store.names" (defArgs sSnm) (defBody sSnm) (defScope sSnm) .none kVSNm dcSNm pmSNm anSNm cdSNm ctSNm), slSNm⟩)
    (w2SNm : PySem.W.codeIn K cdSNm "Store.names" = true)
    (w3SNm : PySem.W.keepIn K (.ref fSNm) = true)
    (w1SLe : K.lookup fSLe = some ⟨ocSLe, odSLe, .func (PySem.W.fnOf "__len__" "Store.__len__" (defArgs sSle) (defBody sSle) (defScope sSle) .none kVSLe dcSLe pmSLe anSLe cdSLe ctSLe), slSLe⟩)
    (w2SLe : PySem.W.codeIn K cdSLe "Store.__len__" = true)
    (w3SLe : PySem.W.keepIn K (.ref fSLe) = true)
    (w1SRb : K.lookup fSRb = some ⟨ocSRb, odSRb, .func (PySem.W.fnOf "renamed_by" "Store.renamed_by" (defArgs sRb) (defBody sRb) (defScope sRb) .none kVSRb dcSRb pmSRb anSRb cdSRb ctSRb), slSRb⟩)
    (w2SRb : PySem.W.codeIn K cdSRb "Store.renamed_by" = true)
    (w3SRb : PySem.W.keepIn K (.ref fSRb) = true)
    (w1SRe : K.lookup fSRe = some ⟨ocSRe, odSRe, .func (PySem.W.fnOf "reached" "Store.reached" (defArgs sRea) (defBody sRea) (defScope sRea) .none kVSRe dcSRe pmSRe anSRe cdSRe ctSRe), slSRe⟩)
    (w2SRe : PySem.W.codeIn K cdSRe "Store.reached" = true)
    (w3SRe : PySem.W.keepIn K (.ref fSRe) = true)
    (w1SOr : K.lookup fSOr = some ⟨ocSOr, odSOr, .func (PySem.W.fnOf "__or__" "Store.__or__" (defArgs sSor) (defBody sSor) (defScope sSor) .none kVSOr dcSOr pmSOr anSOr cdSOr ctSOr), slSOr⟩)
    (w2SOr : PySem.W.codeIn K cdSOr "Store.__or__" = true)
    (w3SOr : PySem.W.keepIn K (.ref fSOr) = true)
    (w1MIn : K.lookup fMIn = some ⟨ocMIn, odMIn, .func (PySem.W.fnOf "__init__" "MadeStore.__init__" (defArgs sMin) (defBody sMin) (defScope sMin) .none kVMIn dcMIn pmMIn anMIn cdMIn ctMIn), slMIn⟩)
    (w2MIn : PySem.W.codeIn K cdMIn "MadeStore.__init__" = true)
    (w3MIn : PySem.W.keepIn K (.ref fMIn) = true)
    (z_isinstance : PySem.W.nsIn K mainGlobals "isinstance" = some none)
    (z_tuple : PySem.W.nsIn K mainGlobals "tuple" = some none)
    (z_all : PySem.W.nsIn K mainGlobals "all" = some none)
    (z_any : PySem.W.nsIn K mainGlobals "any" = some none)
    (z_sorted : PySem.W.nsIn K mainGlobals "sorted" = some none)
    (z_list : PySem.W.nsIn K mainGlobals "list" = some none)
    (z_len : PySem.W.nsIn K mainGlobals "len" = some none)
    (z_str : PySem.W.nsIn K mainGlobals "str" = some none)
    (z_int : PySem.W.nsIn K mainGlobals "int" = some none)
    (z_abs : PySem.W.nsIn K mainGlobals "abs" = some none)
    (z_max : PySem.W.nsIn K mainGlobals "max" = some none)
    (z_min : PySem.W.nsIn K mainGlobals "min" = some none)
    (z_range : PySem.W.nsIn K mainGlobals "range" = some none)
    (z_set : PySem.W.nsIn K mainGlobals "set" = some none)
    (z_dict : PySem.W.nsIn K mainGlobals "dict" = some none)
    (z_enumerate : PySem.W.nsIn K mainGlobals "enumerate" = some none)
    (g8 : PySem.W.nsIn K mainGlobals "MAX_MARKS" = some (some (.int 8 t8)))
    (g4 : PySem.W.nsIn K mainGlobals "MAX_KINDS" = some (some (.int 4 t4)))
    (g9 : PySem.W.nsIn K mainGlobals "MAX_SIGNS" = some (some (.int 8 t9)))
    (gT : PySem.W.nsIn K mainGlobals "MAX_THINGS" = some (some (.int 400 tT)))
    (gs : PySem.W.nsIn K mainGlobals "SIGNS" = some (some (.str "abcdefghijklmnopqrstuvwxyz" ts)))
    : ∃ fd : FuncData, (∀ (s : Shared) (u : Value), BindsTo s fd ⟨[u], []⟩ [("_law_script", u)]) ∧ ∀ base : Heap, K.In base → base.Ns mainGlobals mg → FnOk P w K mg base CX0 9 fa fd ["_law_script"] (spLaw8 K) := by
  have e := hfa.symm.trans (PySem.W.mg_of X G w0La)
  cases e
  have L : LCls K CL := ⟨⟨i1CL, i2CL, i3CL, i4CL⟩, j0CL, j1CL⟩
  have SS : SCls K CS := ⟨⟨i1CS, i2CS, i3CS, i4CS⟩, j0CS, j1CS⟩
  have SM : SCls K CM := ⟨⟨i1CM, i2CM, i3CM, i4CM⟩, j0CM, j1CM⟩
  have ML : Mk K CL fLIn := ⟨k1CL, iniCL, v2LIn, k2CL⟩
  have MS : Mk K CS fSIn := ⟨k1CS, iniCS, v2SIn, k2CS⟩
  have MM : Mk K CM fMIn := ⟨k1CM, iniCM, v2MIn, k2CM⟩
  have Is : LIs K CL := ⟨k3CL, e5, e6, k4CL, by unfold PySem.W.kitOne; rw [if_pos (beq_self_eq_true _)]⟩
  have Im : SIs K CS CM := ⟨k3CM, e5, e6, k4CM, kit_refT k6CS k7CS suMS⟩
  have Iss : SIs K CS CS := ⟨k3CS, e5, e6, k4CS, by unfold PySem.W.kitOne; rw [if_pos (beq_self_eq_true _)]⟩
  have NL : NeO K CL := ⟨k5CL, k4CL⟩
  have NM : NeO K CM := ⟨k5CM, k4CM⟩
  have crL : CRead K CL (.type "type") := ⟨r1CL, r2CL⟩
  have cmL : CMet K CL (.type "type") "of" pLO fLOf := ⟨r3CL, ⟨_, r4CL⟩, r5CL⟩
  have crS : CRead K CS (.type "type") := ⟨r1CS, r2CS⟩
  have cmS : CMet K CS (.type "type") "of" pSO fSOf := ⟨r3CS, ⟨_, r4CS⟩, r5CS⟩
  have pLM' : PropOf K CL "marks" pLM fLMk := ⟨u1CLLMk, u2LMk, u3LMk, ⟨_, u4LMk⟩⟩
  have pLK' : PropOf K CL "kinds" pLK fLKi := ⟨u1CLLKi, u2LKi, u3LKi, ⟨_, u4LKi⟩⟩
  have pST' : PropOf K CM "things" pST fSTh := ⟨u1CMSTh, u2STh, u3STh, ⟨_, u4STh⟩⟩
  have pSTs : PropOf K CS "things" pST fSTh := ⟨u1CSSTh, u2STh, u3STh, ⟨_, u4STh⟩⟩
  have pSN' : PropOf K CM "names" pSN fSNm := ⟨u1CMSNm, u2SNm, u3SNm, ⟨_, u4SNm⟩⟩
  have pSNs : PropOf K CS "names" pSN fSNm := ⟨u1CSSNm, u2SNm, u3SNm, ⟨_, u4SNm⟩⟩
  have FNa := fun_mk (st := sName) w1Na w2Na w3Na
  have FRl := fun_mk (st := sRl) w1Rl w2Rl w3Rl
  have FRm := fun_mk (st := sRm) w1Rm w2Rm w3Rm
  have FRk := fun_mk (st := sRk) w1Rk w2Rk w3Rk
  have FDn := fun_mk (st := sDn) w1Dn w2Dn w3Dn
  have FRt := fun_mk (st := sRt) w1Rt w2Rt w3Rt
  have FRp := fun_mk (st := sRp) w1Rp w2Rp w3Rp
  have FDs := fun_mk (st := sDi) w1Ds w2Ds w3Ds
  have FCk := fun_mk (st := sCk) w1Ck w2Ck w3Ck
  have FSi := fun_mk (st := sSi) w1Si w2Si w3Si
  have FJp := fun_mk (st := sJp) w1Jp w2Jp w3Jp
  have FJt := fun_mk (st := sJt) w1Jt w2Jt w3Jt
  have FNn := fun_mk (st := sNn) w1Nn w2Nn w3Nn
  have FRn := fun_mk (st := sRin) w1Rn w2Rn w3Rn
  have FDi := fun_mk (st := sDice) w1Di w2Di w3Di
  have FRo := fun_mk (st := sRoll) w1Ro w2Ro w3Ro
  have FPi := fun_mk (st := sPick) w1Pi w2Pi w3Pi
  have FMi := fun_mk (st := sMixed) w1Mi w2Mi w3Mi
  have FWo := fun_mk (st := sWords) w1Wo w2Wo w3Wo
  have FLg := fun_mk (st := sLg) w1Lg w2Lg w3Lg
  have FLk := fun_mk (st := sLk) w1Lk w2Lk w3Lk
  have FSo := fun_mk (st := sSto) w1So w2So w3So
  have FRs := fun_mk (st := sRs) w1Rs w2Rs w3Rs
  have FWa := fun_mk (st := sWy) w1Wa w2Wa w3Wa
  have FFw := fun_mk (st := sFw) w1Fw w2Fw w3Fw
  have FFs := fun_mk (st := sFs) w1Fs w2Fs w3Fs
  have FFt := fun_mk (st := sFt) w1Ft w2Ft w3Ft
  have FCg := fun_mk (st := sCg) w1Cg w2Cg w3Cg
  have FHr := fun_mk (st := sHr) w1Hr w2Hr w3Hr
  have FJr := fun_mk (st := sJr) w1Jr w2Jr w3Jr
  have FLa := fun_mk (st := sLaw8) w1La w2La w3La
  have FLIn := fun_mk (st := sLin) w1LIn w2LIn w3LIn
  have FLOf := fun_mk (st := sLof) w1LOf w2LOf w3LOf
  have FLMk := fun_mk (st := sLmk) w1LMk w2LMk w3LMk
  have FLKi := fun_mk (st := sLki) w1LKi w2LKi w3LKi
  have FLEq := fun_mk (st := sLeq) w1LEq w2LEq w3LEq
  have FSIn := fun_mk (st := sSin) w1SIn w2SIn w3SIn
  have FSOf := fun_mk (st := sSof) w1SOf w2SOf w3SOf
  have FSTh := fun_mk (st := sSth) w1STh w2STh w3STh
  have FSEq := fun_mk (st := sSeq) w1SEq w2SEq w3SEq
  have FSHa := fun_mk (st := sSha) w1SHa w2SHa w3SHa
  have FSWp := fun_mk (st := sWp) w1SWp w2SWp w3SWp
  have FSWt := fun_mk (st := sWt) w1SWt w2SWt w3SWt
  have FSWm := fun_mk (st := sWm) w1SWm w2SWm w3SWm
  have FSRl := fun_mk (st := sRlk) w1SRl w2SRl w3SRl
  have FSWl := fun_mk (st := sWl) w1SWl w2SWl w3SWl
  have FSWo := fun_mk (st := sWol) w1SWo w2SWo w3SWo
  have FSWh := fun_mk (st := sWot) w1SWh w2SWh w3SWh
  have FSNm := fun_mk (st := sSnm) w1SNm w2SNm w3SNm
  have FSLe := fun_mk (st := sSle) w1SLe w2SLe w3SLe
  have FSRb := fun_mk (st := sRb) w1SRb w2SRb w3SRb
  have FSRe := fun_mk (st := sRea) w1SRe w2SRe w3SRe
  have FSOr := fun_mk (st := sSor) w1SOr w2SOr w3SOr
  have FMIn := fun_mk (st := sMin) w1MIn w2MIn w3MIn
  have bNa := FNa.binds (ps := ["value"]) fun _ _ _ _ _ _ us hl => match us, hl with | [_], _ => rfl
  have bRl := FRl.binds (ps := ["language"]) fun _ _ _ _ _ _ us hl => match us, hl with | [_], _ => rfl
  have bRm := FRm.binds (ps := ["language", "mark"]) fun _ _ _ _ _ _ us hl => match us, hl with | [_, _], _ => rfl
  have bRk := FRk.binds (ps := ["language", "kind"]) fun _ _ _ _ _ _ us hl => match us, hl with | [_, _], _ => rfl
  have bDn := FDn.binds (ps := ["values"]) fun _ _ _ _ _ _ us hl => match us, hl with | [_], _ => rfl
  have bRt := FRt.binds (ps := ["store", "thing"]) fun _ _ _ _ _ _ us hl => match us, hl with | [_, _], _ => rfl
  have bRp := FRp.binds (ps := ["language", "things", "pair"]) fun _ _ _ _ _ _ us hl => match us, hl with | [_, _, _], _ => rfl
  have bDs := FDs.binds (ps := ["items"]) fun _ _ _ _ _ _ us hl => match us, hl with | [_], _ => rfl
  have bCk := FCk.binds (ps := ["language", "things"]) fun _ _ _ _ _ _ us hl => match us, hl with | [_, _], _ => rfl
  have bSi := FSi.binds (ps := ["language", "things"]) fun _ _ _ _ _ _ us hl => match us, hl with | [_, _], _ => rfl
  have bJp := FJp.binds (ps := ["pair", "other"]) fun _ _ _ _ _ _ us hl => match us, hl with | [_, _], _ => rfl
  have bJt := FJt.binds (ps := ["things", "others"]) fun _ _ _ _ _ _ us hl => match us, hl with | [_, _], _ => rfl
  have bNn := FNn.binds (ps := ["things", "names"]) fun _ _ _ _ _ _ us hl => match us, hl with | [_, _], _ => rfl
  have bRn := FRn.binds (ps := ["things", "thing"]) fun _ _ _ _ _ _ us hl => match us, hl with | [_, _], _ => rfl
  have bDi := FDi.binds (ps := ["_law_script", "_law_spot"]) fun _ _ _ _ _ _ us hl => match us, hl with | [_, _], _ => rfl
  have bRo := FRo.binds (ps := ["_law_dice_here", "_law_upto"]) fun _ _ _ _ _ _ us hl => match us, hl with | [_, _], _ => rfl
  have bPi := FPi.binds (ps := ["_law_dice_here", "_law_items"]) fun _ _ _ _ _ _ us hl => match us, hl with | [_, _], _ => rfl
  have bMi := FMi.binds (ps := ["_law_dice_here", "_law_items"]) fun _ _ _ _ _ _ us hl => match us, hl with | [_, _], _ => rfl
  have bWo := FWo.binds (ps := ["_law_dice_here", "_law_upto"]) fun _ _ _ _ _ _ us hl => match us, hl with | [_, _], _ => rfl
  have bLg := FLg.binds (ps := ["_law_dice_here", "_law_marks", "_law_sorts"]) fun _ _ _ _ _ _ us hl => match us, hl with | [_, _, _], _ => rfl
  have bLk := FLk.binds (ps := ["_law_dice_here", "_law_language_here", "_law_names", "_law_at", "_law_way"]) fun _ _ _ _ _ _ us hl => match us, hl with | [_, _, _, _, _], _ => rfl
  have bSo := FSo.binds (ps := ["_law_dice_here", "_law_language_here", "_law_most"]) fun _ _ _ _ _ _ us hl => match us, hl with | [_, _, _], _ => rfl
  have bRs := FRs.binds (ps := ["store"]) fun _ _ _ _ _ _ us hl => match us, hl with | [_], _ => rfl
  have bWa := FWa.binds (ps := ["links", "last"]) fun _ _ _ _ _ _ us hl => match us, hl with | [_, _], _ => rfl
  have bFw := FFw.binds (ps := ["things", "thing"]) fun _ _ _ _ _ _ us hl => match us, hl with | [_, _], _ => rfl
  have bFs := FFs.binds (ps := ["store", "thing", "other"]) fun _ _ _ _ _ _ us hl => match us, hl with | [_, _, _], _ => rfl
  have bFt := FFt.binds (ps := ["_law_store_here"]) fun _ _ _ _ _ _ us hl => match us, hl with | [_], _ => rfl
  have bCg := FCg.binds (ps := ["_law_dice_here", "_law_language_here", "_law_made", "_law_flat_here"]) fun _ _ _ _ _ _ us hl => match us, hl with | [_, _, _, _], _ => rfl
  have bHr := FHr.binds (ps := ["_law_dice_here", "_law_language_here", "_law_made", "_law_flat_here"]) fun _ _ _ _ _ _ us hl => match us, hl with | [_, _, _, _], _ => rfl
  have bJr := FJr.binds (ps := ["_law_dice_here", "_law_language_here", "_law_base"]) fun _ _ _ _ _ _ us hl => match us, hl with | [_, _, _], _ => rfl
  have bLa := FLa.binds (ps := ["_law_script"]) fun _ _ _ _ _ _ us hl => match us, hl with | [_], _ => rfl
  have bLOf := FLOf.binds (ps := ["cls", "marks", "kinds"]) fun _ _ _ _ _ _ us hl => match us, hl with | [_, _, _], _ => rfl
  have bLMk := FLMk.binds (ps := ["self"]) fun _ _ _ _ _ _ us hl => match us, hl with | [_], _ => rfl
  have bLKi := FLKi.binds (ps := ["self"]) fun _ _ _ _ _ _ us hl => match us, hl with | [_], _ => rfl
  have bLEq := FLEq.binds (ps := ["self", "other"]) fun _ _ _ _ _ _ us hl => match us, hl with | [_, _], _ => rfl
  have bSOf := FSOf.binds (ps := ["cls", "language", "things"]) fun _ _ _ _ _ _ us hl => match us, hl with | [_, _, _], _ => rfl
  have bSTh := FSTh.binds (ps := ["self"]) fun _ _ _ _ _ _ us hl => match us, hl with | [_], _ => rfl
  have bSEq := FSEq.binds (ps := ["self", "other"]) fun _ _ _ _ _ _ us hl => match us, hl with | [_, _], _ => rfl
  have bSHa := FSHa.binds (ps := ["self", "value"]) fun _ _ _ _ _ _ us hl => match us, hl with | [_, _], _ => rfl
  have bSWp := FSWp.binds (ps := ["self", "thing", "marks", "links"]) fun _ _ _ _ _ _ us hl => match us, hl with | [_, _, _, _], _ => rfl
  have bSRl := FSRl.binds (ps := ["self", "thing", "kind", "end"]) fun _ _ _ _ _ _ us hl => match us, hl with | [_, _, _, _], _ => rfl
  have bSWl := FSWl.binds (ps := ["self", "thing", "kind", "end"]) fun _ _ _ _ _ _ us hl => match us, hl with | [_, _, _, _], _ => rfl
  have bSWo := FSWo.binds (ps := ["self", "thing", "kind", "end"]) fun _ _ _ _ _ _ us hl => match us, hl with | [_, _, _, _], _ => rfl
  have bSWh := FSWh.binds (ps := ["self", "thing"]) fun _ _ _ _ _ _ us hl => match us, hl with | [_, _], _ => rfl
  have bSNm := FSNm.binds (ps := ["self"]) fun _ _ _ _ _ _ us hl => match us, hl with | [_], _ => rfl
  have bSLe := FSLe.binds (ps := ["self"]) fun _ _ _ _ _ _ us hl => match us, hl with | [_], _ => rfl
  have bSRb := FSRb.binds (ps := ["self", "names"]) fun _ _ _ _ _ _ us hl => match us, hl with | [_, _], _ => rfl
  have bSRe := FSRe.binds (ps := ["self", "thing"]) fun _ _ _ _ _ _ us hl => match us, hl with | [_, _], _ => rfl
  have bSOr := FSOr.binds (ps := ["self", "other"]) fun _ _ _ _ _ _ us hl => match us, hl with | [_, _], _ => rfl
  have bMIn := FMIn.binds (ps := ["self", "language", "things"]) fun _ _ _ _ _ _ us hl => match us, hl with | [_, _, _], _ => rfl
  have m_isinstance := PySem.W.mg_none_of X G z_isinstance
  have m_tuple := PySem.W.mg_none_of X G z_tuple
  have m_all := PySem.W.mg_none_of X G z_all
  have m_any := PySem.W.mg_none_of X G z_any
  have m_sorted := PySem.W.mg_none_of X G z_sorted
  have m_list := PySem.W.mg_none_of X G z_list
  have m_len := PySem.W.mg_none_of X G z_len
  have m_str := PySem.W.mg_none_of X G z_str
  have m_int := PySem.W.mg_none_of X G z_int
  have m_abs := PySem.W.mg_none_of X G z_abs
  have m_max := PySem.W.mg_none_of X G z_max
  have m_min := PySem.W.mg_none_of X G z_min
  have m_range := PySem.W.mg_none_of X G z_range
  have m_set := PySem.W.mg_none_of X G z_set
  have m_dict := PySem.W.mg_none_of X G z_dict
  have m_enumerate := PySem.W.mg_none_of X G z_enumerate
  have qNa := PySem.W.mg_of X G w0Na
  have qRl := PySem.W.mg_of X G w0Rl
  have qRm := PySem.W.mg_of X G w0Rm
  have qRk := PySem.W.mg_of X G w0Rk
  have qDn := PySem.W.mg_of X G w0Dn
  have qRt := PySem.W.mg_of X G w0Rt
  have qRp := PySem.W.mg_of X G w0Rp
  have qDs := PySem.W.mg_of X G w0Ds
  have qCk := PySem.W.mg_of X G w0Ck
  have qSi := PySem.W.mg_of X G w0Si
  have qJp := PySem.W.mg_of X G w0Jp
  have qJt := PySem.W.mg_of X G w0Jt
  have qNn := PySem.W.mg_of X G w0Nn
  have qRn := PySem.W.mg_of X G w0Rn
  have qDi := PySem.W.mg_of X G w0Di
  have qRo := PySem.W.mg_of X G w0Ro
  have qPi := PySem.W.mg_of X G w0Pi
  have qMi := PySem.W.mg_of X G w0Mi
  have qWo := PySem.W.mg_of X G w0Wo
  have qLg := PySem.W.mg_of X G w0Lg
  have qLk := PySem.W.mg_of X G w0Lk
  have qSo := PySem.W.mg_of X G w0So
  have qRs := PySem.W.mg_of X G w0Rs
  have qWa := PySem.W.mg_of X G w0Wa
  have qFw := PySem.W.mg_of X G w0Fw
  have qFs := PySem.W.mg_of X G w0Fs
  have qFt := PySem.W.mg_of X G w0Ft
  have qCg := PySem.W.mg_of X G w0Cg
  have qHr := PySem.W.mg_of X G w0Hr
  have qJr := PySem.W.mg_of X G w0Jr
  have qLa := PySem.W.mg_of X G w0La
  have gL := PySem.W.mg_of X G aCL
  have gS := PySem.W.mg_of X G aCS
  have gM := PySem.W.mg_of X G aCM
  have g8' := PySem.W.mg_of X G g8
  have g4' := PySem.W.mg_of X G g4
  have g9' := PySem.W.mg_of X G g9
  have gT' := PySem.W.mg_of X G gT
  have gs' : mg "SIGNS" = some (.str signs ts) := PySem.W.mg_of X G gs
  refine ⟨PySem.W.fnOf "law" "law" (defArgs sLaw8) (defBody sLaw8) (defScope sLaw8) .none kVLa dcLa pmLa anLa cdLa ctLa, fun s u => .of_eq rfl, fun base _ _ => ?_⟩
  have GN : ∀ k, CdN P w K mg base (k + 1) "is_name" ["value"] (spName K) := fun k => ⟨_, _, ok_name FNa m_isinstance m_str m_len m_all g9' gs', bNa, qNa, w3Na⟩
  have DN : ∀ k, CdN P w K mg base (k + 2) "different_names" ["values"] (spDn K) := fun k => ⟨_, _, ok_dn FDn (GN k) m_isinstance m_tuple m_all m_sorted m_list, bDn, qDn, w3Dn⟩
  have LI : ∀ k, FnA P w K mg base CX0 (k + 3) fLIn ["kinds"] (spLin K CL) := fun k => ok_lin FLIn L (DN k) m_len m_any g8' g4'
  have LO : ∀ k, CmN P w K mg base (k + 5) CL "of" (spLof K CL) := fun k => ⟨_, _, _, crL, cmL, rawN (ok_lof FLOf ML (LI k) m_isinstance m_tuple) bLOf⟩
  have PM : ∀ k, PpN P w K mg base (k + 1) CL "marks" (spLmk CL true) := fun k => ⟨_, _, _, ok_lmk FLMk L, bLMk, pLM'⟩
  have PK : ∀ k, PpN P w K mg base (k + 1) CL "kinds" (spLmk CL false) := fun k => ⟨_, _, _, ok_lki FLKi L, bLKi, pLK'⟩
  have RL : ∀ k, CdN P w K mg base (k + 1) "require_language" ["language"] (spRl CL) := fun k => ⟨_, _, ok_rl FRl L Is gL m_isinstance, bRl, qRl, w3Rl⟩
  have RP : ∀ k, CdN P w K mg base (k + 3) "require_pair" ["language", "things", "pair"] (spRp CL) := fun k => ⟨_, _, ok_rp FRp L (PM k) (PK k) m_isinstance m_tuple m_len m_all m_str, bRp, qRp, w3Rp⟩
  have DIS : ∀ k, CdN P w K mg base (k + 1) "different_items" ["items"] spDiS := fun k => ⟨_, _, ok_dis FDs m_tuple m_sorted m_list, bDs, qDs, w3Ds⟩
  have DIP : ∀ k, CdN P w K mg base (k + 1) "different_items" ["items"] spDiP := fun k => ⟨_, _, ok_dip FDs m_tuple m_sorted m_list, bDs, qDs, w3Ds⟩
  have CK : ∀ k, CdN P w K mg base (k + 4) "checked_things" ["language", "things"] (spCk CL) := fun k => ⟨_, _, ok_ck FCk (GN (k + 2)) (RP k) (DIS (k + 2)) (DIP (k + 2)) m_isinstance m_dict m_all m_len m_sorted m_list gT', bCk, qCk, w3Ck⟩
  have SO : ∀ k, CmN P w K mg base (k + 5) CS "of" (spSof CL CS CM) := fun k => ⟨_, _, _, crS, cmS, rawN (ok_sof FSOf MM (ok_min (k := k + 2) FMIn SM) bMIn gM (RL (k + 3)) (CK k)) bSOf⟩
  have I0 : ∀ k, FnR P w K mg base CX0 (k + 5) fSIn (spSin0 CL CS) := fun k => ok_sin0 FSIn SS (RL (k + 3)) (CK k)
  have HA : ∀ k, OwN P w K mg base (k + 1) CM "__contains__" (spSha K CL CM) := fun k => ⟨_, rawN (ok_sha FSHa SM m_isinstance m_str) bSHa, ⟨v1CMSHa, v2SHa⟩⟩
  have HAS : ∀ k, OwN P w K mg base (k + 1) CS "__contains__" (spSha K CL CS) := fun k => ⟨_, rawN (ok_sha FSHa SS m_isinstance m_str) bSHa, ⟨v1CSSHa, v2SHa⟩⟩
  have RT : ∀ k, CdN P w K mg base (k + 2) "require_thing" ["store", "thing"] (spRt CL CM) := fun k => ⟨_, _, ok_rt FRt (HA k), bRt, qRt, w3Rt⟩
  have RTS : ∀ k, CdN P w K mg base (k + 2) "require_thing" ["store", "thing"] (spRt CL CS) := fun k => ⟨_, _, ok_rt FRt (HAS k), bRt, qRt, w3Rt⟩
  have RK : ∀ k, CdN P w K mg base (k + 3) "require_kind" ["language", "kind"] (spRk CL) := fun k => ⟨_, _, ok_rk FRk L (PK k), bRk, qRk, w3Rk⟩
  have RM : ∀ k, CdN P w K mg base (k + 3) "require_mark" ["language", "mark"] (spRm CL) := fun k => ⟨_, _, ok_rm FRm L (PM k), bRm, qRm, w3Rm⟩
  have SI : ∀ k, CdN P w K mg base (k + 3) "store_in" ["language", "things"] (spSi CL CM) := fun k => ⟨_, _, ok_si FSi MM (ok_min (k := k) FMIn SM) bMIn gM m_len m_sorted m_list gT', bSi, qSi, w3Si⟩
  have WP : ∀ k, MtN P w K mg base (k + 4) CM "with_pair" ["self", "thing", "marks", "links"] (spWp CL CM CM) := fun k => ⟨_, _, ok_wp FSWp SM (DIS (k + 2)) (DIP (k + 2)) (SI k), bSWp, ⟨v1CMSWp, v2SWp, w3SWp⟩⟩
  have RLK : ∀ k, MtN P w K mg base (k + 4) CM "require_link" ["self", "thing", "kind", "end"] (spRlk CL CM) := fun k => ⟨_, _, ok_rlk FSRl SM (RT (k + 1)) (RK k), bSRl, ⟨v1CMSRl, v2SRl, w3SRl⟩⟩
  have WL : ∀ k, MtN P w K mg base (k + 5) CM "with_link" ["self", "thing", "kind", "end"] (spWl CL CM CM) := fun k => ⟨_, _, ok_wl FSWl SM (RLK k) (WP k), bSWl, ⟨v1CMSWl, v2SWl, w3SWl⟩⟩
  have WO : ∀ k, MtN P w K mg base (k + 5) CM "without_link" ["self", "thing", "kind", "end"] (spWol CL CM CM) := fun k => ⟨_, _, ok_wol FSWo SM (RLK k) (WP k) m_tuple, bSWo, ⟨v1CMSWo, v2SWo, w3SWo⟩⟩
  have WH : ∀ k, MtN P w K mg base (k + 4) CM "without_thing" ["self", "thing"] (spWot CL CM CM) := fun k => ⟨_, _, ok_wot FSWh SM (RT (k + 1)) (SI k) m_tuple, bSWh, ⟨v1CMSWh, v2SWh, w3SWh⟩⟩
  have WT : ∀ k, MtR P w K mg base (k + 5) CM "with_thing" (spWt CL CM CM) := fun k => ⟨_, ok_wt FSWt SM (GN (k + 3)) (RM (k + 1)) (WP k), ⟨v1CMSWt, v2SWt, w3SWt⟩⟩
  have WM : ∀ k, MtR P w K mg base (k + 5) CM "with_marks" (spWm CL CM CM) := fun k => ⟨_, ok_wm FSWm SM (RT (k + 2)) (RM (k + 1)) (WP k), ⟨v1CMSWm, v2SWm, w3SWm⟩⟩
  have D8 : C8 P w K mg base 5 CL CM CM := ⟨SM.cl, ⟨_, _, _, ok_sth FSTh SM m_dict, bSTh, pST'⟩, ⟨_, _, _, ok_snm FSNm SM m_tuple m_list, bSNm, pSN'⟩, ⟨_, rawN (ok_sle FSLe SM m_len) bSLe, ⟨v1CMSLe, v2SLe⟩⟩, WL 0, WO 0, WH 1, WT 0, WM 0⟩
  have WPS : ∀ k, MtN P w K mg base (k + 4) CS "with_pair" ["self", "thing", "marks", "links"] (spWp CL CS CM) := fun k => ⟨_, _, ok_wp FSWp SS (DIS (k + 2)) (DIP (k + 2)) (SI k), bSWp, ⟨v1CSSWp, v2SWp, w3SWp⟩⟩
  have RLKS : ∀ k, MtN P w K mg base (k + 4) CS "require_link" ["self", "thing", "kind", "end"] (spRlk CL CS) := fun k => ⟨_, _, ok_rlk FSRl SS (RTS (k + 1)) (RK k), bSRl, ⟨v1CSSRl, v2SRl, w3SRl⟩⟩
  have WLS : ∀ k, MtN P w K mg base (k + 5) CS "with_link" ["self", "thing", "kind", "end"] (spWl CL CS CM) := fun k => ⟨_, _, ok_wl FSWl SS (RLKS k) (WPS k), bSWl, ⟨v1CSSWl, v2SWl, w3SWl⟩⟩
  have WOS : ∀ k, MtN P w K mg base (k + 5) CS "without_link" ["self", "thing", "kind", "end"] (spWol CL CS CM) := fun k => ⟨_, _, ok_wol FSWo SS (RLKS k) (WPS k) m_tuple, bSWo, ⟨v1CSSWo, v2SWo, w3SWo⟩⟩
  have WHS : ∀ k, MtN P w K mg base (k + 4) CS "without_thing" ["self", "thing"] (spWot CL CS CM) := fun k => ⟨_, _, ok_wot FSWh SS (RTS (k + 1)) (SI k) m_tuple, bSWh, ⟨v1CSSWh, v2SWh, w3SWh⟩⟩
  have WTS : ∀ k, MtR P w K mg base (k + 5) CS "with_thing" (spWt CL CS CM) := fun k => ⟨_, ok_wt FSWt SS (GN (k + 3)) (RM (k + 1)) (WPS k), ⟨v1CSSWt, v2SWt, w3SWt⟩⟩
  have WMS : ∀ k, MtR P w K mg base (k + 5) CS "with_marks" (spWm CL CS CM) := fun k => ⟨_, ok_wm FSWm SS (RTS (k + 2)) (RM (k + 1)) (WPS k), ⟨v1CSSWm, v2SWm, w3SWm⟩⟩
  have D8S : C8 P w K mg base 5 CL CS CM := ⟨SS.cl, ⟨_, _, _, ok_sth FSTh SS m_dict, bSTh, pSTs⟩, ⟨_, _, _, ok_snm FSNm SS m_tuple m_list, bSNm, pSNs⟩, ⟨_, rawN (ok_sle FSLe SS m_len) bSLe, ⟨v1CSSLe, v2SLe⟩⟩, WLS 0, WOS 0, WHS 1, WTS 0, WMS 0⟩
  have RN : ∀ k, CdN P w K mg base (k + 1) "reached_in" ["things", "thing"] spRin := fun k => ⟨_, _, ok_rin FRn m_len, bRn, qRn, w3Rn⟩
  have RE : ∀ k, MtN P w K mg base (k + 4) CM "reached" ["self", "thing"] (spRea CL CM CM) := fun k => ⟨_, _, ok_rea FSRe SM (RT (k + 1)) (RN (k + 2)) (SI k), bSRe, ⟨v1CMSRe, v2SRe, w3SRe⟩⟩
  have NN : ∀ k, CdN P w K mg base (k + 2) "new_names" ["things", "names"] spNn := fun k => ⟨_, _, ok_nn FNn (GN k) m_isinstance m_dict m_all m_str m_sorted m_list m_len, bNn, qNn, w3Nn⟩
  have RB : ∀ k, MtN P w K mg base (k + 4) CM "renamed_by" ["self", "names"] (spRb CL CM CM) := fun k => ⟨_, _, ok_rb FSRb SM (NN (k + 1)) (DIP (k + 2)) (SI k) m_tuple, bSRb, ⟨v1CMSRb, v2SRb, w3SRb⟩⟩
  have EL : ∀ k, OwN P w K mg base (k + 1) CL "__eq__" (spLeq K CL) := fun k => ⟨_, rawN (ok_leq FLEq L Is gL m_isinstance) bLEq, ⟨v1CLLEq, v2LEq⟩⟩
  have ES : ∀ k, OwN P w K mg base (k + 2) CM "__eq__" (spSeq K CL CS CM CM) := fun k => ⟨_, rawN (ok_seq FSEq SM SM Im (EL k) gS m_isinstance) bSEq, ⟨v1CMSEq, v2SEq⟩⟩
  have JP : ∀ k, CdN P w K mg base (k + 2) "joined_pair" ["pair", "other"] spJp := fun k => ⟨_, _, ok_jp FJp (DIS k) (DIP k), bJp, qJp, w3Jp⟩
  have JT : ∀ k, CdN P w K mg base (k + 3) "joined_things" ["things", "others"] spJt := fun k => ⟨_, _, ok_jt FJt (JP k), bJt, qJt, w3Jt⟩
  have eO1 : PySem.dunder Operator.BitOr.info.2 = ("__or__" : Str) := by decide +kernel
  have OR : ∀ k, BnN P w K mg base (k + 4) CM .BitOr (spSor CL CM CM CM) := fun k => ⟨_, rawN (ok_sor FSOr SM SM Im (EL (k + 1)) NL nLL (JT k) (SI k) gS m_isinstance) bSOr, by rw [eO1]; exact v1CMSOr, v2SOr, sfM⟩
  have T : J8 P w K mg base 5 CL CS CM := ⟨SM.cl, ⟨_, _, _, ok_snm FSNm SM m_tuple m_list, bSNm, pSN'⟩, RE 1, RB 1, ES 3, NM, OR 1, HA 4⟩
  have RO : ∀ k, CdN P w K mg base (k + 1) "_law_roll" ["_law_dice_here", "_law_upto"] spRoll := fun k => ⟨_, _, ok_roll FRo m_int, bRo, qRo, w3Ro⟩
  have PI : ∀ k, CdN P w K mg base (k + 2) "_law_pick" ["_law_dice_here", "_law_items"] (spPick K) := fun k => ⟨_, _, ok_pick FPi FRo bRo qRo m_int m_len, bPi, qPi, w3Pi⟩
  have MX : ∀ k, CdN P w K mg base (k + 2) "_law_mixed" ["_law_dice_here", "_law_items"] (spMix K) := fun k => ⟨_, _, ok_mix FMi FRo bRo qRo m_int m_len m_list, bMi, qMi, w3Mi⟩
  have WO_ : ∀ k, CdN P w K mg base (k + 3) "_law_words" ["_law_dice_here", "_law_upto"] spWords := fun k => ⟨_, _, ok_words FWo (MX k), bWo, qWo, w3Wo⟩
  have LG : ∀ k, CdN P w K mg base (k + 4) "_law_language" ["_law_dice_here", "_law_marks", "_law_sorts"] spLg := fun k => ⟨_, _, ok_lg FLg (WO_ k) (RO (k + 2)) m_tuple m_sorted, bLg, qLg, w3Lg⟩
  have LK : ∀ k, CdN P w K mg base (k + 3) "_law_links" ["_law_dice_here", "_law_language_here", "_law_names", "_law_at", "_law_way"] spLk := fun k => ⟨_, _, ok_lk FLk (PI k) (RO (k + 1)) m_tuple m_sorted m_range m_list m_int m_len m_set, bLk, qLk, w3Lk⟩
  have STO : ∀ k, CdN P w K mg base (k + 4) "_law_store" ["_law_dice_here", "_law_language_here", "_law_most"] spSto := fun k => ⟨_, _, ok_sto FSo (WO_ k) (RO (k + 2)) (LK k) m_tuple m_enumerate, bSo, qSo, w3So⟩
  have FT : ∀ k, CdN P w K mg base (k + 1) "_law_flat" ["_law_store_here"] spFt := fun k => ⟨_, _, ok_ft FFt m_sorted, bFt, qFt, w3Ft⟩
  have RS_ : ∀ k, CdN P w K mg base (k + 1) "require_store" ["store"] (spRs CL CM) := fun k => ⟨_, _, ok_rs FRs SM Im gS m_isinstance, bRs, qRs, w3Rs⟩
  have FW : ∀ k, CdN P w K mg base (k + 1) "first_ways" ["things", "thing"] spFw := fun k => ⟨_, _, ok_fw FFw, bFw, qFw, w3Fw⟩
  have WY : ∀ k, CdN P w K mg base (k + 1) "way_to" ["links", "last"] spWy := fun k => ⟨_, _, ok_wy FWa m_tuple, bWa, qWa, w3Wa⟩
  have CG : CdN P w K mg base 6 "_law_changed" ["_law_dice_here", "_law_language_here", "_law_made", "_law_flat_here"] (spCg2 CL CS CM) := ⟨_, _, fnOk_two (ok_cg (n := 5) FCg D8S (PI 3) (RO 4) m_sorted m_list m_set) (ok_cg (n := 5) FCg D8 (PI 3) (RO 4) m_sorted m_list m_set), bCg, qCg, w3Cg⟩
  have HR : CdN P w K mg base 7 "_law_history_right" ["_law_dice_here", "_law_language_here", "_law_made", "_law_flat_here"] (spHr CL CS CM) := ⟨_, _, ok_hr (n := 5) FHr D8S D8 (RO 4) (FT 4) CG m_tuple m_len m_range, bHr, qHr, w3Hr⟩
  have FS : CdN P w K mg base 7 "first_way" ["store", "thing", "other"] (spFs CL CM) := ⟨_, _, ok_fs (k := 5) FFs SM ⟨_, _, _, ok_sth FSTh SM m_dict, bSTh, pST'⟩ (RS_ 4) (RT 3) (FW 4) (WY 4), bFs, qFs, w3Fs⟩
  have JR : CdN P w K mg base 8 "_law_joined_right" ["_law_dice_here", "_law_language_here", "_law_base"] (spJr CL) := ⟨_, _, ok_jr (n := 5) FJr T nM (STO 1) (PI 3) FS (SO 0) gS m_list m_dict m_enumerate m_range, bJr, qJr, w3Jr⟩
  have DI : CdN P w K mg base 5 "_law_dice" ["_law_script", "_law_spot"] (spDice K) := ⟨_, _, ok_dice FDi m_int m_len m_abs m_max, bDi, qDi, w3Di⟩
  exact ok_law8 (n := 5) FLa DI (LG 1) (STO 1) (FT 4) HR JR (LO 0) (SO 0) gL gS MS (I0 0) m_range m_max m_min m_len
end Tf

/-! the law from its head's facts -/
namespace Tf
open PySem PySem.Spec PyProof.Rows L2
theorem all_hd {w : World} {K : PySem.W.Frag} {h : Heap} {mg : Str → Option Value} {fa : Addr} (X : K.In h) (G : h.Ns mainGlobals mg) (hfa : mg "law" = some (.ref fa)) (c : TfHd.obsH hBs hFs K = (true, hVs)) : ∃ fd : FuncData, (∀ (s : Shared) (u : Value), BindsTo s fd ⟨[u], []⟩ [("_law_script", u)]) ∧ ∀ base : Heap, K.In base → base.Ns mainGlobals mg → FnOk (PySem.Challenge.rw_treefits_k08_whole_histories_of_stores).prog w K mg base CX0 9 fa fd ["_law_script"] (spLaw8 K) := by
  have aCL : PySem.W.nsIn K mainGlobals "Language" = some (some (.ref (He.ga K "Language"))) := of_decide_eq_true (TfHd.fact c 0)
  have i1CL : PySem.W.plainGet K (He.ga K "Language") Str.empty = true := of_decide_eq_true (TfHd.fact c 1)
  have i2CL : PySem.W.hasDictIn K (He.ga K "Language") = true := of_decide_eq_true (TfHd.fact c 2)
  have i3CL : PySem.W.plainOver K (He.ga K "Language") = true := of_decide_eq_true (TfHd.fact c 3)
  have i4CL : PySem.W.findIn K (.ref (He.ga K "Language")) "__setattr__" = some (some (.builtin "object.__setattr__")) := of_decide_eq_true (TfHd.fact c 4)
  have j0CL : PySem.W.findIn K (.ref (He.ga K "Language")) "own_marks" = some none := of_decide_eq_true (TfHd.fact c 5)
  have j1CL : PySem.W.findIn K (.ref (He.ga K "Language")) "own_kinds" = some none := of_decide_eq_true (TfHd.fact c 6)
  have k1CL : PySem.W.makesIn K (He.ga K "Language") = true := of_decide_eq_true (TfHd.fact c 7)
  have k2CL : PySem.W.keepIn K (.ref (He.ga K "Language")) = true := of_decide_eq_true (TfHd.fact c 8)
  have k3CL : PySem.W.findIn K (.ref (He.ga K "Language")) "__class__" = some (some (.builtin "object.__class__")) := of_decide_eq_true (TfHd.fact c 9)
  have k4CL : PySem.W.mroIn K (He.ga K "Language") (.type "object") = some true := of_decide_eq_true (TfHd.fact c 10)
  have k5CL : PySem.W.findIn K (.ref (He.ga K "Language")) "__ne__" = some (some (.builtin "object.__ne__")) := of_decide_eq_true (TfHd.fact c 11)
  have k6CL : PySem.W.isClsIn K (He.ga K "Language") = true := of_decide_eq_true (TfHd.fact c 12)
  have k7CL : PySem.W.typeIn K (.ref (He.ga K "Language")) = some (.type "type") := of_decide_eq_true (TfHd.fact c 13)
  have iniCL : PySem.W.findIn K (.ref (He.ga K "Language")) "__init__" = some (some (.ref (He.ma K (He.ga K "Language") "__init__"))) := of_decide_eq_true (TfHd.fact c 14)
  have aCS : PySem.W.nsIn K mainGlobals "Store" = some (some (.ref (He.ga K "Store"))) := of_decide_eq_true (TfHd.fact c 15)
  have i1CS : PySem.W.plainGet K (He.ga K "Store") Str.empty = true := of_decide_eq_true (TfHd.fact c 16)
  have i2CS : PySem.W.hasDictIn K (He.ga K "Store") = true := of_decide_eq_true (TfHd.fact c 17)
  have i3CS : PySem.W.plainOver K (He.ga K "Store") = true := of_decide_eq_true (TfHd.fact c 18)
  have i4CS : PySem.W.findIn K (.ref (He.ga K "Store")) "__setattr__" = some (some (.builtin "object.__setattr__")) := of_decide_eq_true (TfHd.fact c 19)
  have j0CS : PySem.W.findIn K (.ref (He.ga K "Store")) "own_language" = some none := of_decide_eq_true (TfHd.fact c 20)
  have j1CS : PySem.W.findIn K (.ref (He.ga K "Store")) "own_things" = some none := of_decide_eq_true (TfHd.fact c 21)
  have k1CS : PySem.W.makesIn K (He.ga K "Store") = true := of_decide_eq_true (TfHd.fact c 22)
  have k2CS : PySem.W.keepIn K (.ref (He.ga K "Store")) = true := of_decide_eq_true (TfHd.fact c 23)
  have k3CS : PySem.W.findIn K (.ref (He.ga K "Store")) "__class__" = some (some (.builtin "object.__class__")) := of_decide_eq_true (TfHd.fact c 24)
  have k4CS : PySem.W.mroIn K (He.ga K "Store") (.type "object") = some true := of_decide_eq_true (TfHd.fact c 25)
  have k5CS : PySem.W.findIn K (.ref (He.ga K "Store")) "__ne__" = some (some (.builtin "object.__ne__")) := of_decide_eq_true (TfHd.fact c 26)
  have k6CS : PySem.W.isClsIn K (He.ga K "Store") = true := of_decide_eq_true (TfHd.fact c 27)
  have k7CS : PySem.W.typeIn K (.ref (He.ga K "Store")) = some (.type "type") := of_decide_eq_true (TfHd.fact c 28)
  have iniCS : PySem.W.findIn K (.ref (He.ga K "Store")) "__init__" = some (some (.ref (He.ma K (He.ga K "Store") "__init__"))) := of_decide_eq_true (TfHd.fact c 29)
  have aCM : PySem.W.nsIn K mainGlobals "MadeStore" = some (some (.ref (He.ga K "MadeStore"))) := of_decide_eq_true (TfHd.fact c 30)
  have i1CM : PySem.W.plainGet K (He.ga K "MadeStore") Str.empty = true := of_decide_eq_true (TfHd.fact c 31)
  have i2CM : PySem.W.hasDictIn K (He.ga K "MadeStore") = true := of_decide_eq_true (TfHd.fact c 32)
  have i3CM : PySem.W.plainOver K (He.ga K "MadeStore") = true := of_decide_eq_true (TfHd.fact c 33)
  have i4CM : PySem.W.findIn K (.ref (He.ga K "MadeStore")) "__setattr__" = some (some (.builtin "object.__setattr__")) := of_decide_eq_true (TfHd.fact c 34)
  have j0CM : PySem.W.findIn K (.ref (He.ga K "MadeStore")) "own_language" = some none := of_decide_eq_true (TfHd.fact c 35)
  have j1CM : PySem.W.findIn K (.ref (He.ga K "MadeStore")) "own_things" = some none := of_decide_eq_true (TfHd.fact c 36)
  have k1CM : PySem.W.makesIn K (He.ga K "MadeStore") = true := of_decide_eq_true (TfHd.fact c 37)
  have k2CM : PySem.W.keepIn K (.ref (He.ga K "MadeStore")) = true := of_decide_eq_true (TfHd.fact c 38)
  have k3CM : PySem.W.findIn K (.ref (He.ga K "MadeStore")) "__class__" = some (some (.builtin "object.__class__")) := of_decide_eq_true (TfHd.fact c 39)
  have k4CM : PySem.W.mroIn K (He.ga K "MadeStore") (.type "object") = some true := of_decide_eq_true (TfHd.fact c 40)
  have k5CM : PySem.W.findIn K (.ref (He.ga K "MadeStore")) "__ne__" = some (some (.builtin "object.__ne__")) := of_decide_eq_true (TfHd.fact c 41)
  have k6CM : PySem.W.isClsIn K (He.ga K "MadeStore") = true := of_decide_eq_true (TfHd.fact c 42)
  have k7CM : PySem.W.typeIn K (.ref (He.ga K "MadeStore")) = some (.type "type") := of_decide_eq_true (TfHd.fact c 43)
  have iniCM : PySem.W.findIn K (.ref (He.ga K "MadeStore")) "__init__" = some (some (.ref (He.ma K (He.ga K "MadeStore") "__init__"))) := of_decide_eq_true (TfHd.fact c 44)
  have e5 : PySem.W.specialIn K (.builtin "object.__class__") "__get__" = some (some (.builtin "getset_descriptor.__get__")) := of_decide_eq_true (TfHd.fact c 45)
  have e6 : PySem.W.takesIn K (.builtin "object.__class__") = some true := of_decide_eq_true (TfHd.fact c 46)
  have suMS : PySem.W.subIn K (.ref (He.ga K "MadeStore")) (.ref (He.ga K "Store")) = some true := of_decide_eq_true (TfHd.fact c 47)
  have nM : PySem.W.notFirst K (He.ga K "MadeStore") (.ref (He.ga K "MadeStore")) = true := of_decide_eq_true (TfHd.fact c 48)
  have nS : PySem.W.notFirst K (He.ga K "MadeStore") (.ref (He.ga K "Store")) = true := of_decide_eq_true (TfHd.fact c 49)
  have nLL : PySem.W.notFirst K (He.ga K "Language") (.ref (He.ga K "Language")) = true := of_decide_eq_true (TfHd.fact c 50)
  have sfM : PySem.W.selfFirst K (He.ga K "MadeStore") = true := of_decide_eq_true (TfHd.fact c 51)
  have r1CL : PySem.W.readsIn K (He.ga K "Language") (.type "type") = true := of_decide_eq_true (TfHd.fact c 52)
  have r2CL : PySem.W.specialIn K (.ref (He.ga K "Language")) "__getattribute__" = some (some (.builtin "type.__getattribute__")) := of_decide_eq_true (TfHd.fact c 53)
  have r3CL := TfHd.cm_ok (TfHd.fact c 54)
  have r4CL := TfHd.rec_ok (TfHd.fact c 55)
  have r5CL : PySem.W.fnIn K (TfHd.recA K (TfHd.cmA K (He.ga K "Language") "of") "classmethod") = true := of_decide_eq_true (TfHd.fact c 56)
  have r1CS : PySem.W.readsIn K (He.ga K "Store") (.type "type") = true := of_decide_eq_true (TfHd.fact c 57)
  have r2CS : PySem.W.specialIn K (.ref (He.ga K "Store")) "__getattribute__" = some (some (.builtin "type.__getattribute__")) := of_decide_eq_true (TfHd.fact c 58)
  have r3CS := TfHd.cm_ok (TfHd.fact c 59)
  have r4CS := TfHd.rec_ok (TfHd.fact c 60)
  have r5CS : PySem.W.fnIn K (TfHd.recA K (TfHd.cmA K (He.ga K "Store") "of") "classmethod") = true := of_decide_eq_true (TfHd.fact c 61)
  have u1CLLMk : PySem.W.findIn K (.ref (He.ga K "Language")) "marks" = some (some (.ref (He.ma K (He.ga K "Language") "marks"))) := of_decide_eq_true (TfHd.fact c 62)
  have u2LMk : PySem.W.specialIn K (.ref (He.ma K (He.ga K "Language") "marks")) "__get__" = some (some (.builtin "property.__get__")) := of_decide_eq_true (TfHd.fact c 63)
  have u3LMk : PySem.W.takesIn K (.ref (He.ma K (He.ga K "Language") "marks")) = some true := of_decide_eq_true (TfHd.fact c 64)
  have u4LMk := TfHd.rec_ok (TfHd.fact c 65)
  have u1CLLKi : PySem.W.findIn K (.ref (He.ga K "Language")) "kinds" = some (some (.ref (He.ma K (He.ga K "Language") "kinds"))) := of_decide_eq_true (TfHd.fact c 66)
  have u2LKi : PySem.W.specialIn K (.ref (He.ma K (He.ga K "Language") "kinds")) "__get__" = some (some (.builtin "property.__get__")) := of_decide_eq_true (TfHd.fact c 67)
  have u3LKi : PySem.W.takesIn K (.ref (He.ma K (He.ga K "Language") "kinds")) = some true := of_decide_eq_true (TfHd.fact c 68)
  have u4LKi := TfHd.rec_ok (TfHd.fact c 69)
  have u1CMSTh : PySem.W.findIn K (.ref (He.ga K "MadeStore")) "things" = some (some (.ref (He.ma K (He.ga K "MadeStore") "things"))) := of_decide_eq_true (TfHd.fact c 70)
  have u1CSSTh : PySem.W.findIn K (.ref (He.ga K "Store")) "things" = some (some (.ref (He.ma K (He.ga K "MadeStore") "things"))) := of_decide_eq_true (TfHd.fact c 71)
  have u2STh : PySem.W.specialIn K (.ref (He.ma K (He.ga K "MadeStore") "things")) "__get__" = some (some (.builtin "property.__get__")) := of_decide_eq_true (TfHd.fact c 72)
  have u3STh : PySem.W.takesIn K (.ref (He.ma K (He.ga K "MadeStore") "things")) = some true := of_decide_eq_true (TfHd.fact c 73)
  have u4STh := TfHd.rec_ok (TfHd.fact c 74)
  have u1CMSNm : PySem.W.findIn K (.ref (He.ga K "MadeStore")) "names" = some (some (.ref (He.ma K (He.ga K "MadeStore") "names"))) := of_decide_eq_true (TfHd.fact c 75)
  have u1CSSNm : PySem.W.findIn K (.ref (He.ga K "Store")) "names" = some (some (.ref (He.ma K (He.ga K "MadeStore") "names"))) := of_decide_eq_true (TfHd.fact c 76)
  have u2SNm : PySem.W.specialIn K (.ref (He.ma K (He.ga K "MadeStore") "names")) "__get__" = some (some (.builtin "property.__get__")) := of_decide_eq_true (TfHd.fact c 77)
  have u3SNm : PySem.W.takesIn K (.ref (He.ma K (He.ga K "MadeStore") "names")) = some true := of_decide_eq_true (TfHd.fact c 78)
  have u4SNm := TfHd.rec_ok (TfHd.fact c 79)
  have v1CLLEq : PySem.W.findIn K (.ref (He.ga K "Language")) "__eq__" = some (some (.ref (He.ma K (He.ga K "Language") "__eq__"))) := of_decide_eq_true (TfHd.fact c 80)
  have v2LEq : PySem.W.isFn K (.ref (He.ma K (He.ga K "Language") "__eq__")) = true := of_decide_eq_true (TfHd.fact c 81)
  have v1CMSEq : PySem.W.findIn K (.ref (He.ga K "MadeStore")) "__eq__" = some (some (.ref (He.ma K (He.ga K "MadeStore") "__eq__"))) := of_decide_eq_true (TfHd.fact c 82)
  have v2SEq : PySem.W.isFn K (.ref (He.ma K (He.ga K "MadeStore") "__eq__")) = true := of_decide_eq_true (TfHd.fact c 83)
  have v1CMSHa : PySem.W.findIn K (.ref (He.ga K "MadeStore")) "__contains__" = some (some (.ref (He.ma K (He.ga K "MadeStore") "__contains__"))) := of_decide_eq_true (TfHd.fact c 84)
  have v1CSSHa : PySem.W.findIn K (.ref (He.ga K "Store")) "__contains__" = some (some (.ref (He.ma K (He.ga K "MadeStore") "__contains__"))) := of_decide_eq_true (TfHd.fact c 85)
  have v2SHa : PySem.W.isFn K (.ref (He.ma K (He.ga K "MadeStore") "__contains__")) = true := of_decide_eq_true (TfHd.fact c 86)
  have v1CMSLe : PySem.W.findIn K (.ref (He.ga K "MadeStore")) "__len__" = some (some (.ref (He.ma K (He.ga K "MadeStore") "__len__"))) := of_decide_eq_true (TfHd.fact c 87)
  have v1CSSLe : PySem.W.findIn K (.ref (He.ga K "Store")) "__len__" = some (some (.ref (He.ma K (He.ga K "MadeStore") "__len__"))) := of_decide_eq_true (TfHd.fact c 88)
  have v2SLe : PySem.W.isFn K (.ref (He.ma K (He.ga K "MadeStore") "__len__")) = true := of_decide_eq_true (TfHd.fact c 89)
  have v1CMSWp : PySem.W.findIn K (.ref (He.ga K "MadeStore")) "with_pair" = some (some (.ref (He.ma K (He.ga K "MadeStore") "with_pair"))) := of_decide_eq_true (TfHd.fact c 90)
  have v1CSSWp : PySem.W.findIn K (.ref (He.ga K "Store")) "with_pair" = some (some (.ref (He.ma K (He.ga K "MadeStore") "with_pair"))) := of_decide_eq_true (TfHd.fact c 91)
  have v2SWp : PySem.W.isFn K (.ref (He.ma K (He.ga K "MadeStore") "with_pair")) = true := of_decide_eq_true (TfHd.fact c 92)
  have v1CMSWt : PySem.W.findIn K (.ref (He.ga K "MadeStore")) "with_thing" = some (some (.ref (He.ma K (He.ga K "MadeStore") "with_thing"))) := of_decide_eq_true (TfHd.fact c 93)
  have v1CSSWt : PySem.W.findIn K (.ref (He.ga K "Store")) "with_thing" = some (some (.ref (He.ma K (He.ga K "MadeStore") "with_thing"))) := of_decide_eq_true (TfHd.fact c 94)
  have v2SWt : PySem.W.isFn K (.ref (He.ma K (He.ga K "MadeStore") "with_thing")) = true := of_decide_eq_true (TfHd.fact c 95)
  have v1CMSWm : PySem.W.findIn K (.ref (He.ga K "MadeStore")) "with_marks" = some (some (.ref (He.ma K (He.ga K "MadeStore") "with_marks"))) := of_decide_eq_true (TfHd.fact c 96)
  have v1CSSWm : PySem.W.findIn K (.ref (He.ga K "Store")) "with_marks" = some (some (.ref (He.ma K (He.ga K "MadeStore") "with_marks"))) := of_decide_eq_true (TfHd.fact c 97)
  have v2SWm : PySem.W.isFn K (.ref (He.ma K (He.ga K "MadeStore") "with_marks")) = true := of_decide_eq_true (TfHd.fact c 98)
  have v1CMSRl : PySem.W.findIn K (.ref (He.ga K "MadeStore")) "require_link" = some (some (.ref (He.ma K (He.ga K "MadeStore") "require_link"))) := of_decide_eq_true (TfHd.fact c 99)
  have v1CSSRl : PySem.W.findIn K (.ref (He.ga K "Store")) "require_link" = some (some (.ref (He.ma K (He.ga K "MadeStore") "require_link"))) := of_decide_eq_true (TfHd.fact c 100)
  have v2SRl : PySem.W.isFn K (.ref (He.ma K (He.ga K "MadeStore") "require_link")) = true := of_decide_eq_true (TfHd.fact c 101)
  have v1CMSWl : PySem.W.findIn K (.ref (He.ga K "MadeStore")) "with_link" = some (some (.ref (He.ma K (He.ga K "MadeStore") "with_link"))) := of_decide_eq_true (TfHd.fact c 102)
  have v1CSSWl : PySem.W.findIn K (.ref (He.ga K "Store")) "with_link" = some (some (.ref (He.ma K (He.ga K "MadeStore") "with_link"))) := of_decide_eq_true (TfHd.fact c 103)
  have v2SWl : PySem.W.isFn K (.ref (He.ma K (He.ga K "MadeStore") "with_link")) = true := of_decide_eq_true (TfHd.fact c 104)
  have v1CMSWo : PySem.W.findIn K (.ref (He.ga K "MadeStore")) "without_link" = some (some (.ref (He.ma K (He.ga K "MadeStore") "without_link"))) := of_decide_eq_true (TfHd.fact c 105)
  have v1CSSWo : PySem.W.findIn K (.ref (He.ga K "Store")) "without_link" = some (some (.ref (He.ma K (He.ga K "MadeStore") "without_link"))) := of_decide_eq_true (TfHd.fact c 106)
  have v2SWo : PySem.W.isFn K (.ref (He.ma K (He.ga K "MadeStore") "without_link")) = true := of_decide_eq_true (TfHd.fact c 107)
  have v1CMSWh : PySem.W.findIn K (.ref (He.ga K "MadeStore")) "without_thing" = some (some (.ref (He.ma K (He.ga K "MadeStore") "without_thing"))) := of_decide_eq_true (TfHd.fact c 108)
  have v1CSSWh : PySem.W.findIn K (.ref (He.ga K "Store")) "without_thing" = some (some (.ref (He.ma K (He.ga K "MadeStore") "without_thing"))) := of_decide_eq_true (TfHd.fact c 109)
  have v2SWh : PySem.W.isFn K (.ref (He.ma K (He.ga K "MadeStore") "without_thing")) = true := of_decide_eq_true (TfHd.fact c 110)
  have v1CMSRb : PySem.W.findIn K (.ref (He.ga K "MadeStore")) "renamed_by" = some (some (.ref (He.ma K (He.ga K "MadeStore") "renamed_by"))) := of_decide_eq_true (TfHd.fact c 111)
  have v2SRb : PySem.W.isFn K (.ref (He.ma K (He.ga K "MadeStore") "renamed_by")) = true := of_decide_eq_true (TfHd.fact c 112)
  have v1CMSRe : PySem.W.findIn K (.ref (He.ga K "MadeStore")) "reached" = some (some (.ref (He.ma K (He.ga K "MadeStore") "reached"))) := of_decide_eq_true (TfHd.fact c 113)
  have v2SRe : PySem.W.isFn K (.ref (He.ma K (He.ga K "MadeStore") "reached")) = true := of_decide_eq_true (TfHd.fact c 114)
  have v1CMSOr : PySem.W.findIn K (.ref (He.ga K "MadeStore")) "__or__" = some (some (.ref (He.ma K (He.ga K "MadeStore") "__or__"))) := of_decide_eq_true (TfHd.fact c 115)
  have v2SOr : PySem.W.isFn K (.ref (He.ma K (He.ga K "MadeStore") "__or__")) = true := of_decide_eq_true (TfHd.fact c 116)
  have v2LIn : PySem.W.isFn K (.ref (He.ma K (He.ga K "Language") "__init__")) = true := of_decide_eq_true (TfHd.fact c 117)
  have v2SIn : PySem.W.isFn K (.ref (He.ma K (He.ga K "Store") "__init__")) = true := of_decide_eq_true (TfHd.fact c 118)
  have v2MIn : PySem.W.isFn K (.ref (He.ma K (He.ga K "MadeStore") "__init__")) = true := of_decide_eq_true (TfHd.fact c 119)
  have w0Na : PySem.W.nsIn K mainGlobals "is_name" = some (some (.ref (He.ga K "is_name"))) := of_decide_eq_true (TfHd.fact c 120)
  obtain ⟨_, _, _, _, _, _, _, _, w1Na, _⟩ := TfHd.fn_ok (TfHd.func c 0) (TfHd.fact c 121)
  have w2Na : PySem.W.codeIn K (.ref (TfHd.codeA K (He.ga K "is_name"))) "is_name" = true := of_decide_eq_true (TfHd.fact c 122)
  have w3Na : PySem.W.keepIn K (.ref (He.ga K "is_name")) = true := of_decide_eq_true (TfHd.fact c 123)
  have w0Rl : PySem.W.nsIn K mainGlobals "require_language" = some (some (.ref (He.ga K "require_language"))) := of_decide_eq_true (TfHd.fact c 124)
  obtain ⟨_, _, _, _, _, _, _, _, w1Rl, _⟩ := TfHd.fn_ok (TfHd.func c 1) (TfHd.fact c 125)
  have w2Rl : PySem.W.codeIn K (.ref (TfHd.codeA K (He.ga K "require_language"))) "require_language" = true := of_decide_eq_true (TfHd.fact c 126)
  have w3Rl : PySem.W.keepIn K (.ref (He.ga K "require_language")) = true := of_decide_eq_true (TfHd.fact c 127)
  have w0Rm : PySem.W.nsIn K mainGlobals "require_mark" = some (some (.ref (He.ga K "require_mark"))) := of_decide_eq_true (TfHd.fact c 128)
  obtain ⟨_, _, _, _, _, _, _, _, w1Rm, _⟩ := TfHd.fn_ok (TfHd.func c 2) (TfHd.fact c 129)
  have w2Rm : PySem.W.codeIn K (.ref (TfHd.codeA K (He.ga K "require_mark"))) "require_mark" = true := of_decide_eq_true (TfHd.fact c 130)
  have w3Rm : PySem.W.keepIn K (.ref (He.ga K "require_mark")) = true := of_decide_eq_true (TfHd.fact c 131)
  have w0Rk : PySem.W.nsIn K mainGlobals "require_kind" = some (some (.ref (He.ga K "require_kind"))) := of_decide_eq_true (TfHd.fact c 132)
  obtain ⟨_, _, _, _, _, _, _, _, w1Rk, _⟩ := TfHd.fn_ok (TfHd.func c 3) (TfHd.fact c 133)
  have w2Rk : PySem.W.codeIn K (.ref (TfHd.codeA K (He.ga K "require_kind"))) "require_kind" = true := of_decide_eq_true (TfHd.fact c 134)
  have w3Rk : PySem.W.keepIn K (.ref (He.ga K "require_kind")) = true := of_decide_eq_true (TfHd.fact c 135)
  have w0Dn : PySem.W.nsIn K mainGlobals "different_names" = some (some (.ref (He.ga K "different_names"))) := of_decide_eq_true (TfHd.fact c 136)
  obtain ⟨_, _, _, _, _, _, _, _, w1Dn, _⟩ := TfHd.fn_ok (TfHd.func c 4) (TfHd.fact c 137)
  have w2Dn : PySem.W.codeIn K (.ref (TfHd.codeA K (He.ga K "different_names"))) "different_names" = true := of_decide_eq_true (TfHd.fact c 138)
  have w3Dn : PySem.W.keepIn K (.ref (He.ga K "different_names")) = true := of_decide_eq_true (TfHd.fact c 139)
  have w0Rt : PySem.W.nsIn K mainGlobals "require_thing" = some (some (.ref (He.ga K "require_thing"))) := of_decide_eq_true (TfHd.fact c 140)
  obtain ⟨_, _, _, _, _, _, _, _, w1Rt, _⟩ := TfHd.fn_ok (TfHd.func c 5) (TfHd.fact c 141)
  have w2Rt : PySem.W.codeIn K (.ref (TfHd.codeA K (He.ga K "require_thing"))) "require_thing" = true := of_decide_eq_true (TfHd.fact c 142)
  have w3Rt : PySem.W.keepIn K (.ref (He.ga K "require_thing")) = true := of_decide_eq_true (TfHd.fact c 143)
  have w0Rp : PySem.W.nsIn K mainGlobals "require_pair" = some (some (.ref (He.ga K "require_pair"))) := of_decide_eq_true (TfHd.fact c 144)
  obtain ⟨_, _, _, _, _, _, _, _, w1Rp, _⟩ := TfHd.fn_ok (TfHd.func c 6) (TfHd.fact c 145)
  have w2Rp : PySem.W.codeIn K (.ref (TfHd.codeA K (He.ga K "require_pair"))) "require_pair" = true := of_decide_eq_true (TfHd.fact c 146)
  have w3Rp : PySem.W.keepIn K (.ref (He.ga K "require_pair")) = true := of_decide_eq_true (TfHd.fact c 147)
  have w0Ds : PySem.W.nsIn K mainGlobals "different_items" = some (some (.ref (He.ga K "different_items"))) := of_decide_eq_true (TfHd.fact c 148)
  obtain ⟨_, _, _, _, _, _, _, _, w1Ds, _⟩ := TfHd.fn_ok (TfHd.func c 7) (TfHd.fact c 149)
  have w2Ds : PySem.W.codeIn K (.ref (TfHd.codeA K (He.ga K "different_items"))) "different_items" = true := of_decide_eq_true (TfHd.fact c 150)
  have w3Ds : PySem.W.keepIn K (.ref (He.ga K "different_items")) = true := of_decide_eq_true (TfHd.fact c 151)
  have w0Ck : PySem.W.nsIn K mainGlobals "checked_things" = some (some (.ref (He.ga K "checked_things"))) := of_decide_eq_true (TfHd.fact c 152)
  obtain ⟨_, _, _, _, _, _, _, _, w1Ck, _⟩ := TfHd.fn_ok (TfHd.func c 8) (TfHd.fact c 153)
  have w2Ck : PySem.W.codeIn K (.ref (TfHd.codeA K (He.ga K "checked_things"))) "checked_things" = true := of_decide_eq_true (TfHd.fact c 154)
  have w3Ck : PySem.W.keepIn K (.ref (He.ga K "checked_things")) = true := of_decide_eq_true (TfHd.fact c 155)
  have w0Si : PySem.W.nsIn K mainGlobals "store_in" = some (some (.ref (He.ga K "store_in"))) := of_decide_eq_true (TfHd.fact c 156)
  obtain ⟨_, _, _, _, _, _, _, _, w1Si, _⟩ := TfHd.fn_ok (TfHd.func c 9) (TfHd.fact c 157)
  have w2Si : PySem.W.codeIn K (.ref (TfHd.codeA K (He.ga K "store_in"))) "store_in" = true := of_decide_eq_true (TfHd.fact c 158)
  have w3Si : PySem.W.keepIn K (.ref (He.ga K "store_in")) = true := of_decide_eq_true (TfHd.fact c 159)
  have w0Jp : PySem.W.nsIn K mainGlobals "joined_pair" = some (some (.ref (He.ga K "joined_pair"))) := of_decide_eq_true (TfHd.fact c 160)
  obtain ⟨_, _, _, _, _, _, _, _, w1Jp, _⟩ := TfHd.fn_ok (TfHd.func c 10) (TfHd.fact c 161)
  have w2Jp : PySem.W.codeIn K (.ref (TfHd.codeA K (He.ga K "joined_pair"))) "joined_pair" = true := of_decide_eq_true (TfHd.fact c 162)
  have w3Jp : PySem.W.keepIn K (.ref (He.ga K "joined_pair")) = true := of_decide_eq_true (TfHd.fact c 163)
  have w0Jt : PySem.W.nsIn K mainGlobals "joined_things" = some (some (.ref (He.ga K "joined_things"))) := of_decide_eq_true (TfHd.fact c 164)
  obtain ⟨_, _, _, _, _, _, _, _, w1Jt, _⟩ := TfHd.fn_ok (TfHd.func c 11) (TfHd.fact c 165)
  have w2Jt : PySem.W.codeIn K (.ref (TfHd.codeA K (He.ga K "joined_things"))) "joined_things" = true := of_decide_eq_true (TfHd.fact c 166)
  have w3Jt : PySem.W.keepIn K (.ref (He.ga K "joined_things")) = true := of_decide_eq_true (TfHd.fact c 167)
  have w0Nn : PySem.W.nsIn K mainGlobals "new_names" = some (some (.ref (He.ga K "new_names"))) := of_decide_eq_true (TfHd.fact c 168)
  obtain ⟨_, _, _, _, _, _, _, _, w1Nn, _⟩ := TfHd.fn_ok (TfHd.func c 12) (TfHd.fact c 169)
  have w2Nn : PySem.W.codeIn K (.ref (TfHd.codeA K (He.ga K "new_names"))) "new_names" = true := of_decide_eq_true (TfHd.fact c 170)
  have w3Nn : PySem.W.keepIn K (.ref (He.ga K "new_names")) = true := of_decide_eq_true (TfHd.fact c 171)
  have w0Rn : PySem.W.nsIn K mainGlobals "reached_in" = some (some (.ref (He.ga K "reached_in"))) := of_decide_eq_true (TfHd.fact c 172)
  obtain ⟨_, _, _, _, _, _, _, _, w1Rn, _⟩ := TfHd.fn_ok (TfHd.func c 13) (TfHd.fact c 173)
  have w2Rn : PySem.W.codeIn K (.ref (TfHd.codeA K (He.ga K "reached_in"))) "reached_in" = true := of_decide_eq_true (TfHd.fact c 174)
  have w3Rn : PySem.W.keepIn K (.ref (He.ga K "reached_in")) = true := of_decide_eq_true (TfHd.fact c 175)
  have w0Di : PySem.W.nsIn K mainGlobals "_law_dice" = some (some (.ref (He.ga K "_law_dice"))) := of_decide_eq_true (TfHd.fact c 176)
  obtain ⟨_, _, _, _, _, _, _, _, w1Di, _⟩ := TfHd.fn_ok (TfHd.func c 14) (TfHd.fact c 177)
  have w2Di : PySem.W.codeIn K (.ref (TfHd.codeA K (He.ga K "_law_dice"))) "_law_dice" = true := of_decide_eq_true (TfHd.fact c 178)
  have w3Di : PySem.W.keepIn K (.ref (He.ga K "_law_dice")) = true := of_decide_eq_true (TfHd.fact c 179)
  have w0Ro : PySem.W.nsIn K mainGlobals "_law_roll" = some (some (.ref (He.ga K "_law_roll"))) := of_decide_eq_true (TfHd.fact c 180)
  obtain ⟨_, _, _, _, _, _, _, _, w1Ro, _⟩ := TfHd.fn_ok (TfHd.func c 15) (TfHd.fact c 181)
  have w2Ro : PySem.W.codeIn K (.ref (TfHd.codeA K (He.ga K "_law_roll"))) "_law_roll" = true := of_decide_eq_true (TfHd.fact c 182)
  have w3Ro : PySem.W.keepIn K (.ref (He.ga K "_law_roll")) = true := of_decide_eq_true (TfHd.fact c 183)
  have w0Pi : PySem.W.nsIn K mainGlobals "_law_pick" = some (some (.ref (He.ga K "_law_pick"))) := of_decide_eq_true (TfHd.fact c 184)
  obtain ⟨_, _, _, _, _, _, _, _, w1Pi, _⟩ := TfHd.fn_ok (TfHd.func c 16) (TfHd.fact c 185)
  have w2Pi : PySem.W.codeIn K (.ref (TfHd.codeA K (He.ga K "_law_pick"))) "_law_pick" = true := of_decide_eq_true (TfHd.fact c 186)
  have w3Pi : PySem.W.keepIn K (.ref (He.ga K "_law_pick")) = true := of_decide_eq_true (TfHd.fact c 187)
  have w0Mi : PySem.W.nsIn K mainGlobals "_law_mixed" = some (some (.ref (He.ga K "_law_mixed"))) := of_decide_eq_true (TfHd.fact c 188)
  obtain ⟨_, _, _, _, _, _, _, _, w1Mi, _⟩ := TfHd.fn_ok (TfHd.func c 17) (TfHd.fact c 189)
  have w2Mi : PySem.W.codeIn K (.ref (TfHd.codeA K (He.ga K "_law_mixed"))) "_law_mixed" = true := of_decide_eq_true (TfHd.fact c 190)
  have w3Mi : PySem.W.keepIn K (.ref (He.ga K "_law_mixed")) = true := of_decide_eq_true (TfHd.fact c 191)
  have w0Wo : PySem.W.nsIn K mainGlobals "_law_words" = some (some (.ref (He.ga K "_law_words"))) := of_decide_eq_true (TfHd.fact c 192)
  obtain ⟨_, _, _, _, _, _, _, _, w1Wo, _⟩ := TfHd.fn_ok (TfHd.func c 18) (TfHd.fact c 193)
  have w2Wo : PySem.W.codeIn K (.ref (TfHd.codeA K (He.ga K "_law_words"))) "_law_words" = true := of_decide_eq_true (TfHd.fact c 194)
  have w3Wo : PySem.W.keepIn K (.ref (He.ga K "_law_words")) = true := of_decide_eq_true (TfHd.fact c 195)
  have w0Lg : PySem.W.nsIn K mainGlobals "_law_language" = some (some (.ref (He.ga K "_law_language"))) := of_decide_eq_true (TfHd.fact c 196)
  obtain ⟨_, _, _, _, _, _, _, _, w1Lg, _⟩ := TfHd.fn_ok (TfHd.func c 19) (TfHd.fact c 197)
  have w2Lg : PySem.W.codeIn K (.ref (TfHd.codeA K (He.ga K "_law_language"))) "_law_language" = true := of_decide_eq_true (TfHd.fact c 198)
  have w3Lg : PySem.W.keepIn K (.ref (He.ga K "_law_language")) = true := of_decide_eq_true (TfHd.fact c 199)
  have w0Lk : PySem.W.nsIn K mainGlobals "_law_links" = some (some (.ref (He.ga K "_law_links"))) := of_decide_eq_true (TfHd.fact c 200)
  obtain ⟨_, _, _, _, _, _, _, _, w1Lk, _⟩ := TfHd.fn_ok (TfHd.func c 20) (TfHd.fact c 201)
  have w2Lk : PySem.W.codeIn K (.ref (TfHd.codeA K (He.ga K "_law_links"))) "_law_links" = true := of_decide_eq_true (TfHd.fact c 202)
  have w3Lk : PySem.W.keepIn K (.ref (He.ga K "_law_links")) = true := of_decide_eq_true (TfHd.fact c 203)
  have w0So : PySem.W.nsIn K mainGlobals "_law_store" = some (some (.ref (He.ga K "_law_store"))) := of_decide_eq_true (TfHd.fact c 204)
  obtain ⟨_, _, _, _, _, _, _, _, w1So, _⟩ := TfHd.fn_ok (TfHd.func c 21) (TfHd.fact c 205)
  have w2So : PySem.W.codeIn K (.ref (TfHd.codeA K (He.ga K "_law_store"))) "_law_store" = true := of_decide_eq_true (TfHd.fact c 206)
  have w3So : PySem.W.keepIn K (.ref (He.ga K "_law_store")) = true := of_decide_eq_true (TfHd.fact c 207)
  have w0Rs : PySem.W.nsIn K mainGlobals "require_store" = some (some (.ref (He.ga K "require_store"))) := of_decide_eq_true (TfHd.fact c 208)
  obtain ⟨_, _, _, _, _, _, _, _, w1Rs, _⟩ := TfHd.fn_ok (TfHd.func c 22) (TfHd.fact c 209)
  have w2Rs : PySem.W.codeIn K (.ref (TfHd.codeA K (He.ga K "require_store"))) "require_store" = true := of_decide_eq_true (TfHd.fact c 210)
  have w3Rs : PySem.W.keepIn K (.ref (He.ga K "require_store")) = true := of_decide_eq_true (TfHd.fact c 211)
  have w0Wa : PySem.W.nsIn K mainGlobals "way_to" = some (some (.ref (He.ga K "way_to"))) := of_decide_eq_true (TfHd.fact c 212)
  obtain ⟨_, _, _, _, _, _, _, _, w1Wa, _⟩ := TfHd.fn_ok (TfHd.func c 23) (TfHd.fact c 213)
  have w2Wa : PySem.W.codeIn K (.ref (TfHd.codeA K (He.ga K "way_to"))) "way_to" = true := of_decide_eq_true (TfHd.fact c 214)
  have w3Wa : PySem.W.keepIn K (.ref (He.ga K "way_to")) = true := of_decide_eq_true (TfHd.fact c 215)
  have w0Fw : PySem.W.nsIn K mainGlobals "first_ways" = some (some (.ref (He.ga K "first_ways"))) := of_decide_eq_true (TfHd.fact c 216)
  obtain ⟨_, _, _, _, _, _, _, _, w1Fw, _⟩ := TfHd.fn_ok (TfHd.func c 24) (TfHd.fact c 217)
  have w2Fw : PySem.W.codeIn K (.ref (TfHd.codeA K (He.ga K "first_ways"))) "first_ways" = true := of_decide_eq_true (TfHd.fact c 218)
  have w3Fw : PySem.W.keepIn K (.ref (He.ga K "first_ways")) = true := of_decide_eq_true (TfHd.fact c 219)
  have w0Fs : PySem.W.nsIn K mainGlobals "first_way" = some (some (.ref (He.ga K "first_way"))) := of_decide_eq_true (TfHd.fact c 220)
  obtain ⟨_, _, _, _, _, _, _, _, w1Fs, _⟩ := TfHd.fn_ok (TfHd.func c 25) (TfHd.fact c 221)
  have w2Fs : PySem.W.codeIn K (.ref (TfHd.codeA K (He.ga K "first_way"))) "first_way" = true := of_decide_eq_true (TfHd.fact c 222)
  have w3Fs : PySem.W.keepIn K (.ref (He.ga K "first_way")) = true := of_decide_eq_true (TfHd.fact c 223)
  have w0Ft : PySem.W.nsIn K mainGlobals "_law_flat" = some (some (.ref (He.ga K "_law_flat"))) := of_decide_eq_true (TfHd.fact c 224)
  obtain ⟨_, _, _, _, _, _, _, _, w1Ft, _⟩ := TfHd.fn_ok (TfHd.func c 26) (TfHd.fact c 225)
  have w2Ft : PySem.W.codeIn K (.ref (TfHd.codeA K (He.ga K "_law_flat"))) "_law_flat" = true := of_decide_eq_true (TfHd.fact c 226)
  have w3Ft : PySem.W.keepIn K (.ref (He.ga K "_law_flat")) = true := of_decide_eq_true (TfHd.fact c 227)
  have w0Cg : PySem.W.nsIn K mainGlobals "_law_changed" = some (some (.ref (He.ga K "_law_changed"))) := of_decide_eq_true (TfHd.fact c 228)
  obtain ⟨_, _, _, _, _, _, _, _, w1Cg, _⟩ := TfHd.fn_ok (TfHd.func c 27) (TfHd.fact c 229)
  have w2Cg : PySem.W.codeIn K (.ref (TfHd.codeA K (He.ga K "_law_changed"))) "_law_changed" = true := of_decide_eq_true (TfHd.fact c 230)
  have w3Cg : PySem.W.keepIn K (.ref (He.ga K "_law_changed")) = true := of_decide_eq_true (TfHd.fact c 231)
  have w0Hr : PySem.W.nsIn K mainGlobals "_law_history_right" = some (some (.ref (He.ga K "_law_history_right"))) := of_decide_eq_true (TfHd.fact c 232)
  obtain ⟨_, _, _, _, _, _, _, _, w1Hr, _⟩ := TfHd.fn_ok (TfHd.func c 28) (TfHd.fact c 233)
  have w2Hr : PySem.W.codeIn K (.ref (TfHd.codeA K (He.ga K "_law_history_right"))) "_law_history_right" = true := of_decide_eq_true (TfHd.fact c 234)
  have w3Hr : PySem.W.keepIn K (.ref (He.ga K "_law_history_right")) = true := of_decide_eq_true (TfHd.fact c 235)
  have w0Jr : PySem.W.nsIn K mainGlobals "_law_joined_right" = some (some (.ref (He.ga K "_law_joined_right"))) := of_decide_eq_true (TfHd.fact c 236)
  obtain ⟨_, _, _, _, _, _, _, _, w1Jr, _⟩ := TfHd.fn_ok (TfHd.func c 29) (TfHd.fact c 237)
  have w2Jr : PySem.W.codeIn K (.ref (TfHd.codeA K (He.ga K "_law_joined_right"))) "_law_joined_right" = true := of_decide_eq_true (TfHd.fact c 238)
  have w3Jr : PySem.W.keepIn K (.ref (He.ga K "_law_joined_right")) = true := of_decide_eq_true (TfHd.fact c 239)
  have w0La : PySem.W.nsIn K mainGlobals "law" = some (some (.ref (He.ga K "law"))) := of_decide_eq_true (TfHd.fact c 240)
  obtain ⟨_, _, _, _, _, _, _, _, w1La, _⟩ := TfHd.fn_ok (TfHd.func c 30) (TfHd.fact c 241)
  have w2La : PySem.W.codeIn K (.ref (TfHd.codeA K (He.ga K "law"))) "law" = true := of_decide_eq_true (TfHd.fact c 242)
  have w3La : PySem.W.keepIn K (.ref (He.ga K "law")) = true := of_decide_eq_true (TfHd.fact c 243)
  obtain ⟨_, _, _, _, _, _, _, _, w1LIn, _⟩ := TfHd.fn_ok (TfHd.func c 31) (TfHd.fact c 244)
  have w2LIn : PySem.W.codeIn K (.ref (TfHd.codeA K (He.ma K (He.ga K "Language") "__init__"))) "Language.__init__" = true := of_decide_eq_true (TfHd.fact c 245)
  have w3LIn : PySem.W.keepIn K (.ref (He.ma K (He.ga K "Language") "__init__")) = true := of_decide_eq_true (TfHd.fact c 246)
  obtain ⟨_, _, _, _, _, _, _, _, w1LOf, _⟩ := TfHd.fn_ok (TfHd.func c 32) (TfHd.fact c 247)
  have w2LOf : PySem.W.codeIn K (.ref (TfHd.codeA K (TfHd.recA K (TfHd.cmA K (He.ga K "Language") "of") "classmethod"))) "Language.of" = true := of_decide_eq_true (TfHd.fact c 248)
  have w3LOf : PySem.W.keepIn K (.ref (TfHd.recA K (TfHd.cmA K (He.ga K "Language") "of") "classmethod")) = true := of_decide_eq_true (TfHd.fact c 249)
  obtain ⟨_, _, _, _, _, _, _, _, w1LMk, _⟩ := TfHd.fn_ok (TfHd.func c 33) (TfHd.fact c 250)
  have w2LMk : PySem.W.codeIn K (.ref (TfHd.codeA K (TfHd.recA K (He.ma K (He.ga K "Language") "marks") "property"))) "Language.marks" = true := of_decide_eq_true (TfHd.fact c 251)
  have w3LMk : PySem.W.keepIn K (.ref (TfHd.recA K (He.ma K (He.ga K "Language") "marks") "property")) = true := of_decide_eq_true (TfHd.fact c 252)
  obtain ⟨_, _, _, _, _, _, _, _, w1LKi, _⟩ := TfHd.fn_ok (TfHd.func c 34) (TfHd.fact c 253)
  have w2LKi : PySem.W.codeIn K (.ref (TfHd.codeA K (TfHd.recA K (He.ma K (He.ga K "Language") "kinds") "property"))) "Language.kinds" = true := of_decide_eq_true (TfHd.fact c 254)
  have w3LKi : PySem.W.keepIn K (.ref (TfHd.recA K (He.ma K (He.ga K "Language") "kinds") "property")) = true := of_decide_eq_true (TfHd.fact c 255)
  obtain ⟨_, _, _, _, _, _, _, _, w1LEq, _⟩ := TfHd.fn_ok (TfHd.func c 35) (TfHd.fact c 256)
  have w2LEq : PySem.W.codeIn K (.ref (TfHd.codeA K (He.ma K (He.ga K "Language") "__eq__"))) "Language.__eq__" = true := of_decide_eq_true (TfHd.fact c 257)
  have w3LEq : PySem.W.keepIn K (.ref (He.ma K (He.ga K "Language") "__eq__")) = true := of_decide_eq_true (TfHd.fact c 258)
  obtain ⟨_, _, _, _, _, _, _, _, w1SIn, _⟩ := TfHd.fn_ok (TfHd.func c 36) (TfHd.fact c 259)
  have w2SIn : PySem.W.codeIn K (.ref (TfHd.codeA K (He.ma K (He.ga K "Store") "__init__"))) "Store.__init__" = true := of_decide_eq_true (TfHd.fact c 260)
  have w3SIn : PySem.W.keepIn K (.ref (He.ma K (He.ga K "Store") "__init__")) = true := of_decide_eq_true (TfHd.fact c 261)
  obtain ⟨_, _, _, _, _, _, _, _, w1SOf, _⟩ := TfHd.fn_ok (TfHd.func c 37) (TfHd.fact c 262)
  have w2SOf : PySem.W.codeIn K (.ref (TfHd.codeA K (TfHd.recA K (TfHd.cmA K (He.ga K "Store") "of") "classmethod"))) "Store.of" = true := of_decide_eq_true (TfHd.fact c 263)
  have w3SOf : PySem.W.keepIn K (.ref (TfHd.recA K (TfHd.cmA K (He.ga K "Store") "of") "classmethod")) = true := of_decide_eq_true (TfHd.fact c 264)
  obtain ⟨_, _, _, _, _, _, _, _, w1STh, _⟩ := TfHd.fn_ok (TfHd.func c 38) (TfHd.fact c 265)
  have w2STh : PySem.W.codeIn K (.ref (TfHd.codeA K (TfHd.recA K (He.ma K (He.ga K "MadeStore") "things") "property"))) "Store.things" = true := of_decide_eq_true (TfHd.fact c 266)
  have w3STh : PySem.W.keepIn K (.ref (TfHd.recA K (He.ma K (He.ga K "MadeStore") "things") "property")) = true := of_decide_eq_true (TfHd.fact c 267)
  obtain ⟨_, _, _, _, _, _, _, _, w1SEq, _⟩ := TfHd.fn_ok (TfHd.func c 39) (TfHd.fact c 268)
  have w2SEq : PySem.W.codeIn K (.ref (TfHd.codeA K (He.ma K (He.ga K "MadeStore") "__eq__"))) "Store.__eq__" = true := of_decide_eq_true (TfHd.fact c 269)
  have w3SEq : PySem.W.keepIn K (.ref (He.ma K (He.ga K "MadeStore") "__eq__")) = true := of_decide_eq_true (TfHd.fact c 270)
  obtain ⟨_, _, _, _, _, _, _, _, w1SHa, _⟩ := TfHd.fn_ok (TfHd.func c 40) (TfHd.fact c 271)
  have w2SHa : PySem.W.codeIn K (.ref (TfHd.codeA K (He.ma K (He.ga K "MadeStore") "__contains__"))) "Store.__contains__" = true := of_decide_eq_true (TfHd.fact c 272)
  have w3SHa : PySem.W.keepIn K (.ref (He.ma K (He.ga K "MadeStore") "__contains__")) = true := of_decide_eq_true (TfHd.fact c 273)
  obtain ⟨_, _, _, _, _, _, _, _, w1SWp, _⟩ := TfHd.fn_ok (TfHd.func c 41) (TfHd.fact c 274)
  have w2SWp : PySem.W.codeIn K (.ref (TfHd.codeA K (He.ma K (He.ga K "MadeStore") "with_pair"))) "Store.with_pair" = true := of_decide_eq_true (TfHd.fact c 275)
  have w3SWp : PySem.W.keepIn K (.ref (He.ma K (He.ga K "MadeStore") "with_pair")) = true := of_decide_eq_true (TfHd.fact c 276)
  obtain ⟨_, _, _, _, _, _, _, _, w1SWt, _⟩ := TfHd.fn_ok (TfHd.func c 42) (TfHd.fact c 277)
  have w2SWt : PySem.W.codeIn K (.ref (TfHd.codeA K (He.ma K (He.ga K "MadeStore") "with_thing"))) "Store.with_thing" = true := of_decide_eq_true (TfHd.fact c 278)
  have w3SWt : PySem.W.keepIn K (.ref (He.ma K (He.ga K "MadeStore") "with_thing")) = true := of_decide_eq_true (TfHd.fact c 279)
  obtain ⟨_, _, _, _, _, _, _, _, w1SWm, _⟩ := TfHd.fn_ok (TfHd.func c 43) (TfHd.fact c 280)
  have w2SWm : PySem.W.codeIn K (.ref (TfHd.codeA K (He.ma K (He.ga K "MadeStore") "with_marks"))) "Store.with_marks" = true := of_decide_eq_true (TfHd.fact c 281)
  have w3SWm : PySem.W.keepIn K (.ref (He.ma K (He.ga K "MadeStore") "with_marks")) = true := of_decide_eq_true (TfHd.fact c 282)
  obtain ⟨_, _, _, _, _, _, _, _, w1SRl, _⟩ := TfHd.fn_ok (TfHd.func c 44) (TfHd.fact c 283)
  have w2SRl : PySem.W.codeIn K (.ref (TfHd.codeA K (He.ma K (He.ga K "MadeStore") "require_link"))) "Store.require_link" = true := of_decide_eq_true (TfHd.fact c 284)
  have w3SRl : PySem.W.keepIn K (.ref (He.ma K (He.ga K "MadeStore") "require_link")) = true := of_decide_eq_true (TfHd.fact c 285)
  obtain ⟨_, _, _, _, _, _, _, _, w1SWl, _⟩ := TfHd.fn_ok (TfHd.func c 45) (TfHd.fact c 286)
  have w2SWl : PySem.W.codeIn K (.ref (TfHd.codeA K (He.ma K (He.ga K "MadeStore") "with_link"))) "Store.with_link" = true := of_decide_eq_true (TfHd.fact c 287)
  have w3SWl : PySem.W.keepIn K (.ref (He.ma K (He.ga K "MadeStore") "with_link")) = true := of_decide_eq_true (TfHd.fact c 288)
  obtain ⟨_, _, _, _, _, _, _, _, w1SWo, _⟩ := TfHd.fn_ok (TfHd.func c 46) (TfHd.fact c 289)
  have w2SWo : PySem.W.codeIn K (.ref (TfHd.codeA K (He.ma K (He.ga K "MadeStore") "without_link"))) "Store.without_link" = true := of_decide_eq_true (TfHd.fact c 290)
  have w3SWo : PySem.W.keepIn K (.ref (He.ma K (He.ga K "MadeStore") "without_link")) = true := of_decide_eq_true (TfHd.fact c 291)
  obtain ⟨_, _, _, _, _, _, _, _, w1SWh, _⟩ := TfHd.fn_ok (TfHd.func c 47) (TfHd.fact c 292)
  have w2SWh : PySem.W.codeIn K (.ref (TfHd.codeA K (He.ma K (He.ga K "MadeStore") "without_thing"))) "Store.without_thing" = true := of_decide_eq_true (TfHd.fact c 293)
  have w3SWh : PySem.W.keepIn K (.ref (He.ma K (He.ga K "MadeStore") "without_thing")) = true := of_decide_eq_true (TfHd.fact c 294)
  obtain ⟨_, _, _, _, _, _, _, _, w1SNm, _⟩ := TfHd.fn_ok (TfHd.func c 48) (TfHd.fact c 295)
  have w2SNm : PySem.W.codeIn K (.ref (TfHd.codeA K (TfHd.recA K (He.ma K (He.ga K "MadeStore") "names") "property"))) "Store.names" = true := of_decide_eq_true (TfHd.fact c 296)
  have w3SNm : PySem.W.keepIn K (.ref (TfHd.recA K (He.ma K (He.ga K "MadeStore") "names") "property")) = true := of_decide_eq_true (TfHd.fact c 297)
  obtain ⟨_, _, _, _, _, _, _, _, w1SLe, _⟩ := TfHd.fn_ok (TfHd.func c 49) (TfHd.fact c 298)
  have w2SLe : PySem.W.codeIn K (.ref (TfHd.codeA K (He.ma K (He.ga K "MadeStore") "__len__"))) "Store.__len__" = true := of_decide_eq_true (TfHd.fact c 299)
  have w3SLe : PySem.W.keepIn K (.ref (He.ma K (He.ga K "MadeStore") "__len__")) = true := of_decide_eq_true (TfHd.fact c 300)
  obtain ⟨_, _, _, _, _, _, _, _, w1SRb, _⟩ := TfHd.fn_ok (TfHd.func c 50) (TfHd.fact c 301)
  have w2SRb : PySem.W.codeIn K (.ref (TfHd.codeA K (He.ma K (He.ga K "MadeStore") "renamed_by"))) "Store.renamed_by" = true := of_decide_eq_true (TfHd.fact c 302)
  have w3SRb : PySem.W.keepIn K (.ref (He.ma K (He.ga K "MadeStore") "renamed_by")) = true := of_decide_eq_true (TfHd.fact c 303)
  obtain ⟨_, _, _, _, _, _, _, _, w1SRe, _⟩ := TfHd.fn_ok (TfHd.func c 51) (TfHd.fact c 304)
  have w2SRe : PySem.W.codeIn K (.ref (TfHd.codeA K (He.ma K (He.ga K "MadeStore") "reached"))) "Store.reached" = true := of_decide_eq_true (TfHd.fact c 305)
  have w3SRe : PySem.W.keepIn K (.ref (He.ma K (He.ga K "MadeStore") "reached")) = true := of_decide_eq_true (TfHd.fact c 306)
  obtain ⟨_, _, _, _, _, _, _, _, w1SOr, _⟩ := TfHd.fn_ok (TfHd.func c 52) (TfHd.fact c 307)
  have w2SOr : PySem.W.codeIn K (.ref (TfHd.codeA K (He.ma K (He.ga K "MadeStore") "__or__"))) "Store.__or__" = true := of_decide_eq_true (TfHd.fact c 308)
  have w3SOr : PySem.W.keepIn K (.ref (He.ma K (He.ga K "MadeStore") "__or__")) = true := of_decide_eq_true (TfHd.fact c 309)
  obtain ⟨_, _, _, _, _, _, _, _, w1MIn, _⟩ := TfHd.fn_ok (TfHd.func c 53) (TfHd.fact c 310)
  have w2MIn : PySem.W.codeIn K (.ref (TfHd.codeA K (He.ma K (He.ga K "MadeStore") "__init__"))) "MadeStore.__init__" = true := of_decide_eq_true (TfHd.fact c 311)
  have w3MIn : PySem.W.keepIn K (.ref (He.ma K (He.ga K "MadeStore") "__init__")) = true := of_decide_eq_true (TfHd.fact c 312)
  have z_isinstance : PySem.W.nsIn K mainGlobals "isinstance" = some none := of_decide_eq_true (TfHd.fact c 313)
  have z_tuple : PySem.W.nsIn K mainGlobals "tuple" = some none := of_decide_eq_true (TfHd.fact c 314)
  have z_all : PySem.W.nsIn K mainGlobals "all" = some none := of_decide_eq_true (TfHd.fact c 315)
  have z_any : PySem.W.nsIn K mainGlobals "any" = some none := of_decide_eq_true (TfHd.fact c 316)
  have z_sorted : PySem.W.nsIn K mainGlobals "sorted" = some none := of_decide_eq_true (TfHd.fact c 317)
  have z_list : PySem.W.nsIn K mainGlobals "list" = some none := of_decide_eq_true (TfHd.fact c 318)
  have z_len : PySem.W.nsIn K mainGlobals "len" = some none := of_decide_eq_true (TfHd.fact c 319)
  have z_str : PySem.W.nsIn K mainGlobals "str" = some none := of_decide_eq_true (TfHd.fact c 320)
  have z_int : PySem.W.nsIn K mainGlobals "int" = some none := of_decide_eq_true (TfHd.fact c 321)
  have z_abs : PySem.W.nsIn K mainGlobals "abs" = some none := of_decide_eq_true (TfHd.fact c 322)
  have z_max : PySem.W.nsIn K mainGlobals "max" = some none := of_decide_eq_true (TfHd.fact c 323)
  have z_min : PySem.W.nsIn K mainGlobals "min" = some none := of_decide_eq_true (TfHd.fact c 324)
  have z_range : PySem.W.nsIn K mainGlobals "range" = some none := of_decide_eq_true (TfHd.fact c 325)
  have z_set : PySem.W.nsIn K mainGlobals "set" = some none := of_decide_eq_true (TfHd.fact c 326)
  have z_dict : PySem.W.nsIn K mainGlobals "dict" = some none := of_decide_eq_true (TfHd.fact c 327)
  have z_enumerate : PySem.W.nsIn K mainGlobals "enumerate" = some none := of_decide_eq_true (TfHd.fact c 328)
  have g8 : PySem.W.nsIn K mainGlobals "MAX_MARKS" = some (some (.int 8 (TfHd.tokA K "MAX_MARKS"))) := of_decide_eq_true (TfHd.fact c 329)
  have g4 : PySem.W.nsIn K mainGlobals "MAX_KINDS" = some (some (.int 4 (TfHd.tokA K "MAX_KINDS"))) := of_decide_eq_true (TfHd.fact c 330)
  have g9 : PySem.W.nsIn K mainGlobals "MAX_SIGNS" = some (some (.int 8 (TfHd.tokA K "MAX_SIGNS"))) := of_decide_eq_true (TfHd.fact c 331)
  have gT : PySem.W.nsIn K mainGlobals "MAX_THINGS" = some (some (.int 400 (TfHd.tokA K "MAX_THINGS"))) := of_decide_eq_true (TfHd.fact c 332)
  have gs : PySem.W.nsIn K mainGlobals "SIGNS" = some (some (.str "abcdefghijklmnopqrstuvwxyz" (TfHd.tokA K "SIGNS"))) := of_decide_eq_true (TfHd.fact c 333)
  exact all_mk X G hfa aCL i1CL i2CL i3CL i4CL j0CL j1CL k1CL k2CL k3CL k4CL k5CL k6CL k7CL iniCL aCS i1CS i2CS i3CS i4CS j0CS j1CS k1CS k2CS k3CS k4CS k5CS k6CS k7CS iniCS aCM i1CM i2CM i3CM i4CM j0CM j1CM k1CM k2CM k3CM k4CM k5CM k6CM k7CM iniCM e5 e6 suMS nM nS nLL sfM r1CL r2CL r3CL r4CL r5CL r1CS r2CS r3CS r4CS r5CS u1CLLMk u2LMk u3LMk u4LMk u1CLLKi u2LKi u3LKi u4LKi u1CMSTh u1CSSTh u2STh u3STh u4STh u1CMSNm u1CSSNm u2SNm u3SNm u4SNm v1CLLEq v2LEq v1CMSEq v2SEq v1CMSHa v1CSSHa v2SHa v1CMSLe v1CSSLe v2SLe v1CMSWp v1CSSWp v2SWp v1CMSWt v1CSSWt v2SWt v1CMSWm v1CSSWm v2SWm v1CMSRl v1CSSRl v2SRl v1CMSWl v1CSSWl v2SWl v1CMSWo v1CSSWo v2SWo v1CMSWh v1CSSWh v2SWh v1CMSRb v2SRb v1CMSRe v2SRe v1CMSOr v2SOr v2LIn v2SIn v2MIn w0Na w1Na w2Na w3Na w0Rl w1Rl w2Rl w3Rl w0Rm w1Rm w2Rm w3Rm w0Rk w1Rk w2Rk w3Rk w0Dn w1Dn w2Dn w3Dn w0Rt w1Rt w2Rt w3Rt w0Rp w1Rp w2Rp w3Rp w0Ds w1Ds w2Ds w3Ds w0Ck w1Ck w2Ck w3Ck w0Si w1Si w2Si w3Si w0Jp w1Jp w2Jp w3Jp w0Jt w1Jt w2Jt w3Jt w0Nn w1Nn w2Nn w3Nn w0Rn w1Rn w2Rn w3Rn w0Di w1Di w2Di w3Di w0Ro w1Ro w2Ro w3Ro w0Pi w1Pi w2Pi w3Pi w0Mi w1Mi w2Mi w3Mi w0Wo w1Wo w2Wo w3Wo w0Lg w1Lg w2Lg w3Lg w0Lk w1Lk w2Lk w3Lk w0So w1So w2So w3So w0Rs w1Rs w2Rs w3Rs w0Wa w1Wa w2Wa w3Wa w0Fw w1Fw w2Fw w3Fw w0Fs w1Fs w2Fs w3Fs w0Ft w1Ft w2Ft w3Ft w0Cg w1Cg w2Cg w3Cg w0Hr w1Hr w2Hr w3Hr w0Jr w1Jr w2Jr w3Jr w0La w1La w2La w3La w1LIn w2LIn w3LIn w1LOf w2LOf w3LOf w1LMk w2LMk w3LMk w1LKi w2LKi w3LKi w1LEq w2LEq w3LEq w1SIn w2SIn w3SIn w1SOf w2SOf w3SOf w1STh w2STh w3STh w1SEq w2SEq w3SEq w1SHa w2SHa w3SHa w1SWp w2SWp w3SWp w1SWt w2SWt w3SWt w1SWm w2SWm w3SWm w1SRl w2SRl w3SRl w1SWl w2SWl w3SWl w1SWo w2SWo w3SWo w1SWh w2SWh w3SWh w1SNm w2SNm w3SNm w1SLe w2SLe w3SLe w1SRb w2SRb w3SRb w1SRe w2SRe w3SRe w1SOr w2SOr w3SOr w1MIn w2MIn w3MIn z_isinstance z_tuple z_all z_any z_sorted z_list z_len z_str z_int z_abs z_max z_min z_range z_set z_dict z_enumerate g8 g4 g9 gT gs
end Tf
open PySem PySem.W PySem.Calls PyProof.Rows
set_option maxRecDepth 100000 in
set_option maxHeartbeats 0 in
theorem PySem.Challenge.cw_treefits_k08_whole_histories_of_stores_holds : PySem.Challenge.rw_treefits_k08_whole_histories_of_stores.Holds := by
  w_on; o_law
  refine HandSHeadRun.head_any (r := OpenLaw.row PySem.Challenge.rw_treefits_k08_whole_histories_of_stores) (q := Tf.hQ) (H := Tf.hH) (ob := Tf.hOb) (M := 15000) (loose := Tf.hNm) (d := HandSHeadRun.topDef (OpenLaw.row PySem.Challenge.rw_treefits_k08_whole_histories_of_stores).prog 51) (kwd := []) (fun s => TfHd.obT_eq s)
    (by kernel_rfl) (fun s => by kernel_rfl) Tf.hRun (by kernel_rfl) (by kernel_rfl) (by kernel_rfl) (by rfl) (by first | assumption | decide +kernel) (by decide +kernel) ⟨rfl, rfl, rfl, rfl, rfl, by decide +kernel⟩ ?hw ?hc
  case hw => w_witness2
  case hc =>
    refine L2.walk_ofE (l := PySem.Challenge.rw_treefits_k08_whole_histories_of_stores) (n := 63) (k := 9) (x := "_law_script") (CX := L2.CX0) rfl (by decide) (by kernel_rfl) ⟨rfl, by decide, by decide⟩ ?F (fun _ _ _ _ z => z)
    intro w mg fa h Y G hmg0
    obtain ⟨K, KX, c⟩ := Y
    have hmg : mg ("law" : PySem.Str) = some (.ref fa) := by
      have e : (HandSHeadRun.topDef (OpenLaw.row PySem.Challenge.rw_treefits_k08_whole_histories_of_stores).prog 51).name = ("law" : PySem.Str) := by kernel_rfl
      rw [← e]
      exact hmg0
    obtain ⟨fd, hb, hF⟩ := Tf.all_hd (w := w) KX G hmg c
    exact ⟨K, fd, Tf.spLaw8 K, KX, hb, fun H a ns hl _ hS => ⟨a, ns, rfl, hS, hl, fun _ => rfl⟩, hF⟩

