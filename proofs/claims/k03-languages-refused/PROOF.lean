import PyProof.Rows.All
import Wide.All
import OpenK.AllK
import Wide.FinOn
import KE.KExcSuper
import KE.KCallOwn
import KE.KFmtOwn
import HandS.ForMost
import HandS.ForExc
import HandS.More
import HandS.Star
import HandS.ClsMeth
import HandS.Property
import HandS.IsInst
import HandS.ExcIs
import HandS.OwnEq
import HandS.Deep
import HandS.Strs
import HandS.SetKeys
import HandS.Set
import HandS.SetFor
import HandS.DictComp
import HandS.Conv
import HandS.Style
import HandS.FStr
import HandS.CallSlots
import HandS.Wide
import HandS.TupAny
import HandS.Flow
import HandS.Walk
import HandS.Defaults
import KE.KExcInit
import HandS.ExcSuper
import HandS.Lambda
import HandS.EndTab
import PySem.Challenge.RW_treefits_k03_languages_refused
set_option Elab.async false
set_option linter.all false
set_option maxRecDepth 100000
set_option maxHeartbeats 4000000
/-! KeyError as the base of an own error: it is made by LookupError's __new__ -/
namespace PySem
namespace TfKE
open PySem.W PySem.Calls PyProof.Rows PySem.HandSPX
abbrev keBm : List Value := [.type "KeyError", .type "LookupError", .type "Exception", .type "BaseException", .type "object"]
theorem kxs : KxsFacts "KeyError" "KeyError.__init__" := { typ := by (show builtinType _ = _; rw [builtinType_eq_fast]; kernel_rfl), nac := by kernel_rfl }
/-- of the built-in __init__ -/
structure InitF (cls initId : String) : Prop where
  noStar : (cls != "*") = true
  initKind : builtinKind initId = some .slot
  initRow : Manifest.signature? initId = some ⟨.positional, "*", cls, .self, [⟨"args", .varPos, false⟩]⟩
  plain : plainId initId = true
  initEntry : entryFor table initId = some Builtin.«BaseException.__init__»
theorem initKE : InitF "KeyError" "KeyError.__init__" := {
  noStar := by decide +kernel, initKind := by kernel_rfl, initRow := by kernel_rfl, plain := by decide +kernel
  initEntry := by
    refine entryFor_alias (id' := "BaseException.__init__") ?_ ?_ ?_ ?_
    · rw [fastTable_eq_tree]; kernel_rfl
    · first | rfl | decide +kernel
    · decide +kernel
    · rw [fastTable_eq_tree]; kernel_rfl }
theorem passes (self : Value) : refuseLoop self "__setattr__" keBm = pure () := by kernel_rfl
/-- the line of classes of an own error: B is in it, AttributeError and NameError are not -/
structure LineOk (B : String) (l : List Value) : Prop where
  yes : l.contains (.type B) = true
  noA : l.contains (.type "AttributeError") = false
  noN : l.contains (.type "NameError") = false
section
variable {prog : Program} {w : World} {A : Around} {R : Result → Shared → Prop} {h : Heap} {gs : Array GenState} {dr : Drawn} {tk : Nat} {os : OsState}
variable {nm q : Str} {C N fI : Addr} {bs bm bmB vs sub : List Value} {hdct ab : Bool} {sn : List Str} {col : Option Bool} {dd : Option Addr} {k0 k1 k2 k3 k5 : Option Value} {B newId initId : String}
/-- C(..), C an own error whose line holds B: made by B's __new__ (F), then the own __init__ at fI -/
theorem call_any (F : ExcBaseFacts B newId initId bmB) (hl : LineOk B (Value.ref C :: bm)) (hC : h.get? C = some (excClassObj nm q C N bs bm hdct sn sub ab col dd k0 k1 k2 k3 k5 newId))
    (hi : W.Looks (model prog w) h (typeLookup (.ref C) "__init__") (some (.ref fI))) (hb : ∀ self, W.Looks (model prog w) h (bindSpecial (.ref fI) self) (.ref fI, [self])) (hz : vs.length ≤ sizeLine)
    (hq : codeAny (model prog w) (A.under (.builtin "type.__call__" ⟨.ref C :: vs, []⟩)) (.call (.ref fI) ⟨.ref (h.objs.size + 1) :: vs, []⟩) (W.InitBack (h.objs.size + 1) R) ⟨(h.push (W.kdv_tup vs)).push (excO C h.objs.size), gs, dr, tk, os⟩) :
    codeAny (model prog w) A (.call (.ref C) ⟨vs, []⟩) R ⟨h, gs, dr, tk, os⟩ := by
  have looked := tc_lookup
  have bound := tc_bind (.ref C)
  have isTy : (⟨h, gs, dr, tk, os⟩ : Shared).TypeIs (.ref C) "type" := ⟨_, hC, rfl⟩
  have stays : ∀ b o, h.get? b = some o → ((h.push (W.kdv_tup vs)).push (excO C h.objs.size)).get? b = some o := fun b o z => Heap.get?_push_of_some _ (Heap.get?_push_of_some _ z)
  have there : ((h.push (W.kdv_tup vs)).push (excO C h.objs.size)).get? (h.objs.size + 1) = some (excO C h.objs.size) := by heap_get
  have ends := F.ends
  have star := F.noStar
  have own : (Value.ref C :: bm).contains (.ref C) = true := by simp
  apply codeAny_of_tree
  change wpAny _ _ (callAny (.ref C) _) _ _ _
  repeat any_goals first | assumption | (with_reducible refine wpAny_loadPart_at hC ?_) | wp_step
  refine ⟨rfl, codeAny_call_builtin_at (Code.quiet_builtin _ (by decide +kernel)) entry_typeCall (wpAny_check_type_call_sub hC ?_)⟩
  repeat first | (with_reducible refine wpAny_loadPart_at hC ?_) | (with_reducible refine wpAny_madeBy_exc hC ?_) | wp_step
  refine codeAny_call_builtin_code (Code.quiet_builtin _ F.quiet) ?_
  simp only [checkBuiltinCall, F.newKind, F.newSplit, F.newRow]
  repeat first | (refine wpAny_loadPart_at hC ?_) | (refine wpAny_isSubtype_exc hC ?_; rw [hl.yes]) | (refine wpAny_staticBase_exc hC ?_) | (refine wpAny_madeBy_exc hC ?_) | (simp only [bne_self_eq_false, Bool.false_eq_true, if_false]) | wp_step
  -- B's __new__
  apply codeAny_builtinAt F.entry
  unfold Builtin.«BaseException.__new__»
  apply wpAt_bind
  change wpAt _ _ _ (stack >>= _) _ _ _
  refine wpAt_bind (wpAt_stack fun p below => wpAt_of_wpAny ?_)
  wp_walk
  apply wpAt_of_wpAny
  rw [F.owner]
  repeat first | (with_reducible refine wpAny_madeHere_exc F.canon hC ?_) | (with_reducible refine wpAny_loadPart_at hC ?_) | (with_reducible refine wpAny_isSubtype_exc hC ?_; first | rw [hl.yes] | rw [hl.noA] | rw [hl.noN]) | wp_step
  -- the own __init__
  rw [Heap.size_push]
  change wpAny _ _ _ _ _ _
  have C1 := stays _ _ hC
  show wpAny _ _ (isSubtype (.ref C) (.ref C)) _ _ (⟨(h.push (W.kdv_tup vs)).push (excO C h.objs.size), gs, dr, tk, os⟩ : Shared)
  repeat first | (with_reducible refine wpAny_loadPart_at there ?_) | (with_reducible refine wpAny_isSubtype_exc C1 ?_; rw [own]) | wp_step
  change wpAny _ _ (typeLookup (.ref C) _) _ _ _
  refine (hi.keeps stays).at (wpAny_holding (wpAny_bind (((hb (.ref (h.objs.size + 1))).keeps stays).at (wpAny_bind (wpAny_call (codeAny_mono hq fun r s' z => ?_))))))
  cases r with
  | error e => exact z
  | ok fl =>
    cases fl with
    | ret v =>
      obtain ⟨rfl, z⟩ := z
      first
        | exact wpAny_pure (wpAny_pure z)
        | (wp_walk; exact z)
    | _ => exact z.elim
end
end TfKE
end PySem

/-! own errors whose __init__ says super().__init__(x) -/
namespace PySem
namespace TfS
open PySem.W PySem.Calls PyProof.Rows PySem.HandSPX
def iA (n : Str) (p1 p2 : Pos) : Arguments := { posonlyargs := [], args := [{ arg := "self", annotation := none, pos := p1 }, { arg := n, annotation := none, pos := p2 }], vararg := none, kwonlyargs := [], kw_defaults := [], kwarg := none, defaults := [] }
def sB (n : Str) (q1 q2 q3 q4 q5 q6 : Pos) : Stmt := .Expr (.Call (.Attribute (.Call (.Name "super" q1) [] [] q2) "__init__" q3) [.Name n q4] [] q5) q6
def cB (n : Str) (q1 q2 q3 q4 q5 : Pos) : Expr := .Call (.Attribute (.Call (.Name "super" q1) [] [] q2) "__init__" q3) [.Name n q4] [] q5
def iS (n : Str) : Scope := { kind := .function, names := [(PySem.Str.ofString "self", .local), (n, .local), (PySem.Str.ofString "__class__", .free), (PySem.Str.ofString "super", .globalImplicit)], isGenerator := false, isCoroutine := false, more := [] }
/-- the written part says: x is an error class at C over the built-in B; its __init__, of the class at D, is at fI: super().__init__(n), then rest -/
structure SupTxt (prog : Program) (K : Frag) (mg : Str → Option Value) (Bn newId B initId : String) (x n qual : Str) (rest : List Stmt) (C D fI : Addr) : Prop where
  gC : mg x = some (.ref C)
  cls : ∃ nm q N bs bm sn sub ab col dd k0 k1 k2 k3 k5, K.lookup C = some (excClassObj nm q C N bs bm true sn sub ab col dd k0 k1 k2 k3 k5 newId) ∧ PySem.TfKE.LineOk Bn (Value.ref C :: bm)
  iC : findIn K (.ref C) "__init__" = some (some (.ref fI))
  tC : typeIn K (.ref fI) = some (.type "function")
  kC : keepIn K (.ref C) = true
  exC : subIn K (.ref C) (.type "BaseException") = some true
  tyC : typeIn K (.ref C) = some (.type "type")
  suB : subIn K (.ref C) (.type B) = some true
  sup : ks_superIn K C D "__init__" = some (some (.builtin initId))
  opq : nsIn K cStatics "thirdparty.any" = some none
  fn : ∃ (oc : Value) (od : Option Addr) (doc pm : Value) (an : Option Addr) (cda : Addr) (ct : Value) (osl : Array (Option Value)) (p1 p2 q1 q2 q3 q4 q5 q6 : Pos) (cc : Addr) (ccl : Value) (cdd : Option Addr) (vs : Array Value) (ccs : Array (Option Value)) (file : Str) (tf : Tok) (cl : Value) (cld : Option Addr) (csl : Array (Option Value)),
    K.lookup fI = some ⟨oc, od, .func (ksFn "__init__" qual (iA n p1 p2) (sB n q1 q2 q3 q4 q5 q6 :: rest) (iS n) .none .none doc pm an (.ref cda) ct cc), osl⟩ ∧ codeIn K (.ref cda) qual = true ∧
    K.lookup cda = some ⟨ccl, cdd, .fields vs, ccs⟩ ∧ vs[2]? = some (.str file tf) ∧ ((prog.main.file : Str) == file) = true ∧ K.lookup cc = some ⟨cl, cld, .cell (some (.ref D)), csl⟩ ∧
    ∀ env : Env, ∃ pl : Sem Bool, eval (cB n q1 q2 q3 q4 q5) env = (do
      let ov ← attributeBase (.Call (.Name "super" q1) [] [] q2) "__init__" env (eval (.Call (.Name "super" q1) [] [] q2) env)
      standAt q3.atName
      let (f, first) ← holding [ov] (getMethod ov "__init__" pl)
      callWith q5 f first (backTo q5 (starEach [.Name n q4] env)) [])
  clD : ∃ cdD, clsIn K D = some cdD
  inD : mroIn K C (.ref D) = some true
  noS : mg "super" = none
  topS : (prog.main.scope.names.lookup ("super" : Str)).isSome = false
/-- the module's names, in a heap -/
def Glb (mg : Str → Option Value) (h : Heap) : Prop := h.Ns mainGlobals mg ∧ ∃ mb, h.Ns builtinsNs mb ∧ ∀ x : Str, x ≠ "__name__" → mb x = bootBuiltins x
section
variable {prog : Program} {w : World} {A : Around} {E : Value → Shared → Prop} {R : Result → Shared → Prop} {s : Shared} {K : Frag} {mg : Str → Option Value} {Bn newId B initId initN : String} {bmN : List Value} {x n qual : Str} {rest : List Stmt} {C D fI : Addr}
theorem init_of {bmB : List Value} (F : ExcBaseFacts B newId initId bmB) : PySem.TfKE.InitF B initId := ⟨F.noStar, F.initKind, F.initRow, F.init.plain, F.initEntry⟩
theorem chk_init {M : Model} {nm q : Str} {N e : Addr} {oe : Obj} {bs bm : List Value} {hdct : Bool} {sn : List Str} {sub : List Value} {ab : Bool} {col : Option Bool} {dd : Option Addr} {k0 k1 k2 k3 k5 : Option Value} {vs : List Value} {Q : Unit → Shared → Prop} {h : Heap} {g : Array GenState} {d : Drawn} {t : Nat} {os : OsState}
    (F : PySem.TfKE.InitF B initId) (hC : h.get? C = some (excClassObj nm q C N bs bm hdct sn sub ab col dd k0 k1 k2 k3 k5 newId)) (he : h.get? e = some oe) (hc : oe.cls = .ref C) (hq : Q () ⟨h, g, d, t, os⟩) : wpAny M A (checkBoundCall initId ⟨.ref e :: vs, []⟩) Q E ⟨h, g, d, t, os⟩ := by
  have short := F.noStar
  simp only [checkBoundCall, F.initKind, F.initRow]
  repeat first | (with_reducible refine wpAny_loadPart_at he ?_; rw [hc]) | (with_reducible refine wpAny_loadPart_at hC ?_) | wp_step
  apply wpAny_onRaise
  have c : ∀ (a b : String) (n : Nat), Bind.check ⟨.positional, "*", B, .self, [⟨"args", .varPos, false⟩]⟩ a b n (List.map (fun x => x.fst) ({ pos := Value.ref e :: vs } : Args).kw) = pure () := fun a b n => check_star_args _ _ _ _ _ _
  rw [c]
  exact wpAny_pure hq
/-- the bound built-in __init__, called -/
theorem bw_call {u e t0 : Addr} {vs : List Value} {Q : Value → Shared → Prop} {h : Heap} {g : Array GenState} {d : Drawn} {t : Nat} {os : OsState} {nm q : Str} {N : Addr} {bs bm : List Value} {sn : List Str} {sub : List Value} {ab : Bool} {col : Option Bool} {dd : Option Addr} {k0 k1 k2 k3 k5 : Option Value}
    (FB : PySem.TfKE.InitF B initId) (hC : h.get? C = some (excClassObj nm q C N bs bm true sn sub ab col dd k0 k1 k2 k3 k5 newId)) (he : h.get? e = some (excO C t0)) (hu : h.get? u = some (kxs_mw initId e)) (hz : vs.length ≤ sizeLine)
    (hq : ∀ h' t1, (∀ b o, b ≠ e → h.get? b = some o → h'.get? b = some o) → h'.get? e = some (excO C t1) → Q .none ⟨h', g, d, t, os⟩) :
    wpAny (model prog w) A (call (.ref u) vs) Q E ⟨h, g, d, t, os⟩ := by
  refine wpAny_call (codeAny_of_tree ?_)
  show wpAny _ A.in1 (callAny (.ref u) ⟨vs, []⟩) _ _ _
  simp only [callAny]
  refine wpAny_bind (wpAny_load hu ?_)
  simp only [kxs_mw, show (Value.type "method-wrapper" == Value.type "method" || Value.type "method-wrapper" == Value.type "builtin_function_or_method" || Value.type "method-wrapper" == Value.type "method-wrapper") = true by decide, if_true]
  refine W.KFB.if_so (by decide) ?_
  refine wpAny_bind (chk_init FB hC he rfl ?_)
  refine wpAny_bind (wpAny_pure (wpAny_pure ?_))
  refine ⟨plainId_quiet FB.plain _, codeAny_builtin FB.initEntry ?_⟩
  exact exc_init_tree (cls := .ref C) (t0 := t0) (dv := none) (c2 := .none) (c3 := .none) (b4 := .bool false) he hz fun h' k e' _ => hq h' _ k e'
/-- __init__ of such a class, at a fresh error -/
theorem sup_init (KF : KxsFacts B initId) (FB : PySem.TfKE.InitF B initId) (T : SupTxt prog K mg Bn newId B initId x n qual rest C D fI) (l2 : (iS n).names.lookup n = some .local) (l3 : (iS n).names.lookup ("__class__" : Str) = some .free) (l4 : (iS n).names.lookup ("super" : Str) = some .globalImplicit) (hnd : (n == ("__debug__" : Str)) = false) (hns : (n == ("self" : Str)) = false)
    (hbd : ∀ (q : Str) (p1 p2 : Pos) (b : List Stmt) (doc pm : Value) (an : Option Addr) (cdv ct : Value) (cc : Addr) (e v : Value), bindArgs (ksFn "__init__" q (iA n p1 p2) b (iS n) .none .none doc pm an cdv ct cc) ⟨[e, v], []⟩ = pure [(("self" : Str), e), (n, v)])
    {e t0 : Addr} {v : Value} (X : K.In s.heap) (G : Glb mg s.heap) (hlim : s.heap.NoLimit) (hx : s.heap.get? e = some (excO C t0)) (hnx : K.lookup e = none) (hroom : A.depth < recursionLimit)
    (hq : ∀ (env : Env) (h' : Heap) (tk : Nat) (t1 : Addr) (m : Str → Option Value) (c : Code), (∀ b o, b ≠ e → s.heap.get? b = some o → h'.get? b = some o) → h'.get? e = some (excO C t1) → h'.Ns env.locals m → m "self" = some (.ref e) → m n = some v → env.scope = iS n → s.heap.objs.size ≤ env.locals →
      PySem.wpAt (model prog w) (A.deeper env) c (execs rest env) (fun f s' => R (.ok (.ret (match f with | .ret v => v | _ => .none))) s')
        (fun e s' => wpAny (model prog w) (A.deeper env) (leaving env e) (fun _ s'' => R (.error e) s'') (fun e' s'' => R (.error e') s'') s') { s with heap := h', toks := tk }) :
    codeAny (model prog w) A (.call (.ref fI) ⟨[.ref e, v], []⟩) R s := by
  obtain ⟨oc, od, doc, pm, an, cda, ct, osl, p1, p2, q1, q2, q3, q4, q5, q6, cc, ccl, cdd, vs, ccs, file, tf, cl, cld, csl, ho, hcd, hcode, hvs, hfile, hcell, hev⟩ := T.fn
  obtain ⟨nm, q, N, bs, bm, sn, sub, ab, col, dd, k0, k1, k2, k3, k5, hC, hT⟩ := T.cls
  obtain ⟨cdD, hD⟩ := T.clD
  obtain ⟨hg, mb, hb, hmb⟩ := G
  obtain ⟨hh, g, d, t, os⟩ := s
  have hcl : clsIn K C = some { name := nm, bases := bs, mro := .ref C :: bm, ns := N, qualname := q, hasDict := true, slotNames := sn, subclasses := sub, abstract := ab, collection := col, hasDel := false } := by unfold clsIn; rw [hC] <;> rfl
  have l1 : (iS n).names.lookup ("self" : Str) = some .local := rfl
  refine ks_codeAny_call_defAt (fd := ksFn "__init__" qual (iA n p1 p2) (sB n q1 q2 q3 q4 q5 q6 :: rest) (iS n) .none .none doc pm an (.ref cda) ct cc) (body := sB n q1 q2 q3 q4 q5 q6 :: rest) (binds := [("self", .ref e), (n, v)]) hroom (X _ _ ho) rfl hlim (codeRec_of X hcd) rfl
    (BindsTo.of_eq (hbd _ _ _ _ _ _ _ _ _ _ _ _)) ?_ ?_ (fun h₁ hn1 hk₁ => ?_) rfl rfl rfl
  · intro y hy
    simp only [iS, List.mem_cons, List.not_mem_nil, or_false] at hy
    rcases hy with rfl | rfl | rfl | rfl <;> exact fun z => nomatch z
  · intro y hy
    simp only [List.mem_cons, List.not_mem_nil, or_false] at hy
    rcases hy with rfl | rfl
    · exact l1
    · exact l2
  have hk₁' : ∀ b o, hh.get? b = some o → h₁.get? b = some o := hk₁
  have X1 : K.In h₁ := X.keeps hk₁'
  have hx1 := hk₁' _ _ hx
  have eL : hh.objs.size ≠ e := Nat.ne_of_gt (Heap.lt_size hx)
  have mself : ([("self", Value.ref e), (n, v)] : List (Str × Value)).reverse.lookup ("self" : Str) = some (.ref e) := by
    show (match ("self" : Str) == n with | true => _ | false => _) = _
    have : (("self" : Str) == n) = false := by
      simp only [beq_eq_false_iff_ne, ne_eq] at hns ⊢
      exact fun z => hns z.symm
    rw [this]
    rfl
  have mn : ([("self", Value.ref e), (n, v)] : List (Str × Value)).reverse.lookup n = some v := by
    show (match n == n with | true => _ | false => _) = _
    simp
  have ICe : InstAt h₁ e (excO C t0) C none := ⟨hx1, rfl, rfl, trivial⟩
  obtain ⟨pl, hev⟩ := hev (callEnv (ksFn "__init__" qual (iA n p1 p2) (sB n q1 q2 q3 q4 q5 q6 :: rest) (iS n) .none .none doc pm an (.ref cda) ct cc) hh.objs.size fI)
  refine ks_wpAt_execs_cons (ks_wpAt_Expr_any (ks_wpAt_MethodCall (pl := pl) ?_ hev))
  refine ks_wpAt_super_base (env := ksEnv qual (iS n) hh.objs.size fI (.ref cda) cc) l4 l3 (by decide +kernel) rfl (X1 _ _ ho) rfl (ar := { arg := "self", annotation := none, pos := p1 }) rfl rfl (X1 _ _ hcode) rfl hvs hfile T.topS ?_
  refine ks_loadName_global rfl l4 (loadGlobal_builtin (env := ksEnv qual (iS n) hh.objs.size fI (.ref cda) cc) (hg.keeps hk₁') T.noS (hb.keeps hk₁') ((hmb _ (by decide +kernel)).trans (by decide +kernel)) ⟨rfl, ?_⟩)
  refine wpAny_loadName_free rfl l3 rfl ⟨_, X1 _ _ hcell, rfl⟩ ?_
  refine wpAny_loadName_local rfl l1 hn1 mself ?_
  obtain ⟨oD, hD1, hD2⟩ : ∃ oD, h₁.get? D = some oD ∧ oD.data = .cls cdD := by
    unfold clsIn at hD
    split at hD
    · rename_i c d cd' sl ho
      cases hD
      exact ⟨_, X1 _ _ ho, rfl⟩
    · cases hD
  refine ks_wpAny_isType_cls hD1 hD2 ⟨rfl, ?_⟩
  refine ks_wpAny_call_super hD1 hD2 hx1 rfl (fun c z => nomatch z) (looks_mroIn X1 T.inD) (fun h2 e2 k2 => ?_)
  -- the bound __init__
  have X2 : K.In h2 := X1.keeps k2
  have hsup := T.sup
  unfold ks_superIn at hsup
  rw [hcl] at hsup
  have ICe2 : InstAt h2 e (excO C t0) C none := ⟨k2 _ _ hx1, rfl, rfl, trivial⟩
  refine kxs_getMethod KF e2 (looks_opaque X2 T.opq) (l₀ := .ref C :: bm) ?_ rfl X2 hsup (ICe2.type.andThen (looks_subIn X2 T.suB)) (ks_ne X2 ICe2 hcl) (by decide +kernel) ?_
  · exact fun A Q E s k q => wpAny_bind ((looks_clsIn X2 hcl) A _ E s k (wpAny_pure q))
  have k3 : ∀ b o, h2.get? b = some o → (h2.push (kxs_mw initId e)).get? b = some o := fun b o z => Heap.get?_push_of_some _ z
  have hu : (h2.push (kxs_mw initId e)).get? h2.objs.size = some (kxs_mw initId e) := Heap.get?_push_at rfl rfl
  refine kxs_callWith (i := initId) (x := e) rfl ?_
  refine evalArgs_plain (spliced_cons ?_)
  have hn3 : (h2.push (kxs_mw initId e)).Ns hh.objs.size (fun y => ([("self", Value.ref e), (n, v)] : List (Str × Value)).reverse.lookup y) := hn1.keeps fun b o z => k3 b o (k2 b o z)
  refine wpAny_Name (wpAny_loadName_local rfl l2 hn3 mn (spliced_nil ⟨hu, ?_⟩)) hnd
  refine bw_call FB (k3 _ _ (k2 _ _ (X1 _ _ hC))) (k3 _ _ (k2 _ _ hx1)) hu (by show 1 ≤ sizeLine; rw [sizeLine_eq]; omega) fun h4 t1 k4 e4 => ?_
  refine hq (ksEnv qual (iS n) hh.objs.size fI (.ref cda) cc) h4 _ t1 (fun y => ([("self", Value.ref e), (n, v)] : List (Str × Value)).reverse.lookup y) _ (fun b o hb z => k4 b o hb (k3 b o (k2 b o (hk₁' b o z)))) e4 ?_ mself mn rfl (Nat.le_refl _)
  obtain ⟨oL, es, ep, hL, r⟩ := hn3
  exact ⟨oL, es, ep, k4 _ _ eL hL, r⟩
/-- C(v), nothing behind super().__init__ -/
theorem sup_made (KF : KxsFacts B initId) (FB : PySem.TfKE.InitF B initId) (FN : ExcBaseFacts Bn newId initN bmN) (T : SupTxt prog K mg Bn newId B initId x n qual [] C D fI) (l2 : (iS n).names.lookup n = some .local) (l3 : (iS n).names.lookup ("__class__" : Str) = some .free) (l4 : (iS n).names.lookup ("super" : Str) = some .globalImplicit) (hnd : (n == ("__debug__" : Str)) = false) (hns : (n == ("self" : Str)) = false)
    (hbd : ∀ (q : Str) (p1 p2 : Pos) (b : List Stmt) (doc pm : Value) (an : Option Addr) (cdv ct : Value) (cc : Addr) (e v : Value), bindArgs (ksFn "__init__" q (iA n p1 p2) b (iS n) .none .none doc pm an cdv ct cc) ⟨[e, v], []⟩ = pure [(("self" : Str), e), (n, v)])
    {v : Value} (X : K.In s.heap) (G : Glb mg s.heap) (hlim : s.heap.NoLimit) (hroom : A.depth + 1 < recursionLimit)
    (hq : ∀ h' tk e t1, (∀ b o, s.heap.get? b = some o → h'.get? b = some o) → s.heap.objs.size ≤ e → h'.get? e = some (excO C t1) → R (.ok (.ret (.ref e))) { s with heap := h', toks := tk }) :
    codeAny (model prog w) A (.call (.ref C) ⟨[v], []⟩) R s := by
  obtain ⟨nm, q, N, bs, bm, sn, sub, ab, col, dd, k0, k1, k2, k3, k5, hC, hT⟩ := T.cls
  obtain ⟨hp, g, dr, tk, os⟩ := s
  have k : ∀ b o, hp.get? b = some o → ((hp.push (kdv_tup [v])).push (excO C hp.objs.size)).get? b = some o := fun b o e => Heap.get?_push_of_some _ (Heap.get?_push_of_some _ e)
  have hget : ((hp.push (kdv_tup [v])).push (excO C hp.objs.size)).get? (hp.objs.size + 1) = some (excO C hp.objs.size) := by heap_get
  have hnx : K.lookup (hp.objs.size + 1) = none := by
    cases e : K.lookup (hp.objs.size + 1) with
    | none => rfl
    | some o =>
      have z : hp.get? (hp.objs.size + 1) = some o := X _ _ e
      exact absurd (Nat.lt_of_succ_lt (Heap.lt_size z)) (Nat.lt_irrefl _)
  refine PySem.TfKE.call_any FN hT (X _ _ hC) (looks_findIn X T.iC) (fun self => bind_fn X self T.tC) (by show 1 ≤ sizeLine; rw [sizeLine_eq]; omega) ?_
  obtain ⟨hg, mb, hb, hmb⟩ := G
  refine sup_init (s := ⟨(hp.push (kdv_tup [v])).push (excO C hp.objs.size), g, dr, tk, os⟩) KF FB T l2 l3 l4 hnd hns hbd (X.keeps k) ⟨hg.keeps k, mb, hb.keeps k, hmb⟩ (hlim.keeps k) hget hnx ?_ fun env h' tk' t1 m c k' hx hn' ms mn es le => ?_
  · show A.depth + 1 < recursionLimit
    exact hroom
  · refine wpAt_of_wpAny (wpAny_execs_nil ?_)
    have old : ∀ b o, hp.get? b = some o → h'.get? b = some o := fun b o e => k' b o (Nat.ne_of_lt (Nat.lt_succ_of_lt (Heap.lt_size e))) (k b o e)
    exact ⟨rfl, hq h' tk' (hp.objs.size + 1) t1 old (Nat.le_succ _) hx⟩
end
end TfS
end PySem
namespace L2
open PySem PySem.Spec PyProof.Rows
section
variable {X : Cx} {Bn newId B initId initN : String} {bmN : List Value} {x n qual : Str} {C D fI : Addr}
theorem Inv.glb {pins : List (Addr × Obj)} {σ : St} {H : Hp} {s : Shared} (I : Inv X pins σ H s) : PySem.TfS.Glb X.mg s.heap := by
  obtain ⟨mb, hb, hm⟩ := I.ok.mod.blt
  exact ⟨I.ok.mod.glob.keeps I.bk, mb, hb.keeps I.bk, hm⟩
/-- x(a): a new error of the class at C, without a dict of its own -/
def tMkS (C : Addr) (ta : TA) : St → Hp → XK → Prop := fun σ H Q => ta σ H fun vs H1 => ∃ v, vs = [v] ∧ Q (.ref C) none H1
theorem pmk_sup {a : Expr} {ta : TA} {p pos : Pos} {k : Nat} (KF : PySem.W.KxsFacts B initId) (FB : PySem.TfKE.InitF B initId) (FN : ExcBaseFacts Bn newId initN bmN) (T : PySem.TfS.SupTxt X.prog X.K X.mg Bn newId B initId x n qual [] C D fI) (hr : Room k X.A) (ha : PA X [a] ta)
    (l2 : (PySem.TfS.iS n).names.lookup n = some .local) (l3 : (PySem.TfS.iS n).names.lookup ("__class__" : Str) = some .free) (l4 : (PySem.TfS.iS n).names.lookup ("super" : Str) = some .globalImplicit) (hnd : (n == ("__debug__" : Str)) = false) (hns : (n == ("self" : Str)) = false)
    (hbd : ∀ (q : Str) (p1 p2 : Pos) (b : List Stmt) (doc pm : Value) (an : Option Addr) (cdv ct : Value) (cc : Addr) (e v : Value), bindArgs (PySem.W.ksFn "__init__" q (PySem.TfS.iA n p1 p2) b (PySem.TfS.iS n) .none .none doc pm an cdv ct cc) ⟨[e, v], []⟩ = pure [(("self" : Str), e), (n, v)])
    (hg : Gl X x := by rfl) (hdb : (x == ("__debug__" : Str)) = false := by decide)
    (he : starEach (a :: []) X.env = (false, eval a X.env) :: starEach [] X.env := by rfl) (hpl : (backTo pos (starEach [] X.env)).any (·.1) = false := by rfl) :
    PMk X (.Call (.Name x p) [a] [] pos) (tMkS C ta) := by
  intro pins s σ H Q I h
  refine wpAny_Call_Name_kw (ld_glob I hg T.gC ?_ hdb)
  refine PySem.W.callWith_K (h₀ := X.base) I.ok.mod.kin T.kC (thn (ha.run pos pins s σ H _ I h) fun us s1 hh => ?_) he hpl
  obtain ⟨vs, H1, I1, r1, v, ev, q1⟩ := hh
  subst ev
  refine ⟨I1.kIn, ?_⟩
  cases r1 with
  | cons rv rn =>
    rename_i v' us'
    cases rn
    show wpAny _ _ (call (.ref C) [v']) _ _ _
    have hlim := I1.nolimit
    refine wpAny_call (PySem.TfS.sup_made KF FB FN T l2 l3 l4 hnd hns hbd I1.kIn I1.glb hlim (by have := hr.dp; omega) fun h' tk' e t1 kp new he' => ?_)
    show MkP X pins σ Q (.ref e) _
    exact ⟨e, _, _, s1, H1, .ref C, none, rfl, I1, kp, Heap.get?_none_of_le new, he', ⟨rfl, rfl⟩, rfl, rfl, I1.hok.fresh new, rfl, I1.bare, raises_own T.exC T.tyC, q1⟩
end
end L2

/-! own special methods: len(o), x in o, o == x, o != x, str(o) -/
namespace PySem
namespace TfO
open PySem.W PySem.Calls PyProof.Rows
section
variable {prog : Program} {w : World} {M : Model} {A : Around} {E : Value → Shared → Prop} {s : Shared} {K : Frag} {x C f : Addr} {ox : Obj} {od : Option Obj} {b tb : Value}
theorem ifBound_B {name : Str} {id : String} {args : List Value} {Q : Option Value → Shared → Prop} (X : K.In s.heap) (I : InstAt s.heap x ox C od) (hs : findIn K (.ref C) name = some (some (.builtin id)))
    (hb : ∀ self, bindSpecial (.builtin id) self = pure (.builtin id, [self])) (h : wpAny M A (call (.builtin id) (.ref x :: args)) (fun v => Q (some v)) E s) : wpAny M A (callSpecialIfBound? (.ref x) name args) Q E s := by
  simp only [callSpecialIfBound?, bindSpecialIfBound?]
  refine wpAny_holding (wpAny_bind (wpAny_bind (wpAny_bind (I.type.here ((looks_findIn X hs).here ?_)))))
  refine wpAny_bind (wpAny_askSetting (wpAny_ite ?_))
  have fin : wpAny M A (call (.builtin id) ([.ref x] ++ args) >>= fun v => pure (some v)) Q E s := wpAny_bind (wpAny_mono h (fun v s' h' => wpAny_pure h') fun _ _ h' => h')
  split
  · exact wpAny_bind ((Looks.of_pure (hb _)).here (wpAny_pure (by exact fin)))
  · exact wpAny_tryCatch (wpAny_bind ((Looks.of_pure (hb _)).here (wpAny_pure (by exact fin))))
theorem slot_one : Slot "object" "__ne__" "object.__ne__" := .of (owner := "object") (n := "__ne__") (by rw [typeLookup_type, builtinLookup_eq_fast]; kernel_rfl) (by decide +kernel) (by decide +kernel) (by decide +kernel) (by first | exact .inl (by decide +kernel) | exact .inr (by decide +kernel)) (by rw [isSubtype_type]; kernel_rfl)
/-- o != b: no own __ne__, an own __eq__ that answers with a bool -/
theorem ne_K {Q : Value → Shared → Prop} (hu : A.units + 1 < cLine) (X : K.In s.heap) (I : InstAt s.heap x ox C od) (hb : Looks (model prog w) s.heap (typeOf b) tb) (hn : notFirst K C tb = true)
    (hs : findIn K (.ref C) "__eq__" = some (some (.ref f))) (hf : isFn K (.ref f) = true) (hne : findIn K (.ref C) "__ne__" = some (some (.builtin "object.__ne__"))) (hm : mroIn K C (.type "object") = some true)
    (h : wpAny (model prog w) A.in1 (call (.ref f) [.ref x, b]) (fun v s' => ∃ r, v = .bool r ∧ Q (.bool (!r)) s') E s) : wpAny (model prog w) A (richCompare .NotEq (.ref x) b) Q E s := by
  have one : wpAny (model prog w) A (tryCompare (.ref x) (cmpInfo .NotEq).2.1 b) (fun r s' => ∃ v, r = some v ∧ Q v s') E s := by
    unfold tryCompare
    refine wpAny_bind (ifBound_B (name := "__ne__") X I hne slot_one.bind ?_)
    refine wpAny_call (codeAny_call_builtin slot_one.plain F.cmpEntry_ne (check_slot (i := "object.__ne__") (owner := "object") (n := "__ne__") F.cmpKind_ne F.cmpSplit_ne (I.type.andThen (looks_mroIn X hm)) (F.cmpArgs_ne _ _) ?_))
    unfold Builtin.«object.__ne__»
    refine wpAny_bind (m := slotArgs "__ne__" 1 _) (wpAny_pure ?_)
    refine wpAny_bind (m := cRoomFor _ _) (wpAny_cRoomFor hu ?_)
    refine wpAny_bind (m := callSpecialIfBound? (.ref x) (Str.ofString "__eq__") _) (ifBound_K X I hs hf (wpAny_mono h (fun r s' hq => ?_) fun _ _ y => y))
    obtain ⟨r, rfl, hq⟩ := hq
    refine wpAny_bind (m := truthy (.bool r)) (wpAny_truthy_bool ?_)
    exact wpAny_pure (wpAny_pure ⟨_, rfl, hq⟩)
  unfold richCompare
  simp only [oneThing_ref]
  refine wpAny_holding (wpAny_bind (wpAny_cRoomFor (Nat.lt_of_succ_lt hu) ?_))
  refine wpAny_bind (I.type.here (wpAny_bind (hb.here ?_)))
  split
  · rename_i q
    have e : subIn K tb (.ref C) = some false := by
      rcases Bool.or_eq_true_iff.mp hn with e | e
      · rw [beq_iff_eq.mp e] at q; simp at q
      · exact beq_iff_eq.mp e
    refine wpAny_bind ((looks_subIn X e).here ?_)
    simp only [Bool.false_eq_true, if_false]
    refine wpAny_bind (wpAny_mono one (fun r s' z => ?_) fun _ _ e => e)
    obtain ⟨v, rfl, hq⟩ := z
    exact wpAny_pure hq
  · refine wpAny_bind (wpAny_pure ?_)
    simp only [Bool.false_eq_true, if_false]
    refine wpAny_bind (wpAny_mono one (fun r s' z => ?_) fun _ _ e => e)
    obtain ⟨v, rfl, hq⟩ := z
    exact wpAny_pure hq
end
end TfO
end PySem
namespace L2
open PySem PySem.Spec PyProof.Rows
section
variable {X : Cx} {CX : CXT} {k : Nat} {f C : Addr} {sp : Sp} {E : XK}
theorem run_sub {pins : List (Addr × Obj)} {σ : St} {H : Hp} {s : Shared} {Q : VK} {A : Around} {us : List Value} {vs : List V} (F : FnR X.prog X.w X.K X.mg X.base CX k f sp) (sb : Sub X k A) (hx : Passes CX X E) (I : Inv X pins σ H s) (r : Vals vs us) (h : sp vs H Q E) :
    wpAny (model X.prog X.w) A (call (.ref f) us) (EP X pins σ Q) X.xe s := by
  have e0 : Env0 X.prog X.w X.K X.mg X.base A X.stack s H := by
    have e := I.env0
    exact ⟨by rw [sb.fr]; exact e.frames, e.mod, e.bs, e.bsz, e.funs, e.frf, e.hok, e.bare⟩
  refine wpAny_call (codeAny_mono (F A X.stack s H us vs Q E sb.room e0 r h) fun r s' hq => ?_)
  cases r with
  | error e => exact hx pins σ H s e s' I hq
  | ok fl =>
    cases fl with
    | ret w => exact I.after hq
    | next => exact False.elim hq
    | brk => exact False.elim hq
    | cont => exact False.elim hq
theorem sub0 (hr : Room k X.A) : Sub X k X.A := ⟨hr, rfl⟩
theorem sub1 (hr : Room (k + 1) X.A) : Sub X k X.A.in1 := ⟨hr.in1, rfl⟩
theorem sub2 (hr : Room (k + 2) X.A) : Sub X k X.A.in1.in1 := ⟨hr.in1.in1, rfl⟩
/-- an instance as the library sees it -/
theorem ins_at {pins : List (Addr × Obj)} {σ : St} {H : Hp} {s : Shared} {a dx : Addr} {fs : List (Str × V)} (I : Inv X pins σ H s) (h : H a = some (.ins C dx fs)) : ∃ ox od, PySem.W.InstAt s.heap a ox C od := by
  obtain ⟨mA, O, _⟩ := ins_get I.hok h
  obtain ⟨od, J, _⟩ := O.look
  exact ⟨_, _, J⟩
/-- C's special method named m is the def at f -/
structure Own (K : PySem.W.Frag) (C : Addr) (m : Str) (f : Addr) : Prop where
  at_ : PySem.W.findIn K (.ref C) m = some (some (.ref f))
  fn : PySem.W.isFn K (.ref f) = true
def bk (Q : VK) : VK := fun v H' => ∃ b, v = .bl b ∧ Q (.bl b) H'
/-- len(o) -/
def rLenO (C : Addr) (sp : Sp) (E : XK) : List V → Hp → VK → Prop := fun xs H Q => ∃ a dx fs, xs = [.ref a] ∧ H a = some (.ins C dx fs) ∧ sp [.ref a] H (fun v H' => ∃ n : Int, v = .int n ∧ 0 ≤ n ∧ n < 2 ^ 63 ∧ Q (.int n) H') E
theorem call_lenO (o : Own X.K C "__len__" f) (F : FnR X.prog X.w X.K X.mg X.base CX k f sp) (hr : Room (k + 1) X.A) (hx : Passes CX X E) : CallR X (.builtin "len") (rLenO C sp E) := by
  intro pins s σ H xs us Q I r h
  obtain ⟨a, dx, fs, rfl, ha, h⟩ := h
  cases r with
  | cons ra rn =>
    cases rn
    cases ra
    obtain ⟨ox, od, J⟩ := ins_at I ha
    obtain ⟨m, hF⟩ := I.fr
    refine PySem.W.len_K hF I.ok.mod.kin J o.at_ o.fn (wpAny_mono (run_sub F (sub1 hr) hx I (vs := [.ref a]) (.cons rfl .nil) h) (fun v s' q => ?_) fun _ _ z => z)
    obtain ⟨v', H', I', rv, n, rfl, h0, h1, q⟩ := q
    obtain ⟨t, rfl⟩ := rv
    exact ⟨⟨h0, h1⟩, .int n, H', I'.tok _, ⟨_, rfl⟩, q⟩
/-- x in o, x not in o -/
def rInO (C : Addr) (sp : Sp) (E : XK) (neg : Bool) : R2 := fun x y H Q => ∃ a dx fs, y = .ref a ∧ H a = some (.ins C dx fs) ∧ sp [.ref a, x] H (fun v H' => ∃ b, v = .bl b ∧ Q (.bl (if neg then !b else b)) H') E
theorem op_inO (o : Own X.K C "__contains__" f) (F : FnR X.prog X.w X.K X.mg X.base CX k f sp) (hr : Room k X.A) (hx : Passes CX X E) : OpR X (compareOp .In) (rInO C sp E false) := by
  intro pins s σ H x y u v Q I rx ry h
  obtain ⟨a, dx, fs, rfl, ha, h⟩ := h
  cases ry
  obtain ⟨ox, od, J⟩ := ins_at I ha
  obtain ⟨m, hF⟩ := I.fr
  refine PySem.W.in_K hF I.ok.mod.kin J o.at_ o.fn (wpAny_mono (run_sub F (sub0 hr) hx I (vs := [.ref a, x]) (.cons rfl (.cons rx .nil)) h) (fun v s' q => ?_) fun _ _ z => z)
  obtain ⟨v', H', I', rv, b, rfl, q⟩ := q
  cases rv
  exact wpAny_truthy_bool ⟨.bl b, H', I', rfl, q⟩
theorem op_notInO (o : Own X.K C "__contains__" f) (F : FnR X.prog X.w X.K X.mg X.base CX k f sp) (hr : Room k X.A) (hx : Passes CX X E) : OpR X (compareOp .NotIn) (rInO C sp E true) := by
  intro pins s σ H x y u v Q I rx ry h
  obtain ⟨a, dx, fs, rfl, ha, h⟩ := h
  cases ry
  obtain ⟨ox, od, J⟩ := ins_at I ha
  obtain ⟨m, hF⟩ := I.fr
  refine PySem.W.notIn_K hF I.ok.mod.kin J o.at_ o.fn (wpAny_mono (run_sub F (sub0 hr) hx I (vs := [.ref a, x]) (.cons rfl (.cons rx .nil)) h) (fun v s' q => ?_) fun _ _ z => z)
  obtain ⟨v', H', I', rv, b, rfl, q⟩ := q
  cases rv
  exact wpAny_truthy_bool ⟨.bl (!b), H', I', rfl, q⟩
/-- the type of y, seen in the heap -/
def TyL (X : Cx) (H : Hp) (y : V) (tb : Value) : Prop := ∀ (pins : List (Addr × Obj)) (σ : St) (s : Shared) (u : Value), Inv X pins σ H s → RelV y u → PySem.W.Looks (model X.prog X.w) s.heap (typeOf u) tb
theorem TyL.ins {H : Hp} {b dx : Addr} {fs : List (Str × V)} (h : H b = some (.ins C dx fs)) : TyL X H (.ref b) (.ref C) := fun pins σ s u I r => by
  cases r
  obtain ⟨ox, od, J⟩ := ins_at I h
  exact J.type
/-- o == y, o != y -/
def rEqO (X : Cx) (C : Addr) (sp : Sp) (E : XK) (neg : Bool) : R2 := fun x y H Q => ∃ a dx fs tb, x = .ref a ∧ H a = some (.ins C dx fs) ∧ TyL X H y tb ∧ PySem.W.notFirst X.K C tb = true ∧ sp [.ref a, y] H (fun v H' => ∃ b, v = .bl b ∧ Q (.bl (if neg then !b else b)) H') E
theorem op_eqO (o : Own X.K C "__eq__" f) (F : FnR X.prog X.w X.K X.mg X.base CX k f sp) (hr : Room k X.A) (hx : Passes CX X E) : OpR X (compareOp .Eq) (rEqO X C sp E false) := by
  intro pins s σ H x y u v Q I rx ry h
  obtain ⟨a, dx, fs, tb, rfl, ha, ht, hn, h⟩ := h
  cases rx
  obtain ⟨ox, od, J⟩ := ins_at I ha
  obtain ⟨m, hF⟩ := I.fr
  show wpAny (model X.prog X.w) X.A (richCompare .Eq (.ref a) v) (EP X pins σ Q) X.xe s
  refine PySem.W.cmp_K (op := .Eq) (tb := tb) (by have := hr.un; omega) hF I.ok.mod.kin J (ht _ _ _ _ I ry) hn o.at_ o.fn (wpAny_mono (run_sub F (sub0 hr) hx I (vs := [.ref a, y]) (.cons rfl (.cons ry .nil)) h) (fun v s' q => ?_) fun _ _ z => z)
  obtain ⟨v', H', I', rv, b, rfl, q⟩ := q
  cases rv
  exact ⟨.bl b, H', I', rfl, q⟩
theorem op_neO (o : Own X.K C "__eq__" f) (hne : PySem.W.findIn X.K (.ref C) "__ne__" = some (some (.builtin "object.__ne__"))) (hm : PySem.W.mroIn X.K C (.type "object") = some true) (F : FnR X.prog X.w X.K X.mg X.base CX k f sp) (hr : Room (k + 1) X.A) (hx : Passes CX X E) : OpR X (compareOp .NotEq) (rEqO X C sp E true) := by
  intro pins s σ H x y u v Q I rx ry h
  obtain ⟨a, dx, fs, tb, rfl, ha, ht, hn, h⟩ := h
  cases rx
  obtain ⟨ox, od, J⟩ := ins_at I ha
  show wpAny (model X.prog X.w) X.A (richCompare .NotEq (.ref a) v) (EP X pins σ Q) X.xe s
  refine PySem.TfO.ne_K (tb := tb) (by have := hr.un; omega) I.kIn J (ht _ _ _ _ I ry) hn o.at_ o.fn hne hm (wpAny_mono (run_sub F (sub1 hr) hx I (vs := [.ref a, y]) (.cons rfl (.cons ry .nil)) h) (fun v s' q => ?_) fun _ _ z => z)
  obtain ⟨v', H', I', rv, b, rfl, q⟩ := q
  cases rv
  exact ⟨b, rfl, .bl (!b), H', I', rfl, q⟩
/-- str(o) -/
def rStrO (C : Addr) (sp : Sp) (E : XK) : List V → Hp → VK → Prop := fun xs H Q => ∃ a dx fs, xs = [.ref a] ∧ H a = some (.ins C dx fs) ∧ sp [.ref a] H (fun v H' => ∃ z, v = .str z ∧ Q (.str z) H') E
theorem call_strO (o : Own X.K C "__str__" f) (F : FnR X.prog X.w X.K X.mg X.base CX k f sp) (hr : Room (k + 2) X.A) (hx : Passes CX X E) : CallR X (.type "str") (rStrO C sp E) := by
  intro pins s σ H xs us Q I r h
  obtain ⟨a, dx, fs, rfl, ha, h⟩ := h
  cases r with
  | cons ra rn =>
    cases rn
    cases ra
    obtain ⟨ox, od, J⟩ := ins_at I ha
    refine PySem.W.kso_call (by have := hr.un; show X.A.units + 1 + 1 < _; omega) I.kIn J o.at_ o.fn (wpAny_mono (run_sub F (sub2 hr) hx I (vs := [.ref a]) (.cons rfl .nil) h) (fun v s' q => ?_) fun _ _ z => z)
    obtain ⟨v', H', I', rv, z, rfl, q⟩ := q
    obtain ⟨t, rfl⟩ := rv
    exact ⟨.str z, H', I', ⟨_, rfl⟩, q⟩
end
end L2

/-! C(*xs, k = v): one starred argument and keywords; a def with *v and keyword-only parameters -/
namespace PySem
namespace TfM
open PySem.W PySem.Calls PyProof.Rows
section
variable {M : Model} {A : Around} {E : Value → Shared → Prop} {s : Shared}
theorem lone_kw {f : Value} {x : Sem Value} {pos : Pos} {kws : List (Option Str × Sem Value)} {Q : Args → Shared → Prop} (hall : kws.all (·.1.isSome) = true)
    (h : wpAny M A x (fun v s₁ => wpAny M A (evalAll (kws.map (·.2))) (fun ks s₂ => StarOf M A E v (fun vs s₃ => Q ⟨vs, (kws.filterMap (·.1)).zip ks⟩ s₃) s₂) E s₁) E s) :
    wpAny M A (evalArgs f true [(true, (do let v ← x; standAt pos; pure v))] kws) Q E s := by
  unfold evalArgs
  first
    | refine wpAny_bind (wpAny_bind (wpAny_mono h (fun v s₁ h₁ => wpAny_bind (wpAny_standAt (wpAny_pure ?_))) fun _ _ x => x))
    | refine wpAny_bind (wpAny_bind (wpAny_bind (wpAny_mono h (fun v s₁ h₁ => wpAny_bind (wpAny_standAt (wpAny_pure (wpAny_pure ?_)))) fun _ _ x => x)))
  refine wpAny_holding ?_
  simp only [hall, if_true]
  refine wpAny_bind (wpAny_mono h₁ (fun ks s₂ h₂ => ?_) fun _ _ x => x)
  unfold StarOf at h₂
  refine wpAny_bind (wpAny_bind (wpAny_mono h₂ (fun b s₃ h₃ => ?_) fun _ _ x => x))
  obtain ⟨rfl, h₃⟩ := h₃
  have z := wpAny_holding (vs := ((kws.filterMap (·.1)).zip ks).map (·.2)) (wpAny_mono h₃ (fun vs s₃ h₃ => (wpAny_pure h₃ : wpAny M A (pure (⟨vs, (kws.filterMap (·.1)).zip ks⟩ : Args)) Q E s₃)) fun _ _ x => x)
  try simp only [Bool.false_eq_true, if_false]
  first
    | exact z
    | exact wpAny_bind z
    | exact wpAny_bind (wpAny_pure z)
theorem call_kw {f : Value} {first : List Value} {pos : Pos} {Q : Value → Shared → Prop} {P : Heap → Prop} {args : List (Bool × Sem Value)} {kws : List (Option Str × Sem Value)} (hst : args.any (·.1) = true)
    (hk : ∀ h, P h → ∃ k, (k = Keeper.frame ∨ k = Keeper.machine ∨ k = Keeper.boundFrame) ∧ Looks M h (keeperOf f) k)
    (h : wpAny M A (evalArgs f true args kws) (fun a s₁ => P s₁.heap ∧ wpAny M A (call f (first ++ a.pos) a.kw) Q E s₁) E s) : wpAny M A (callWith pos f first args kws) Q E s := by
  unfold callWith
  refine wpAny_bind (wpAny_holding (wpAny_mono h (fun a s₁ h₁ => wpAny_bind (wpAny_standAt ?_)) fun _ _ x => x))
  obtain ⟨k, hk', L⟩ := hk _ h₁.1
  simp only [hst, Bool.true_or]
  refine wpAny_bind (L.here ?_)
  have tail : ∀ {t : Sem Value}, wpAny M A t Q E s₁ → wpAny M A (t >>= fun r => holding [r] point >>= fun _ => pure r) Q E s₁ :=
    fun ht => wpAny_bind (wpAny_mono ht (fun r s₂ hr => wpAny_bind (wpAny_holding (wpAny_point (wpAny_pure hr)))) fun _ _ x => x)
  have marked (mk : Value) : wpAny M A (callMarked mk f (first ++ a.pos) a.kw) Q E s₁ := by unfold callMarked; exact Calls.wpAny_keep h₁.2
  rcases hk' with rfl | rfl | rfl <;> dsimp only <;> first | exact tail (marked _) | exact tail (wpAny_operateT h₁.2) | exact tail (wpAny_operating h₁.2)
end
end TfM
end PySem
namespace L2
open PySem PySem.Spec PyProof.Rows
/-- the promise of a def called with values vs and keywords ks = zs -/
abbrev SpK := List V → List V → Hp → VK → XK → Prop
def FnA (P : Program) (w : World) (K : PySem.W.Frag) (mg : Str → Option Value) (base : Heap) (CX : CXT) (k : Nat) (f : Addr) (ks : List Str) (sp : SpK) : Prop :=
  ∀ (A : Around) (outer : List Env) (s : Shared) (H : Hp) (us ws : List Value) (vs zs : List V) (Q : VK) (E : XK), Room k A → Env0 P w K mg base A outer s H → Vals vs us → Vals zs ws → sp vs zs H Q E →
    codeAny (model P w) A (.call (.ref f) ⟨us, ks.zip ws⟩) (CR CX outer P w H s Q E) s
section
variable {CX : CXT} {P : Program} {w : World} {K : PySem.W.Frag} {mg : Str → Option Value} {base : Heap} {k : Nat} {f : Addr} {name qual : Str} {params : Arguments} {body : List Stmt} {scope : Scope} {dV kV doc pm cdv ct oc : Value} {an od : Option Addr}
  {osl : Array (Option Value)} {N : List Str} {sp : Sp}
/-- def f(a, *v, k): the values of a, k, then a new tuple of the rest -/
theorem fn_starK {pa pk pv : Str} (lk : K.lookup f = some ⟨oc, od, .func (PySem.W.fnOf name qual params body scope dV kV doc pm an cdv ct), osl⟩) (hcd : PySem.W.codeIn K cdv qual = true) (S : FnScope N [pa, pk, pv] scope) (hCX : StX.CXUp CX)
    (hb : ∀ (a : Value) (rest : List Value) (b : Value), bindArgs (PySem.W.fnOf name qual params body scope dV kV doc pm an cdv ct) ⟨a :: rest, [(pk, b)]⟩ = (newTuple rest >>= fun t => pure [(pa, a), (pk, b), (pv, t)]))
    (hbody : ∀ (A : Around) (outer : List Env) (s : Shared) (H : Hp) (vs : List V) (Q : VK) (E : XK), Room k (A.deeper (envOfC qual scope s.heap.objs.size f cdv)) → sp vs H Q E →
      ∃ t, PSs (cxOf CX P w K mg base N qual scope f cdv A outer s H E) body t ∧ t { nx := fun _ H' => Q .non H', rt := Q } (start N vs) H) :
    FnA P w K mg base CX (k + 1) f [pk] (fun vs zs H Q E => ∃ a rest b, vs = a :: rest ∧ zs = [b] ∧ rest.length ≤ sizeLine ∧ ∀ p, H p = Option.none → sp [a, b, V.ref p] (upd H p (.tup rest)) Q E) := by
  intro A outer s H us ws vs zs Q E hr e0 r rz hsp
  obtain ⟨a, rest, b, rfl, rfl, hz, hq⟩ := hsp
  cases r with
  | cons ra r2 =>
  cases rz with
  | cons rb rn =>
  cases rn
  rename_i ua u2 ub
  have hn : H s.heap.objs.size = Option.none := e0.hok.fresh (Nat.le_refl _)
  have hl2 : u2.length ≤ sizeLine := by rw [← r2.length]; exact hz
  refine StX.run_bnd lk hcd S hr e0 (G := fun xs H2 => ∃ p, H p = Option.none ∧ xs = [a, b, V.ref p] ∧ H2 = upd H p (.tup rest)) (fun A' Ex Q' h => ?_) fun s2 H2 xs ⟨p, hp, ex, eH⟩ hr' => ?_
  · show wpAny _ _ (bindArgs _ ⟨ua :: u2, [(pk, ub)]⟩) _ _ _
    rw [hb ua u2 ub]
    refine wpAny_bind (wpAny_newTuple (wpAny_pure ?_) hl2)
    have new : ObjOk P w (upd H s.heap.objs.size (.tup rest)) (s.heap.push ({ cls := .type "tuple", data := .seq u2.toArray } : Obj)) s.heap.objs.size (.tup rest) := ⟨hz, u2, r2, ⟨_, Heap.get?_push_size _ rfl, rfl, _, rfl⟩⟩
    have un := StX.un_laid (fs := frs outer) (s := s) (o := ({ cls := .type "tuple", data := .seq u2.toArray } : Obj)) (u := .tup rest) hn
    exact h _ _ [a, b, V.ref s.heap.objs.size] [ua, ub, Value.ref s.heap.objs.size] (StX.env0_laid e0 new) un rfl (fun e s' => hCX outer s H _ _ E e s' un (fun b o q => Heap.get?_push_of_some _ q) rfl) (.cons ra (.cons rb (.cons rfl .nil))) rfl ⟨_, hn, rfl, rfl⟩
  · subst ex eH
    exact hbody A outer s2 _ _ Q E hr' (hq p hp)
end
/-- C(*e, k = v): a new instance and its dict, then __init__ -/
def tMakeSK (K : PySem.W.Frag) (C : Addr) (sp : SpK) (E : XK) (tf te : TE) (tk : TA) : TE := fun σ H Q => tf σ H fun c H0 => c = .ref C ∧ te σ H0 fun y H1 => tk σ H1 fun zs H2 => ∃ a xs, y = V.ref a ∧ (SqT K H2 a xs ∨ SqL K H2 a xs) ∧ zs.length = 1 ∧ ∀ x dx, H2 x = none → H2 dx = none → dx ≠ x →
  sp (.ref x :: xs) zs (upd (upd H2 dx (.own x)) x (.ins C dx [])) (fun v H3 => v = .non ∧ Q (.ref x) H3) E
/-- C(e, .., k = v) -/
def tMakeAK (C : Addr) (sp : SpK) (E : XK) (t : TA) (tk : TA) : TE := fun σ H Q => t σ H fun xs H1 => tk σ H1 fun zs H2 => zs.length = 1 ∧ ∀ x dx, H2 x = none → H2 dx = none → dx ≠ x →
  sp (.ref x :: xs) zs (upd (upd H2 dx (.own x)) x (.ins C dx [])) (fun v H3 => v = .non ∧ Q (.ref x) H3) E
section
variable {X : Cx} {CX : CXT} {k : Nat} {f C : Addr} {ks : List Str} {sp : SpK} {E : XK} {x : Str} {p sp_ pos : Pos} {e fe : Expr} {es : List Expr} {kws : List Keyword} {t tk : TA} {te tf : TE}
theorem run_makeA {pins : List (Addr × Obj)} {σ : St} {H : Hp} {s : Shared} {Q : VK} {us ws : List Value} {vs zs : List V} (M : Mk X.K C f) (F : FnA X.prog X.w X.K X.mg X.base CX k f ks sp) (hr : Room (k + 1) X.A) (hx : Passes CX X E)
    (I : Inv X pins σ H s) (r : Vals vs us) (rz : Vals zs ws)
    (h : ∀ x dx, H x = none → H dx = none → dx ≠ x → sp (.ref x :: vs) zs (upd (upd H dx (.own x)) x (.ins C dx [])) (fun v H2 => v = .non ∧ Q (.ref x) H2) E) :
    wpAny (model X.prog X.w) X.A (call (.ref C) us (ks.zip ws)) (EP X pins σ Q) X.xe s := by
  have hq := h (s.heap.objs.size + 1) s.heap.objs.size (I.hok.fresh (Nat.le_succ _)) (I.hok.fresh (Nat.le_refl _)) (Nat.ne_of_lt (Nat.lt_succ_self _))
  have I2 := Inv.made (C := C) I
  have r1 : Vals (V.ref (s.heap.objs.size + 1) :: vs) (Value.ref (s.heap.objs.size + 1) :: us) := .cons rfl r
  refine wpAny_call (make_map (f := f) I.kIn M.makes M.init (beq_iff_eq.mp M.fn) (codeAny_mono (F _ X.stack _ _ (Value.ref (s.heap.objs.size + 1) :: us) ws _ _ _ E (hr.make C us (ks.zip ws))
    (I2.env0.make C us (ks.zip ws)) r1 rz hq) fun r s' hq' => ?_))
  cases r with
  | error e => exact hx pins σ _ _ e s' I2 hq'
  | ok fl =>
    cases fl with
    | ret u =>
      obtain ⟨v, H', I3, rv, ev, q3⟩ := I2.after hq'
      subst ev
      exact ⟨rv, ⟨V.ref (s.heap.objs.size + 1), H', I3, rfl, q3⟩⟩
    | next => exact False.elim hq'
    | brk => exact False.elim hq'
    | cont => exact False.elim hq'
theorem pe_makeSK (M : Mk X.K C f) (F : FnA X.prog X.w X.K X.mg X.base CX k f ks sp) (hr : Room (k + 1) X.A) (hx : Passes CX X E) (hf : PE X fe tf) (he : PE X e te) (hkw : PK X kws tk)
    (ht : eval (.Call fe [.Starred e sp_] kws pos) X.env = (do callWith pos (← eval fe X.env) [] (backTo pos (starEach [.Starred e sp_] X.env)) (backToKw pos (keywordEach kws X.env))) := by rfl)
    (hall : (backToKw pos (keywordEach kws X.env)).all (·.1.isSome) = true := by rfl) (hks : (backToKw pos (keywordEach kws X.env)).filterMap (·.1) = ks := by rfl)
    (hst : starEach [.Starred e sp_] X.env = [(true, eval e X.env)] := by rfl) :
    PE X (.Call fe [.Starred e sp_] kws pos) (tMakeSK X.K C sp E tf te tk) := by
  refine ⟨fun pins s σ H Q I h => ?_⟩
  rw [ht]
  refine wpAny_bind (thn (hf.run pins s σ H _ I h) fun u s0 ⟨y0, H0, I0, ry, ey0, q0⟩ => ?_)
  subst ey0
  obtain rfl : u = Value.ref C := ry
  rw [hst]
  refine PySem.TfM.call_kw (P := fun h => X.K.In h) rfl (PySem.W.keeps_K M.kp) (PySem.TfM.lone_kw hall ?_)
  refine thn (he.run pins s0 σ H0 _ I0 q0) fun v s1 ⟨y, H1, I1, rv, q1⟩ => ?_
  refine thn (hkw.run pos pins s1 σ H1 _ I1 q1) fun ws s2 ⟨zs, H2, I2, rz, a, xs, ey, hxs, hl, q2⟩ => ?_
  subst ey
  obtain rfl : v = Value.ref a := rv
  refine StX.star_any I2 hxs fun us s3 I3 r => ⟨I3.kIn, ?_⟩
  show wpAny _ _ (call (.ref C) us _) _ _ _
  rw [hks]
  exact run_makeA M F hr hx I3 r rz q2
theorem pe_makeAK (M : Mk X.K C f) (F : FnA X.prog X.w X.K X.mg X.base CX k f ks sp) (hr : Room (k + 1) X.A) (hg : Gl X x) (hm : X.mg x = some (.ref C)) (hx : Passes CX X E) (ha : PA X (e :: es) t) (hkw : PK X kws tk)
    (hall : (backToKw pos (keywordEach kws X.env)).all (·.1.isSome) = true := by rfl) (hks : (backToKw pos (keywordEach kws X.env)).filterMap (·.1) = ks := by rfl) (hdb : (x == ("__debug__" : Str)) = false := by decide)
    (he : starEach (e :: es) X.env = (false, eval e X.env) :: starEach es X.env := by rfl) (hpl : ((backTo pos (starEach (e :: es) X.env)).any (·.1) || (backToKw pos (keywordEach kws X.env)).any (·.1.isNone)) = false := by rfl) :
    PE X (.Call (.Name x p) (e :: es) kws pos) (tMakeAK C sp E t tk) := by
  refine ⟨fun pins s σ H Q I h => ?_⟩
  refine wpAny_Call_Name_kw (ld_glob I hg hm ?_ hdb)
  refine PySem.W.callWith_KW (h₀ := X.base) I.ok.mod.kin M.kp hall (thn (ha.run pos pins s σ H _ I h) fun us s1 ⟨vs, H1, I1, r, q⟩ => ?_) hpl he
  refine thn (hkw.run pos pins s1 σ H1 _ I1 q) fun ws s2 ⟨zs, H2, I2, rz, l1, q2⟩ => ⟨I2.kIn, ?_⟩
  rw [hks]
  exact run_makeA M F hr hx I2 r rz q2
end
end L2

/-! small rules and words -/
namespace L2
open PySem PySem.Spec PyProof.Rows
section
variable {X : Cx}
theorem call_repr_bl : CallR X (.builtin "repr") (fun xs H Q => ∃ b, xs = [.bl b] ∧ Q (.str (if b then "True" else "False")) H) := by
  intro pins s σ H xs us Q I r h
  obtain ⟨b, rfl, q⟩ := h
  cases r with
  | cons rb rn =>
    cases rn
    cases rb
    exact PySem.P.repr_of_bool ⟨.str _, H, I.tok _, ⟨_, rfl⟩, q⟩
theorem op_powW : OpR X (binaryOp .Pow) (rI (fun i j => 0 ≤ j ∧ (Builtin.Int.intBits i : Int) * j ≤ 2 ^ 27) fun i j => .int (i ^ j.toNat)) := opI fun _ _ _ _ _ _ _ hc q => pow_int hc.1 hc.2 q
end
/-- all but what stands at d stays -/
def Nr (d : Addr) (H H' : Hp) : Prop := ∀ b o, b ≠ d → H b = some o → H' b = some o
theorem Nr.refl (d : Addr) (H : Hp) : Nr d H H := fun _ _ _ h => h
theorem Nr.trans {d : Addr} {H H1 H2 : Hp} (a : Nr d H H1) (b : Nr d H1 H2) : Nr d H H2 := fun c o n h => b c o n (a c o n h)
theorem Same.nr {d : Addr} {H H' : Hp} (a : Same H H') : Nr d H H' := fun c o _ h => a c o h
theorem Nr.upd {d : Addr} {H : Hp} {o : HO} : Nr d H (upd H d o) := fun b u n h => by rw [upd_ne n]; exact h
theorem same_new {H : Hp} {p : Addr} {o : HO} (h : H p = none) : Same H (upd H p o) := fun b u e => by
  rw [upd_ne (ne_of_none e h)]
  exact e
theorem Same.new {H H1 : Hp} {p : Addr} {o : HO} (s : Same H H1) (h : H1 p = none) : Same H (upd H1 p o) := s.trans (same_new h)
/-- a new object may change -/
theorem Same.mut {H H1 : Hp} {p : Addr} {o : HO} (s : Same H H1) (h : H p = none) : Same H (L2.upd H1 p o) := fun b u e => by
  rw [upd_ne (ne_of_none e h)]
  exact s b u e
theorem Same.tup {K : PySem.W.Frag} {H H' : Hp} {a : Addr} {xs : List V} (e : Same H H') (h : SqT K H a xs) : SqT K H' a xs := by
  rcases h with (h | ⟨o, h⟩) | h
  · exact .inl (.inl (e _ _ h))
  · exact .inl (.inr ⟨o, e _ _ h⟩)
  · exact .inr h
/-- the dice: three numbers, the first one not below nought -/
def Dice (H : Hp) (d : Addr) : Prop := ∃ a b c : Int, 0 ≤ a ∧ H d = some (.lst [.int a, .int b, .int c])
theorem Dice.same {H H' : Hp} {d : Addr} (x : Dice H d) (s : Same H H') : Dice H' d := by
  obtain ⟨a, b, c, h, e⟩ := x
  exact ⟨a, b, c, h, s _ _ e⟩
theorem lst_of {K : PySem.W.Frag} {H : Hp} {a : Addr} {xs : List V} (h : H a = some (.lst xs)) : SqL K H a xs := .inl (.inl h)
theorem tup_of {K : PySem.W.Frag} {H : Hp} {a : Addr} {xs : List V} (h : H a = some (.tup xs)) : SqT K H a xs := .inl (.inl h)
end L2

/-! texts that are names; lists of texts as data -/
namespace L2
open PySem PySem.Spec PyProof.Rows
def signs : Str := "abcdefghijklmnopqrstuvwxyz"
/-- a name: one to eight letters a to z -/
def nameB (z : Str) : Bool := (decide (1 ≤ z.length) && decide (z.length ≤ 8)) && z.cps.toList.all fun c => decide (c ∈ signs.cps.toList)
theorem nameB_len {z : Str} (h : nameB z = true) : 1 ≤ z.length ∧ z.length ≤ 8 := by
  unfold nameB at h
  rw [Bool.and_eq_true, Bool.and_eq_true] at h
  exact ⟨of_decide_eq_true h.1.1, of_decide_eq_true h.1.2⟩
theorem signs_ok : (signs.cps.toList.all fun c => decide (c < 128)) = true := by decide +kernel
theorem nameB_code {z : Str} (h : nameB z = true) {c : Nat} (hc : c ∈ z.cps.toList) : c < 128 := by
  unfold nameB at h
  rw [Bool.and_eq_true] at h
  have h2 := List.all_eq_true.mp h.2 c hc
  exact of_decide_eq_true (List.all_eq_true.mp signs_ok c (of_decide_eq_true h2))
theorem nameB_ok {z : Str} (h : nameB z = true) : PyData.strOk z = true := by
  unfold PyData.strOk
  rw [Array.all_eq_true']
  intro c hc
  have h1 := nameB_code h (Array.mem_def.mp hc)
  exact decide_eq_true (Nat.lt_trans h1 (by decide))
abbrev dS (zs : List Str) : List PyData := zs.map PyData.str
theorem dpAll_strs {K : PySem.W.Frag} {H : Hp} : ∀ zs : List Str, DpAll K H (zs.map V.str) (dS zs)
  | [] => .nil
  | z :: zs => .cons (.str z) (dpAll_strs zs)
theorem dp_list {K : PySem.W.Frag} {H : Hp} {a : Addr} {zs : List Str} (h : SqL K H a (zs.map V.str)) : Dp K H (.ref a) (.list (dS zs)) := .lst h (dpAll_strs zs)
theorem dp_tuple {K : PySem.W.Frag} {H : Hp} {a : Addr} {zs : List Str} (h : SqT K H a (zs.map V.str)) : Dp K H (.ref a) (.tuple (dS zs)) := .tup h (dpAll_strs zs)
theorem lay_strs : ∀ {zs : List Str}, (∀ z ∈ zs, nameB z = true) → PyData.canLayAll0 (dS zs) = true
  | [], _ => by simp [PyData.canLayAll0, dS]
  | z :: zs, h => by
    have h1 := lay_strs (zs := zs) fun y hy => h y (List.mem_cons_of_mem _ hy)
    have h2 := nameB_ok (h z List.mem_cons_self)
    show PyData.canLayAll0 (PyData.str z :: dS zs) = true
    simp only [PyData.canLayAll0, PyData.canLay0, h1, h2, Bool.and_self]
theorem depth_strs : ∀ zs : List Str, PyData.depthAll (dS zs) = 0
  | [] => by simp [PyData.depthAll, dS]
  | z :: zs => by
    show PyData.depthAll (PyData.str z :: dS zs) = 0
    simp only [PyData.depthAll, PyData.depth, depth_strs zs]
    rfl
theorem shaped_list {zs : List Str} (h : ∀ z ∈ zs, nameB z = true) : SeqAt.shaped (.list (dS zs)) = true := by
  show (PyData.canLay0 (.list (dS zs)) && decide (PyData.depth (.list (dS zs)) ≤ 64)) = true
  rw [Bool.and_eq_true]
  refine ⟨by simp only [PyData.canLay0]; exact lay_strs h, decide_eq_true ?_⟩
  simp only [PyData.depth, depth_strs]
  decide
theorem shaped_tuple {zs : List Str} (h : ∀ z ∈ zs, nameB z = true) : SeqAt.shaped (.tuple (dS zs)) = true := by
  show (PyData.canLay0 (.tuple (dS zs)) && decide (PyData.depth (.tuple (dS zs)) ≤ 64)) = true
  rw [Bool.and_eq_true]
  refine ⟨by simp only [PyData.canLay0]; exact lay_strs h, decide_eq_true ?_⟩
  simp only [PyData.depth, depth_strs]
  decide
theorem eqvAll_strs : ∀ xs ys : List Str, PyData.eqvAll (dS xs) (dS ys) = decide (xs = ys)
  | [], [] => by simp [PyData.eqvAll, dS]
  | [], y :: ys => by simp [PyData.eqvAll, dS]
  | x :: xs, [] => by simp [PyData.eqvAll, dS]
  | x :: xs, y :: ys => by
    have ih := eqvAll_strs xs ys
    show PyData.eqvAll (PyData.str x :: dS xs) (PyData.str y :: dS ys) = _
    simp only [PyData.eqvAll, PyData.eqv, ih]
    by_cases h : x = y
    · subst h
      simp
    · have h1 : (x == y) = false := by simpa using h
      have h2 : ¬ (x :: xs = y :: ys) := fun z => h (List.cons.inj z).1
      rw [h1, decide_eq_false h2]
      rfl
theorem eqv_lists (xs ys : List Str) : PyData.eqv (.list (dS xs)) (.list (dS ys)) = decide (xs = ys) := by
  simp only [PyData.eqv]
  exact eqvAll_strs xs ys
theorem eqv_tuples (xs ys : List Str) : PyData.eqv (.tuple (dS xs)) (.tuple (dS ys)) = decide (xs = ys) := by
  simp only [PyData.eqv]
  exact eqvAll_strs xs ys
end L2

/-! comprehensions whose element and test only make objects -/
namespace L2
open PySem PySem.Spec PyProof.Rows
/-- the test answers b, the expression gives v; what was tracked stays -/
def TTo (tt : TT) (σ : St) (H : Hp) (b : Bool) : Prop := ∀ Q : Bool → Hp → Prop, (∀ H', Same H H' → Q b H') → tt σ H Q
def TEo (te : TE) (σ : St) (H : Hp) (v : V) : Prop := ∀ Q : VK, (∀ H', Same H H' → Q v H') → te σ H Q
theorem tto_yes {σ : St} {H : Hp} : TTo tYes σ H true := fun _ q => q H (Same.refl H)
theorem lc_on {α : Type} {J : It} {n : Nat} {G : Hp → Prop} {xs : List α} {h : α → V} (w : Walk J n G (YAt (xs.map h))) (hn : n = xs.length) {tt : TT} {te : TE} {i : Nat} {σ : St} {H1 : Hp} {D : Addr} {Qd : Hp → Prop} (keep : α → Bool) (F : α → V) (nD : H1 D = none)
    (hG : ∀ H, Same H1 H → G H) (hlen : xs.length < 100000)
    (ht : ∀ a ∈ xs, ∀ H, Same H1 H → TTo tt ((wipe σ [i]).set i (some (h a))) H (keep a))
    (he : ∀ a ∈ xs, keep a = true → ∀ H, Same H1 H → TEo te ((wipe σ [i]).set i (some (h a))) H (F a))
    (hd : ∀ H, Same H1 H → H D = some (.lst ((xs.filter keep).map F)) → Qd H) :
    ∃ W : Nat → Nat → Hp → Prop, (∃ m, W 0 m (upd H1 D (.lst []))) ∧ ∀ j m H, W j m H →
      (J.stop j H ∧ Qd H) ∨ (J.go j H ∧ ∃ Nx : Hp → Prop, (∀ H', Nx H' → ∃ m', m' < m ∧ W (j + 1) m' H') ∧ ∀ x H', J.yld j H x H' → gName i x (wipe σ [i]) H' fun σ2 H2 => wipe σ2 [i] = wipe σ [i] ∧ tt σ2 H2 fun b H3 =>
        if b = true then te σ2 H3 fun y H4 => ∃ acc, H4 D = some (.lst acc) ∧ acc.length < sizeLine ∧ Nx (upd H4 D (.lst (acc ++ [y]))) else Nx H3) := by
  subst hn
  refine lc_it w (fun j H => Same H1 H ∧ H D = some (.lst (((xs.take j).filter keep).map F))) ⟨same_new nD, by rw [upd_same]; rfl⟩ (fun j H _ p => hG H p.1) (fun j x H H' hj p y => ?_) fun H p => hd H p.1 (by rw [p.2, List.take_length])
  obtain ⟨s, eD⟩ := p
  obtain ⟨rfl, ex⟩ := y
  rw [List.getElem?_map, List.getElem?_eq_getElem hj] at ex
  have ex' : h xs[j] = x := Option.some.inj ex
  subst ex'
  have mem : xs[j] ∈ xs := List.getElem_mem hj
  have tk : xs.take (j + 1) = xs.take j ++ [xs[j]] := by rw [List.take_add_one, List.getElem?_eq_getElem hj]; rfl
  refine ⟨?_, ht _ mem H' s _ fun H3 s3 => ?_⟩
  · simp [wipe]
  · cases hk : keep xs[j] with
    | false =>
      refine iteF ⟨s.trans s3, ?_⟩
      rw [s3 _ _ eD, tk, List.filter_append, List.filter_cons_of_neg (by rw [hk]; exact Bool.false_ne_true), List.filter_nil, List.append_nil]
    | true =>
      refine iteT (he _ mem hk H3 (s.trans s3) _ fun H4 s4 => ⟨_, s4 _ _ (s3 _ _ eD), ?_, ?_, ?_⟩)
      · have l1 := List.length_filter_le keep (xs.take j)
        rw [List.length_map]
        rw [List.length_take] at l1
        exact Nat.lt_of_le_of_lt (show _ ≤ 100000 by omega) (by decide)
      · exact (s.trans (s3.trans s4)).mut nD
      · rw [upd_same, tk, List.filter_append, List.filter_cons_of_pos hk, List.filter_nil, List.map_append]
        rfl
theorem walk_txt {z : Str} : Walk (Its z) z.cps.toList.length (fun _ => True) (YAt (z.cps.toList.map fun c => V.str ⟨#[c]⟩)) := by
  refine ⟨fun i H hi _ => ?_, fun H _ => ?_, fun i H x H' hi _ y => ?_⟩
  · rw [Array.length_toList] at hi
    exact hi
  · show z.cps.size ≤ z.cps.toList.length
    rw [Array.length_toList]
    exact Nat.le_refl _
  · obtain ⟨e, c, hc, ex⟩ := y
    refine ⟨e, ?_⟩
    rw [List.getElem?_map, Array.getElem?_toList, hc, ex]
    rfl
theorem fil_true {α : Type} (xs : List α) : xs.filter (fun _ => true) = xs := List.filter_eq_self.mpr fun _ _ => rfl
/-- without a test -/
theorem lc_map {α : Type} {J : It} {n : Nat} {G : Hp → Prop} {xs : List α} {h : α → V} (w : Walk J n G (YAt (xs.map h))) (hn : n = xs.length) {te : TE} {i : Nat} {σ : St} {H1 : Hp} {D : Addr} {Qd : Hp → Prop} (F : α → V) (nD : H1 D = none)
    (hG : ∀ H, Same H1 H → G H) (hlen : xs.length < 100000)
    (he : ∀ a ∈ xs, ∀ H, Same H1 H → TEo te ((wipe σ [i]).set i (some (h a))) H (F a))
    (hd : ∀ H, Same H1 H → H D = some (.lst (xs.map F)) → Qd H) :
    ∃ W : Nat → Nat → Hp → Prop, (∃ m, W 0 m (upd H1 D (.lst []))) ∧ ∀ j m H, W j m H →
      (J.stop j H ∧ Qd H) ∨ (J.go j H ∧ ∃ Nx : Hp → Prop, (∀ H', Nx H' → ∃ m', m' < m ∧ W (j + 1) m' H') ∧ ∀ x H', J.yld j H x H' → gName i x (wipe σ [i]) H' fun σ2 H2 => wipe σ2 [i] = wipe σ [i] ∧ tYes σ2 H2 fun b H3 =>
        if b = true then te σ2 H3 fun y H4 => ∃ acc, H4 D = some (.lst acc) ∧ acc.length < sizeLine ∧ Nx (upd H4 D (.lst (acc ++ [y]))) else Nx H3) :=
  lc_on w hn (fun _ => true) F nD hG hlen (fun _ _ _ _ => tto_yes) (fun a ha _ H s => he a ha H s) fun H s e => hd H s (by rw [e, fil_true])
end L2

/-! the ways of a statement meet again; slices of texts -/
namespace L2
open PySem PySem.Spec PyProof.Rows
theorem ps_mid {X : Cx} {st : Stmt} {t : TS} (h : PS X st t) : PS X st (fun D σ H => ∃ J : L2.St → Hp → Prop, t { D with nx := J } σ H ∧ ∀ σ' H', J σ' H' → D.nx σ' H') := by
  refine ⟨fun pins s σ H D I ⟨J, h1, h2⟩ => thn (h.run pins s σ H { D with nx := J } I h1) fun f s1 q => ?_⟩
  cases f with
  | next =>
    obtain ⟨σ', H', I', q⟩ := q
    exact ⟨σ', H', I', h2 _ _ q⟩
  | _ => exact q
theorem cut_txt (zs : List Str) (lo hi : Option Int) : ∃ ys : List Str, cutV (zs.map V.str) lo hi = ys.map V.str ∧ (∀ y ∈ ys, y ∈ zs) ∧ ys.length ≤ zs.length := by
  unfold cutV
  refine ⟨(zs.drop (HT.sIx (zs.map V.str).length 0 lo)).take (HT.sIx (zs.map V.str).length (zs.map V.str).length hi - HT.sIx (zs.map V.str).length 0 lo), by rw [List.map_take, List.map_drop], fun y hy => List.mem_of_mem_drop (List.mem_of_mem_take hy), ?_⟩
  rw [List.length_take, List.length_drop]
  omega
theorem cut_tail (xs : List V) : cutV xs (some 1) none = xs.drop 1 := by
  unfold cutV
  have e : HT.sIx xs.length 0 (some 1) = min 1 xs.length := HT.sIx_nat xs.length 0 1
  rw [e, HT.sIx_none]
  cases xs with
  | nil => rfl
  | cons x xs =>
    have e1 : min 1 (x :: xs).length = 1 := by rw [List.length_cons]; omega
    rw [e1]
    refine List.take_of_length_le ?_
    rw [List.length_drop]
    exact Nat.le_refl _
theorem Same.sql {K : PySem.W.Frag} {H H' : Hp} {a : Addr} {xs : List V} (e : Same H H') (h : SqL K H a xs) : SqL K H' a xs := by
  rcases h with (h | ⟨o, h⟩) | h
  · exact .inl (.inl (e _ _ h))
  · exact .inl (.inr ⟨o, e _ _ h⟩)
  · exact .inr h
/-- a list of names != [] -/
theorem ne_nil {K : PySem.W.Frag} {H : Hp} {p : Addr} {zs : List Str} {R : VK} (hp : SqL K H p (zs.map V.str)) (nz : ∀ z ∈ zs, nameB z = true) (h : ∀ H', Same H H' → R (.bl (!decide (zs = []))) H') :
    0 ≤ sizeLine ∧ ∀ t, H t = none → rNeD K (.ref p) (.ref t) (upd H t (.lst [])) R := by
  refine ⟨Nat.zero_le _, fun t nt => ⟨.list (dS zs), .list (dS []), dp_list ((same_new nt).sql hp), dp_list (zs := []) (lst_of upd_same), shaped_list nz, shaped_list (zs := []) (by intro z hz; cases hz), ?_⟩⟩
  rw [eqv_lists]
  exact h _ (same_new nt)
theorem eq_nil {K : PySem.W.Frag} {H : Hp} {p : Addr} {zs : List Str} {R : VK} (hp : SqL K H p (zs.map V.str)) (nz : ∀ z ∈ zs, nameB z = true) (h : ∀ H', Same H H' → R (.bl (decide (zs = []))) H') :
    0 ≤ sizeLine ∧ ∀ t, H t = none → rEqD K (.ref p) (.ref t) (upd H t (.lst [])) R := by
  refine ⟨Nat.zero_le _, fun t nt => ⟨.list (dS zs), .list (dS []), dp_list ((same_new nt).sql hp), dp_list (zs := []) (lst_of upd_same), shaped_list nz, shaped_list (zs := []) (by intro z hz; cases hz), ?_⟩⟩
  rw [eqv_lists]
  exact h _ (same_new nt)
end L2

/-! own binary operators, o.m() by a raw promise, a statement that is not reached -/
namespace L2
open PySem PySem.Spec PyProof.Rows
section
variable {X : Cx} {CX : CXT} {k : Nat} {f C : Addr} {sp : Sp} {E : XK}
/-- a | b, a & b of two instances of one class -/
def rBinO (C : Addr) (sp : Sp) (E : XK) : R2 := fun x y H Q => ∃ a dx fs b dy fy, x = .ref a ∧ y = .ref b ∧ H a = some (.ins C dx fs) ∧ H b = some (.ins C dy fy) ∧ sp [.ref a, .ref b] H (fun v H' => ∃ z, v = .ref z ∧ Q (.ref z) H') E
theorem op_binO {op : Operator} (hs : PySem.W.findIn X.K (.ref C) (PySem.dunder op.info.2) = some (some (.ref f))) (hf : PySem.W.isFn X.K (.ref f) = true) (hc : PySem.W.selfFirst X.K C = true) (F : FnR X.prog X.w X.K X.mg X.base CX k f sp) (hr : Room k X.A) (hx : Passes CX X E) : OpR X (binaryOp op) (rBinO C sp E) := by
  intro pins s σ H x y u v Q I rx ry h
  obtain ⟨a, dx, fs, b, dy, fy, rfl, rfl, ha, hb, h⟩ := h
  cases rx
  cases ry
  obtain ⟨ox, od, J⟩ := ins_at I ha
  obtain ⟨oy, od', J'⟩ := ins_at I hb
  obtain ⟨m, hF⟩ := I.fr
  refine PySem.W.binop_K hF I.ok.mod.kin J J'.type hc hs hf (wpAny_mono (run_sub F (sub0 hr) hx I (vs := [.ref a, .ref b]) (.cons rfl (.cons rfl .nil)) h) (fun v s' q => ?_) fun _ _ z => z)
  obtain ⟨v', H', I', rv, z, rfl, q⟩ := q
  cases rv
  exact ⟨.ref z, H', I', rfl, q⟩
theorem pe_methR0 {m : Str} {o : Expr} {ta : TE} {apos pos : Pos} {pl : Sem Bool} (he : PE X o ta) (c : Cls X.K C) (hm : Meth X.K C m f)
    (F : FnR X.prog X.w X.K X.mg X.base CX k f sp) (hr : Room k X.A) (hx : Passes CX X E)
    (ht : eval (.Call (.Attribute o m apos) [] [] pos) X.env = (do
      let ov ← eval o X.env
      standAt apos.atName
      let (f, first) ← holding [ov] (getMethod ov m pl)
      callWith pos f first (backTo pos (starEach [] X.env)) (backToKw pos (keywordEach [] X.env))) := by rfl) :
    PE X (.Call (.Attribute o m apos) [] [] pos) (tMethR C m sp E ta tNil) := by
  refine ⟨fun pins s σ H Q I h => ?_⟩
  refine PySem.W.methodCall_KW (pl := pl) (thn (he.run pins s σ H _ I h) fun u s1 ⟨x, H1, I1, rx, a, dx, fs, ex, ea, l, q⟩ => ?_) ht
  subst ex
  obtain rfl : u = Value.ref a := rx
  refine getmeth_ok I1 ea c hm l ?_
  exact PySem.W.callWith_K0 (first := [.ref a]) I1.kIn hm.kp (wpAny_call (run_fnR (us := [.ref a]) (vs := [.ref a]) F hr hx I1 (.cons rfl .nil) q))
theorem ps_off {st : Stmt} : PS X st (fun _ _ _ => False) := ⟨fun _ _ _ _ _ _ h => h.elim⟩
end
end L2

/-! x in a tuple of texts, whatever x is -/
namespace PySem
namespace TfI
open SeqAt MeetsSeq
section
variable {A : Around} {s : Shared}
theorem str_eq_dict (b : Str) (u : Tok) (l : Addr) (o : Obj) (es : Array DictEntry) (ep : Nat) (hc : o.cls = .type "dict") (hd : o.data = .dict es ep) :
    Meets (Builtin.«str.__eq__» ⟨[.str b u, .ref l], []⟩) (fun _ R s => s.heap.get? l = some o ∧ R (.ok (.ret .notImplemented)) s) :=
  .of_wp fun prog w A R s h => by
    obtain ⟨hp, g, d, tk, os⟩ := s
    obtain ⟨hl, h⟩ := h
    obtain ⟨oc, od, dt, sl⟩ := o
    simp only at hc hd
    subst hc
    subst hd
    have hsd := F.sub_str_dict
    wp_walk using wpAny_loadPart' hl, wpAny_load hl
    exact ⟨_, rfl, h⟩
theorem dict_eq_str (b : Str) (u : Tok) (l : Addr) (o : Obj) (es : Array DictEntry) (ep : Nat) (hc : o.cls = .type "dict") (hd : o.data = .dict es ep) :
    Meets (Builtin.«dict.__eq__» ⟨[.ref l, .str b u], []⟩) (fun _ R s => s.heap.get? l = some o ∧ R (.ok (.ret .notImplemented)) s) :=
  .of_wp fun prog w A R s h => by
    obtain ⟨hp, g, d, tk, os⟩ := s
    obtain ⟨hl, h⟩ := h
    obtain ⟨oc, od, dt, sl⟩ := o
    simp only at hc hd
    subst hc
    subst hd
    have hsd := F.sub_str_dict
    wp_walk using wpAny_loadPart' hl, wpAny_load hl
    exact ⟨_, rfl, h⟩
theorem eq_str_dict {l : Addr} {o : Obj} (b : Str) (u : Tok) {es : Array DictEntry} {ep : Nat} (ho : s.heap.get? l = some o) (hc : o.cls = .type "dict") (hd : o.data = .dict es ep) (hu : A.units < cLine) : EqAt A s (.str b u) (.ref l) false := fun prog w E Q h => by
  unfold eqBool
  refine wpAny_holding ?_
  refine wpAny_ite_split (fun hab => absurd (eq_of_beq hab) nofun) (fun _ => ?_)
  refine wpAny_bind ?_
  exact rc_eq_decline_or (k := false) (typeIs_str s b u) ⟨_, ho, hc⟩ (by decide) F.sub_dict_str F.slot_str_eq F.slot_dict_eq_refl
    (fun _ hq => call_meets F.slot_str_eq (typeIs_str s b u) F.entry_str_eq (F.args_str_eq_2 _ _) (str_eq_dict b u l o es ep hc hd) ⟨ho, hq⟩)
    (fun _ hq => call_meets F.slot_dict_eq_refl ⟨_, ho, hc⟩ F.entry_dict_eq (F.args_dict_eq_2 _ _) (dict_eq_str b u l o es ep hc hd) ⟨ho, hq⟩)
    (fun _ hq => wpAny_of_eq (rfl : isSame (.str b u) (.ref l) = pure false) hq) (.inr hu) (wpAny_truthy_bool h)
end
end TfI
end PySem
namespace L2
open PySem PySem.Spec PyProof.Rows
/-- a list, a tuple, a dict -/
def Box (K : PySem.W.Frag) (H : Hp) (x : V) : Prop := ∃ a : Addr, x = .ref a ∧ ((∃ xs, SqL K H a xs) ∨ (∃ xs, SqT K H a xs) ∨ ∃ kvs, H a = some (.dK kvs))
section
variable {X : Cx}
theorem eq_str_box {pins : List (Addr × Obj)} {σ : St} {H : Hp} {s : Shared} {x : V} {v : Value} {b : Str} {u : Tok} {A : Around} (I : Inv X pins σ H s) (h : Box X.K H x) (r : RelV x v) (hu : A.units < cLine) : SeqAt.EqAt A s (.str b u) v false := by
  obtain ⟨a, rfl, h⟩ := h
  cases r
  rcases h with ⟨xs, h⟩ | ⟨xs, h⟩ | ⟨kvs, h⟩
  · obtain ⟨its, _, pl, _⟩ := I.list h
    exact SeqAt.EqAt.str_list b u pl.isList hu
  · obtain ⟨its, _, pl, _⟩ := I.tuple h
    exact SeqAt.EqAt.str_tuple b u pl hu
  · obtain ⟨_, _, vs, _, o, es, ep, h1, h2, h3, _⟩ := (show ObjOk X.prog X.w H s.heap a (.dK kvs) from I.hok a _ h)
    exact PySem.TfI.eq_str_dict b u h1 h2.1 h3 hu
/-- x in (texts): x a list, a tuple, a dict -/
def rInB (K : PySem.W.Frag) (neg : Bool) : R2 := fun x y H Q => ∃ (p : Addr) (zs : List Str), y = .ref p ∧ (SqL K H p (zs.map V.str) ∨ SqT K H p (zs.map V.str)) ∧ Box K H x ∧ Q (.bl neg) H
/-- .. x anything of these -/
def rInX (K : PySem.W.Frag) (neg : Bool) : R2 := fun x y H Q => rIn K neg x y H Q ∨ rInB K neg x y H Q
theorem box_items {pins : List (Addr × Obj)} {σ : St} {H : Hp} {s : Shared} {x : V} {v : Value} {A : Around} (I : Inv X pins σ H s) (h : Box X.K H x) (r : RelV x v) (hu : A.units < cLine) : ∀ {zs : List Str} {its : List Value}, Vals (zs.map V.str) its → ∀ y ∈ its, SeqAt.EqAt A s y v false
  | [], _, .nil, y, hy => by cases hy
  | z :: zs, _, .cons rz rs, y, hy => by
    rcases List.mem_cons.mp hy with rfl | hy
    · obtain ⟨t, rfl⟩ := rz
      exact eq_str_box I h r hu
    · exact box_items I h r hu rs y hy
theorem op_inX (hu : X.A.units + 1 < cLine) : OpR X (compareOp .In) (rInX X.K false) := by
  intro pins s σ H x y v u Q I rx ry h
  rcases h with h | h
  · exact op_in_seq pins s σ H x y v u Q I rx ry h
  · obtain ⟨p, zs, rfl, hq, hb, q⟩ := h
    cases ry
    rcases hq with hq | hq
    · obtain ⟨its, r, pl, hz⟩ := I.list hq
      refine SeqAt.in_listAt (fun _ => false) pl.isList (fun w hw => box_items I hb rx hu r w (by simpa using hw)) ⟨.bl _, H, I, rfl, ?_⟩
      rw [show its.toArray.any (fun _ => false) = false by simp]
      exact q
    · obtain ⟨its, r, pl, hz⟩ := I.tuple hq
      refine SeqAt.in_tupleAt (fun _ => false) pl (fun w hw => box_items I hb rx hu r w (by simpa using hw)) ⟨.bl _, H, I, rfl, ?_⟩
      rw [show its.toArray.any (fun _ => false) = false by simp]
      exact q
end
end L2

/-! sets of texts: set(xs), sorted(set(xs)), len(set(xs)) -/
namespace L2
open PySem PySem.Spec PyProof.Rows
abbrev newSetO (w : World) : Obj := { cls := .type "set", dict := none, data := .set #[] 0 (.fresh 0 0 (!w.params.followText "set-order")) }
def txtOf (e : Int × Value) : Str := match e.2 with | .str x _ => x | _ => Str.empty
def TxtE (w : World) (e : Int × Value) : Prop := ∃ x tk, e.2 = Value.str x tk ∧ e.1 = hashStr w x
/-- the set of texts at a: its members are L, in some order -/
def SetS (w : World) (h : Heap) (a : Addr) (L : List Str) : Prop :=
  ∃ o es ep t, h.get? a = some o ∧ o.ExactSet ∧ o.data = .set es ep t ∧ (∀ e ∈ es.toList, TxtE w e) ∧ (es.toList.map txtOf).Perm L ∧ L.Nodup ∧
    es.size < scanBound ∧ t.fits es.size = true ∧ Ris t.place.toList ∧ (w.params.followText "set-order" = true ∨ t.led = true)
section
variable {P : Program} {w : World} {h h' : Heap} {a : Addr} {L : List Str}
theorem SetS.at (R : SetS w h a L) (k : ∀ o, h.get? a = some o → h'.get? a = some o) : SetS w h' a L := by
  obtain ⟨o, es, ep, t, ho, r⟩ := R
  exact ⟨o, es, ep, t, k o ho, r⟩
theorem txt_elems {l : List (Int × Value)} (g : ∀ e ∈ l, TxtE w e) : ElemsOf (PySem.strKind P w) l := fun e he => by
  obtain ⟨k, tk, h1, h2⟩ := g e he
  exact ⟨⟨k, by rw [h1]; exact strKind_is P w k tk, h2⟩, by rw [h1] <;> rfl⟩
theorem txt_is {e : Int × Value} (g : TxtE w e) (k : Str) : (PySem.strKind P w).is k e.2 = true ↔ txtOf e = k := by
  obtain ⟨k0, tk, h1, _⟩ := g
  unfold txtOf
  rw [h1]
  constructor
  · intro z
    obtain ⟨t, e⟩ := Value.isStrOf_shape (show Value.isStrOf k (.str k0 tk) = true from z)
    injection e
  · intro z
    show (PySem.strKind P w).is k (.str k0 tk) = true
    have z' : k0 = k := z
    rw [z']
    exact strKind_is P w k tk
theorem setS_fresh (w : World) {h : Heap} (ho : h.get? a = some (newSetO w)) : SetS w h a [] :=
  ⟨_, #[], 0, _, ho, ⟨rfl, rfl, rfl⟩, rfl, (fun e he => by simp at he), List.Perm.nil, List.nodup_nil, (by decide), (by rfl), List.Pairwise.nil, by
    show _ ∨ (!w.params.followText "set-order") = true
    cases w.params.followText "set-order"
    · exact .inr rfl
    · exact .inl rfl⟩
end
section
variable {P : Program} {w : World} {A : Around} {E : Value → Shared → Prop} {s : Shared} {a : Addr} {L : List Str}
theorem setS_tail {g : Bool → Sem Unit} (hg : ∀ (b : Bool) (s₁ : Shared) (Q' : Unit → Shared → Prop), Q' () s₁ → wpAny (model P w) A (g b) Q' E s₁)
    {o : Obj} {es : Array (Int × Value)} {ep : Nat} {t : SetTable} (ho : s.heap.get? a = some o) (hex : o.ExactSet) (hd : o.data = .set es ep t)
    {es1 : Array (Int × Value)} {t2 : SetTable} (g1 : ∀ e ∈ es1.toList, TxtE w e) (p1 : (es1.toList.map txtOf).Perm L) (nd : L.Nodup)
    (hb1 : es1.size < scanBound) (hf2 : t2.fits es1.size = true) (hr : Ris t2.place.toList) (hl : w.params.followText "set-order" = true ∨ t2.led = true) {wasDummy : Bool} {R : Option Bool → Shared → Prop}
    (hR : ∀ h', Heap.SameBut a s.heap h' → SetS w h' a L → R (some true) { s with heap := h' }) :
    wpAny (model P w) A (do
        storeSet a es1 t2
        if (!wasDummy && t2.tooFull) = true then do
            g (relayAll t2 es1 (SetTable.grown es1.size)).2.2
            storeSet a (relayAll t2 es1 (SetTable.grown es1.size)).1 (relayAll t2 es1 (SetTable.grown es1.size)).2.1
            pure (some true)
          else pure (some true)) R E s := by
  refine wpAny_bind (wpAny_storeSet_of ho hd ?_ (fits_of_scanBound hb1))
  have o1 := store_at (es' := es1) (t' := t2) ho hd
  have b1 := Heap.SameBut.update s.heap a (Obj.putSet es1 t2)
  split
  · have q1 := relayAll_perm t2 es1 (SetTable.grown es1.size)
    have q2 := relayAll_fits t2 es1 (SetTable.grown es1.size)
    have q3 := relayAll_ris t2 es1 (SetTable.grown es1.size)
    have q4 := relayAll_led t2 es1 (SetTable.grown es1.size)
    generalize relayAll t2 es1 (SetTable.grown es1.size) = Z at q1 q2 q3 q4 ⊢
    obtain ⟨es2, t3, gave⟩ := Z
    dsimp only at q1 q2 q3 q4 ⊢
    have sz : es2.size = es1.size := by rw [← Array.length_toList, q1.length_eq, Array.length_toList]
    have hb2 : es2.size < scanBound := by rw [sz]; exact hb1
    refine wpAny_bind (hg _ _ _ (wpAny_bind (wpAny_storeSet_of o1 rfl ?_ (fits_of_scanBound hb2))))
    have o2 := store_at (es' := es2) (t' := t3) o1 rfl
    refine wpAny_pure (hR _ (b1.trans (Heap.SameBut.update _ a _)) ⟨_, es2, _, t3, o2, hex, rfl, fun e he => g1 e (q1.mem_iff.mp he), (q1.map txtOf).trans p1, nd, hb2, q2, q3, ?_⟩)
    rcases hl with z | z
    · exact .inl z
    · exact .inr (by rw [q4]; exact z)
  · exact wpAny_pure (hR _ b1 ⟨_, es1, _, t2, o1, hex, rfl, g1, p1, nd, hb1, hf2, hr, hl⟩)
/-- one text more -/
theorem setS_add {x : Str} {tk : Tok} {Q : Bool → Shared → Prop} (R : SetS w s.heap a L) (room : L.length + 1 < scanBound)
    (hQ : ∀ h' b, Heap.SameBut a s.heap h' → SetS w h' a (if x ∈ L then L else L ++ [x]) → Q b { s with heap := h' }) :
    wpAny (model P w) A (setAddHashed a (.str x tk) ((PySem.strKind P w).hash x)) Q E s := by
  obtain ⟨o, es, ep, t, ho, hex, hd, g, pl, nd, hb, hf, hr, hl⟩ := R
  have key : (PySem.strKind P w).is x (.str x tk) = true := strKind_is P w x tk
  have sc : (Value.str x tk).scannable = true := rfl
  have el : ElemsOf (PySem.strKind P w) es.toList := txt_elems g
  have len : es.size = L.length := by
    have z := pl.length_eq
    rw [List.length_map, Array.length_toList] at z
    exact z
  unfold setAddHashed setAddHashedIn
  refine wpAny_holding (wpAny_bind (wpAny_setState_of ho hd hf ?_))
  dsimp only
  rw [byScan_of sc hb el]
  simp only [↓reduceIte]
  unfold setAddByScan
  refine wpAny_bind (wpAny_bind (wpAny_rule (wpAny_bind (wpAny_setScan_of key ho hd hf el ?_))))
  cases fi : List.findIdx? (fun e => (PySem.strKind P w).is x e.2) es.toList with
  | some j =>
    dsimp only
    obtain ⟨hj, pj, _⟩ := List.findIdx?_eq_some_iff_getElem.mp fi
    have mem : x ∈ L := pl.mem_iff.mp (List.mem_map.mpr ⟨es.toList[j], List.getElem_mem hj, (txt_is (P := P) (g _ (List.getElem_mem hj)) x).mp pj⟩)
    refine wpAny_pure (wpAny_pure (hQ s.heap _ (Heap.SameBut.refl a s.heap) ?_))
    rw [if_pos mem]
    exact ⟨o, es, ep, t, ho, hex, hd, g, pl, nd, hb, hf, hr, hl⟩
  | none =>
    dsimp only
    have nmem : x ∉ L := fun z => by
      obtain ⟨e, he, q⟩ := List.mem_map.mp (pl.mem_iff.mpr z)
      have c := List.findIdx?_eq_none_iff.mp fi e he
      rw [(txt_is (P := P) (g e he) x).mpr q] at c
      cases c
    have gw : ∀ (b : Bool) {s₁ : Shared} {Q' : Unit → Shared → Prop}, Q' () s₁ → wpAny (model P w) A (match b with | true => rule "set.scan.the-table-gave-way" | false => pure ()) Q' E s₁ :=
      fun b s₁ Q' q => by cases b <;> first | exact wpAny_pure q | exact wpAny_rule q
    have z1 := layNew_perm t es ((PySem.strKind P w).hash x) (.str x tk)
    have z2 := layNew_fits t es ((PySem.strKind P w).hash x) (.str x tk)
    have z3 := layNew_ris t es ((PySem.strKind P w).hash x) (.str x tk) hr
    have z4 := layNew_led t es ((PySem.strKind P w).hash x) (.str x tk)
    generalize layNew t es ((PySem.strKind P w).hash x) (.str x tk) = Z at z1 z2 z3 z4 ⊢
    obtain ⟨es1, t1, wasDummy, gave⟩ := Z
    dsimp only at z1 z2 z3 z4 ⊢
    rw [Array.toList_push] at z1
    have pk : (es1.toList.map txtOf).Perm (L ++ [x]) := by
      have q := z1.map txtOf
      rw [List.map_append] at q
      exact q.trans (pl.append_right _)
    have g1 : ∀ e ∈ es1.toList, TxtE w e := fun e he => by
      rcases List.mem_append.mp (z1.mem_iff.mp he) with z | z
      · exact g e z
      · rw [List.mem_singleton.mp z]; exact ⟨x, tk, rfl, rfl⟩
    have nd1 : (L ++ [x]).Nodup := List.nodup_append.mpr ⟨nd, List.nodup_cons.mpr ⟨by simp, List.nodup_nil⟩, fun y hy y' hy' e => nmem (by rw [← List.mem_singleton.mp hy', ← e]; exact hy)⟩
    have sz : es1.size = L.length + 1 := by
      have z := pk.length_eq
      rw [List.length_map, Array.length_toList, List.length_append] at z
      exact z
    have hb1 : es1.size < scanBound := by rw [sz]; exact room
    have led : w.params.followText "set-order" = true ∨ t1.led = true := by
      rcases hl with z | z
      · exact .inl z
      · exact .inr (by rw [z4]; exact z)
    have fin : ∀ h', Heap.SameBut a s.heap h' → SetS w h' a (L ++ [x]) → Q true { s with heap := h' } := fun h' sb r => hQ h' true sb (by rw [if_neg nmem]; exact r)
    refine wpAny_bind (gw _ ?_)
    split
    · refine wpAny_bind ?_
      rw [hashByValue_scannable 8 sc]
      refine wpAny_pure (setS_tail ?_ ho hex hd g1 pk nd1 hb1 ?_ ?_ ?_ ?_)
      · intro b s₁ Q' q; cases b <;> first | exact wpAny_pure q | exact wpAny_rule q
      · first | (split <;> first | exact z2 | exact SetTable.fits_plain_off z2) | exact z2
      · first | (split <;> exact z3) | exact z3
      · first | (split <;> exact led) | exact led
      · intro h' sb r; dsimp only; exact wpAny_pure (fin h' sb r)
    · refine wpAny_bind (wpAny_pure ?_)
      simp only [↓reduceIte]
      refine setS_tail ?_ ho hex hd g1 pk nd1 hb1 z2 z3 led ?_
      · intro b s₁ Q' q; cases b <;> first | exact wpAny_pure q | exact wpAny_rule q
      · intro h' sb r; dsimp only; exact wpAny_pure (fin h' sb r)
end
/-- the texts in the order in which they are first met -/
def firsts (xs : List Str) : List Str := xs.foldl (fun L x => if x ∈ L then L else L ++ [x]) []
theorem firsts_snoc (xs : List Str) (x : Str) : firsts (xs ++ [x]) = if x ∈ firsts xs then firsts xs else firsts xs ++ [x] := by
  unfold firsts
  rw [List.foldl_append]
  rfl
theorem firsts_len (xs : List Str) : (firsts xs).length ≤ xs.length := by
  have gen : ∀ (ys : List Str) (L : List Str), (ys.foldl (fun L x => if x ∈ L then L else L ++ [x]) L).length ≤ L.length + ys.length := by
    intro ys
    induction ys with
    | nil => intro L; exact Nat.le_refl _
    | cons y ys ih =>
      intro L
      refine Nat.le_trans (ih _) ?_
      rw [List.length_cons]
      show (if y ∈ L then L else L ++ [y]).length + _ ≤ _
      split
      · omega
      · rw [List.length_append, List.length_singleton]; omega
  exact Nat.le_trans (gen xs []) (by simp)
section
variable {P : Program} {w : World} {A : Around} {E : Value → Shared → Prop} {s : Shared}
/-- the loop of set.update over texts -/
theorem setS_loop {I : Addr} {fp wr : List Addr} {G : Array GenState → Array GenState → Prop} {n : Nat} {Pv : Nat → Value → Prop} {St : Nat → Shared → Prop} {R : Result → Shared → Prop}
    (W : WalksS P w A.in1 I fp wr G n Pv St) (S : Addr) (hSf : S ∉ fp) (xs : List Str) (hn : n = xs.length) (few : xs.length + 1 < scanBound) (hval : ∀ i v, Pv i v → ∃ x t, xs[i]? = some x ∧ v = .str x t) :
    ∀ (k i : Nat) (s : Shared), n - i = k → i ≤ n → St i s → SetS w s.heap S (firsts (xs.take i)) →
      (∀ s', Moved (S :: wr) G s s' → SetS w s'.heap S (firsts xs) → R (.ok (.ret .none)) s') →
      codeAny (model P w) A (.builtin "set.update.loop" ⟨[.ref S, .ref I], []⟩) R s := by
  have hSw : S ∉ wr := fun h => hSf (W.sub _ h)
  have wid : ∀ b ∈ wr, b ∈ S :: wr := fun b hb => List.mem_cons_of_mem _ hb
  intro k
  induction k with
  | zero =>
    intro i s hk hi hst hS hR
    have e : i = n := by omega
    subst e
    rw [hn, List.take_length] at hS
    refine codeAny_builtin F.entry_set_update_loop ?_
    rw [Around.under_plainId F.plain_set_update_loop _]
    show wpAny _ A.in1 (pyNext (.ref I) >>= _) _ _ s
    refine wpAny_bind (W.done s _ _ hst fun s' hm => ?_)
    exact wpAny_pure (hR s' (hm.mono wid) (hS.at fun o e => hm.heap S o hSw e))
  | succ k ih =>
    intro i s hk hi hst hS hR
    have lt : i < n := by omega
    refine codeAny_builtin F.entry_set_update_loop ?_
    rw [Around.under_plainId F.plain_set_update_loop _]
    show wpAny _ A.in1 (pyNext (.ref I) >>= _) _ _ s
    refine wpAny_bind (W.item i s _ _ lt hst fun v s' hP hst' hm => ?_)
    obtain ⟨x, t, hx, rfl⟩ := hval i v hP
    have hS' : SetS w s'.heap S (firsts (xs.take i)) := hS.at fun o e => hm.heap S o hSw e
    have tk : xs.take (i + 1) = xs.take i ++ [x] := by rw [List.take_add_one, hx]; rfl
    show wpAny _ A.in1 (holding [Value.str x t] (setAdd S (.str x t)) >>= _) _ _ s'
    refine wpAny_bind (wpAny_holding ?_)
    unfold setAdd
    refine wpAny_holding (wpAny_bind ((PySem.strKind P w).pyHash (strKind_is P w x t) ?_))
    have fl := firsts_len (xs.take i)
    rw [List.length_take] at fl
    refine setS_add (s := { s' with toks := s'.toks + 1 }) hS' (by omega) fun h' b sb r => ?_
    rw [← firsts_snoc, ← tk] at r
    refine wpAny_pure ⟨plainId_quiet F.plain_set_update_loop _, ih (i + 1) _ (by omega) lt (W.frame _ s' _ _ hst' (Nat.le_succ _) fun b hb o e => ?_) r fun s'' hm'' hS'' => ?_⟩
    · rw [sb.2 b (fun h : b = S => hSf (by rw [← h]; exact hb))]; exact e
    · refine hR s'' (Moved.trans W.gtrans ((hm.mono wid).then_heap (Nat.le_succ _) fun b o hb e => ?_) hm'') hS''
      rw [sb.2 b (fun h : b = S => hb (by rw [h]; exact List.mem_cons_self))]; exact e
end
section
variable {P : Program} {w : World} {A : Around} {E : Value → Shared → Prop} {s : Shared}
set_option maxHeartbeats 8000000 in
/-- set(xs), xs a list of texts -/
theorem setS_list {l : Addr} {items : Array Value} {xs : List Str} {Q : Value → Shared → Prop} (hh : A.handled = none) (hl : s.heap.IsList l items) (hv : ∀ (i : Nat) (v : Value), items[i]? = some v → ∃ x t, xs[i]? = some x ∧ v = .str x t) (hz : items.size = xs.length) (few : xs.length + 1 < scanBound)
    (h : ∀ (h' : Heap) (tk : Nat), SetS w h' s.heap.objs.size (firsts xs) → (∀ b o, s.heap.get? b = some o → h'.get? b = some o) → Q (.ref s.heap.objs.size) { s with heap := h', toks := tk }) :
    wpAny (model P w) A (call (.type "set") [.ref l]) Q E s := by
  obtain ⟨c, tl, hmro⟩ := F.called_set.mro
  have hmade := F.called_set.made
  have hsub := F.called_set.sub
  refine wpAny_call (codeAny_of_tree ?_)
  show wpAny _ _ (callAny (.type "set") _) _ _ _
  refine wpAny_pure ⟨Code.quiet_builtin _ (by decide +kernel), codeAny_builtin F.entry_type_call ?_⟩
  rw [Around.under_plain (weight_type_call_type "set" [.ref l] []) rfl]
  have h1 := F.called_set.notType
  have h2 := F.called_set.canCreate
  have hct := F.typeCall_set_1 (.ref l)
  repeat (any_goals (first | assumption | wp_step))
  refine codeAny_mono (code_set_led1 (.ref l) (E := E) (Q₁ := fun obj s₁ => obj = .ref s.heap.objs.size ∧ s₁ = { s with heap := s.heap.push (newSetO w) }) ⟨rfl, rfl⟩) fun r s₁ hr => ?_
  cases r with
  | error e => exact hr
  | ok fl =>
    cases fl with
    | ret obj =>
      obtain ⟨rfl, rfl⟩ := hr
      have hS : (s.heap.push (newSetO w)).get? s.heap.objs.size = some (newSetO w) := Heap.get?_push_size _ rfl
      have hT : Shared.TypeIs { s with heap := s.heap.push (newSetO w) } (.ref s.heap.objs.size) "set" := ⟨_, hS, rfl⟩
      have hli := F.called_set.init.lookup
      have hbi := F.called_set.init.bind (.ref s.heap.objs.size)
      repeat (any_goals (first | assumption | wp_step))
      refine codeAny_mono (codeAny_call_builtin (R := wants (fun r s₂ => r = .none ∧ ∃ h' tk, s₂ = { s with heap := h', toks := tk } ∧ SetS w h' s.heap.objs.size (firsts xs) ∧ (∀ b o, s.heap.get? b = some o → h'.get? b = some o)) E) F.called_set.init.plain F.entry_set_init (check_set_init_1 hT ?_)) fun r₂ s₂ hr₂ => ?_
      · obtain ⟨ol, hol, hcl, nl, hdl⟩ := hl
        obtain ⟨ocls, odict, odata, oslots⟩ := ol
        simp only at hcl hdl
        subst hcl; subst hdl
        have hol' : (s.heap.push (newSetO w)).get? l = some { cls := .type "list", dict := odict, data := .seq items nl, slots := oslots } := Heap.get?_push_of_some _ hol
        have hsls := F.sub_list_set
        have hslf := F.sub_list_frozenset
        have hne : (Value.type "list" == Value.type "dict") = false := by decide
        have hl1 : (s.heap.push (newSetO w)).IsList l items := ⟨_, hol', rfl, nl, rfl⟩
        unfold Builtin.«set.__init__» noKeywords Builtin.Frozenset.updateFrom
        generalize hPI : pyIter = PI
        wp_walk
        subst hPI
        refine wpAny_pyIter_list hl1 ?_
        refine wpAny_bind (wpAny_runValue ?_)
        have lt : l < s.heap.objs.size := Heap.lt_size hol
        have hh3 : A.in1.in1.in1.handled = none := by simp [hh]
        have sz : (s.heap.push (newSetO w)).objs.size = s.heap.objs.size + 1 := Heap.size_push ..
        have neI : l ≠ (s.heap.push (newSetO w)).objs.size := by
          rw [sz]
          exact Nat.ne_of_lt (Nat.lt_succ_of_lt lt)
        have nf : s.heap.objs.size ∉ [(s.heap.push (newSetO w)).objs.size, l] := by
          rw [sz]
          simp only [List.mem_cons, List.not_mem_nil, or_false, not_or]
          exact ⟨Nat.ne_of_lt (Nat.lt_succ_self _), Nat.ne_of_gt lt⟩
        refine setS_loop ((Walks.list hh3 _ l neI items).toS) s.heap.objs.size nf xs hz few hv (items.size - 0) 0 _ (by omega) (Nat.zero_le _) ⟨⟨_, Heap.get?_push_size _ rfl, rfl, rfl⟩, (hl1.push _)⟩ (setS_fresh w (Heap.get?_push_of_some _ hS)) ?hR
        case hR =>
          intro s' hm hS'
          obtain ⟨h', g2, d', tk', os'⟩ := s'
          have eg : g2 = s.gens := hm.gens
          have ed : d' = s.drawn := hm.drawn
          have eo : os' = s.os := hm.os
          subst eg; subst ed; subst eo
          show wpAny _ _ _ _ _ _
          refine wpAny_pure ?_
          show wpAny _ _ (ret Value.none) _ _ _
          refine wpAny_pure ⟨rfl, h', tk', rfl, hS', fun b o e => ?_⟩
          have lb := Heap.lt_size e
          refine hm.heap b o (fun z => ?_) (Heap.get?_push_of_some _ (Heap.get?_push_of_some _ e))
          rw [sz] at z
          simp only [List.mem_cons, List.not_mem_nil, or_false] at z
          rcases z with z | z
          · exact absurd z (Nat.ne_of_lt lb)
          · exact absurd z (Nat.ne_of_lt (Nat.lt_succ_of_lt lb))
      · cases r₂ with
        | error e => exact hr₂
        | ok fl₂ =>
          cases fl₂ with
          | ret r =>
            obtain ⟨rfl, h', tk, rfl, hS', hk'⟩ := hr₂
            repeat (any_goals (first | assumption | wp_step))
            exact h _ _ hS' hk'
          | _ => exact hr₂.elim
    | _ => exact hr.elim
set_option maxHeartbeats 8000000 in
/-- set(xs), xs a tuple of texts -/
theorem setS_tuple {l : Addr} {items : Array Value} {xs : List Str} {Q : Value → Shared → Prop} (hh : A.handled = none) (hl : s.heap.IsTuple l items) (hv : ∀ (i : Nat) (v : Value), items[i]? = some v → ∃ x t, xs[i]? = some x ∧ v = .str x t) (hz : items.size = xs.length) (few : xs.length + 1 < scanBound)
    (h : ∀ (h' : Heap) (tk : Nat), SetS w h' s.heap.objs.size (firsts xs) → (∀ b o, s.heap.get? b = some o → h'.get? b = some o) → Q (.ref s.heap.objs.size) { s with heap := h', toks := tk }) :
    wpAny (model P w) A (call (.type "set") [.ref l]) Q E s := by
  obtain ⟨c, tl, hmro⟩ := F.called_set.mro
  have hmade := F.called_set.made
  have hsub := F.called_set.sub
  refine wpAny_call (codeAny_of_tree ?_)
  show wpAny _ _ (callAny (.type "set") _) _ _ _
  refine wpAny_pure ⟨Code.quiet_builtin _ (by decide +kernel), codeAny_builtin F.entry_type_call ?_⟩
  rw [Around.under_plain (weight_type_call_type "set" [.ref l] []) rfl]
  have h1 := F.called_set.notType
  have h2 := F.called_set.canCreate
  have hct := F.typeCall_set_1 (.ref l)
  repeat (any_goals (first | assumption | wp_step))
  refine codeAny_mono (code_set_led1 (.ref l) (E := E) (Q₁ := fun obj s₁ => obj = .ref s.heap.objs.size ∧ s₁ = { s with heap := s.heap.push (newSetO w) }) ⟨rfl, rfl⟩) fun r s₁ hr => ?_
  cases r with
  | error e => exact hr
  | ok fl =>
    cases fl with
    | ret obj =>
      obtain ⟨rfl, rfl⟩ := hr
      have hS : (s.heap.push (newSetO w)).get? s.heap.objs.size = some (newSetO w) := Heap.get?_push_size _ rfl
      have hT : Shared.TypeIs { s with heap := s.heap.push (newSetO w) } (.ref s.heap.objs.size) "set" := ⟨_, hS, rfl⟩
      have hli := F.called_set.init.lookup
      have hbi := F.called_set.init.bind (.ref s.heap.objs.size)
      repeat (any_goals (first | assumption | wp_step))
      refine codeAny_mono (codeAny_call_builtin (R := wants (fun r s₂ => r = .none ∧ ∃ h' tk, s₂ = { s with heap := h', toks := tk } ∧ SetS w h' s.heap.objs.size (firsts xs) ∧ (∀ b o, s.heap.get? b = some o → h'.get? b = some o)) E) F.called_set.init.plain F.entry_set_init (check_set_init_1 hT ?_)) fun r₂ s₂ hr₂ => ?_
      · obtain ⟨ol, hol, hcl, nl, hdl⟩ := hl
        obtain ⟨ocls, odict, odata, oslots⟩ := ol
        simp only at hcl hdl
        subst hcl; subst hdl
        have hol' : (s.heap.push (newSetO w)).get? l = some { cls := .type "tuple", dict := odict, data := .seq items nl, slots := oslots } := Heap.get?_push_of_some _ hol
        have hsls := F.sub_tuple_set
        have hslf := F.sub_tuple_frozenset
        have hne : (Value.type "tuple" == Value.type "dict") = false := by decide
        have hl1 : (s.heap.push (newSetO w)).IsTuple l items := ⟨_, hol', rfl, nl, rfl⟩
        unfold Builtin.«set.__init__» noKeywords Builtin.Frozenset.updateFrom
        generalize hPI : pyIter = PI
        wp_walk
        subst hPI
        refine wpAny_pyIter_tuple hl1 ?_
        refine wpAny_bind (wpAny_runValue ?_)
        have lt : l < s.heap.objs.size := Heap.lt_size hol
        have hh3 : A.in1.in1.in1.handled = none := by simp [hh]
        have sz : (s.heap.push (newSetO w)).objs.size = s.heap.objs.size + 1 := Heap.size_push ..
        have neI : l ≠ (s.heap.push (newSetO w)).objs.size := by
          rw [sz]
          exact Nat.ne_of_lt (Nat.lt_succ_of_lt lt)
        have nf : s.heap.objs.size ∉ [(s.heap.push (newSetO w)).objs.size, l] := by
          rw [sz]
          simp only [List.mem_cons, List.not_mem_nil, or_false, not_or]
          exact ⟨Nat.ne_of_lt (Nat.lt_succ_self _), Nat.ne_of_gt lt⟩
        refine setS_loop ((Walks.tuple hh3 _ l neI items).toS) s.heap.objs.size nf xs hz few hv (items.size - 0) 0 _ (by omega) (Nat.zero_le _) ⟨⟨_, Heap.get?_push_size _ rfl, rfl, rfl⟩, (hl1.push _)⟩ (setS_fresh w (Heap.get?_push_of_some _ hS)) ?hR
        case hR =>
          intro s' hm hS'
          obtain ⟨h', g2, d', tk', os'⟩ := s'
          have eg : g2 = s.gens := hm.gens
          have ed : d' = s.drawn := hm.drawn
          have eo : os' = s.os := hm.os
          subst eg; subst ed; subst eo
          show wpAny _ _ _ _ _ _
          refine wpAny_pure ?_
          show wpAny _ _ (ret Value.none) _ _ _
          refine wpAny_pure ⟨rfl, h', tk', rfl, hS', fun b o e => ?_⟩
          have lb := Heap.lt_size e
          refine hm.heap b o (fun z => ?_) (Heap.get?_push_of_some _ (Heap.get?_push_of_some _ e))
          rw [sz] at z
          simp only [List.mem_cons, List.not_mem_nil, or_false] at z
          rcases z with z | z
          · exact absurd z (Nat.ne_of_lt lb)
          · exact absurd z (Nat.ne_of_lt (Nat.lt_succ_of_lt lb))
      · cases r₂ with
        | error e => exact hr₂
        | ok fl₂ =>
          cases fl₂ with
          | ret r =>
            obtain ⟨rfl, h', tk, rfl, hS', hk'⟩ := hr₂
            repeat (any_goals (first | assumption | wp_step))
            exact h _ _ hS' hk'
          | _ => exact hr₂.elim
    | _ => exact hr.elim
/-- sorted(the set) -/
theorem sortedS_set {a : Addr} {L : List Str} {Q : Value → Shared → Prop} (R : SetS w s.heap a L) (hh : A.handled = none) (h64 : L.length < 64)
    (hQ : ∀ s' p (out : Array Value) (c : Nat) (ys : List Str), (∀ b o, s.heap.get? b = some o → s'.heap.get? b = some o) → s'.gens = s.gens → s'.os = s.os → s.heap.objs.size ≤ p →
      s'.heap.get? p = some (seqObj "list" out c) → StrsAre out.toList ys → ys.Perm L → sortedS ys = true → Q (.ref p) s') :
    wpAny (model P w) A (call (.builtin "sorted") [.ref a]) Q E s := by
  obtain ⟨o, es, ep, t, ho, hex, hd, g, pl, nd, hb, hf, hr, hl⟩ := R
  refine Calls.call_function_entry kind_sorted plain_sorted entry_sorted (args_sorted1 _) ?_
  unfold Builtin.«sorted»
  refine wpAny_bind (m := checkCount "sorted" 1 1 _) (wpAny_pure ?_)
  refine wpAny_bind (collect_set (A := A.in1) hh ⟨o, ho, hex.1, hd⟩ hf hb hr hl fun s1 vs k1 hz g1 o1 pm => ?_)
  have txs : ∀ us : List Value, (∀ u ∈ us, ∃ x tk, u = Value.str x tk) → StrsAre us (us.map fun u => txtOf (0, u)) := by
    intro us
    induction us with
    | nil => intro _; exact .nil
    | cons u us ih =>
      intro hu
      obtain ⟨x, tk, rfl⟩ := hu u List.mem_cons_self
      exact .cons x tk (ih fun v hv => hu v (List.mem_cons_of_mem _ hv))
  have hS : StrsAre vs (vs.map fun u => txtOf (0, u)) := txs vs fun v hv => by
    obtain ⟨e, he, q⟩ := List.mem_map.mp (pm.mem_iff.mp hv)
    obtain ⟨x, tk, e1, _⟩ := g e he
    exact ⟨x, tk, by rw [← q]; exact e1⟩
  have pk : (vs.map fun u => txtOf (0, u)).Perm L := by
    have q := pm.map fun u => txtOf (0, u)
    rw [List.map_map] at q
    exact q.trans pl
  have vl : vs.length = L.length := by
    have z := pk.length_eq
    rw [List.length_map] at z
    exact z
  refine wpAny_bind (wpAny_newList ?_ (by rw [sizeLine_eq]; omega))
  have oL : (s1.heap.push (seqObj "list" vs.toArray 0)).get? s1.heap.objs.size = some (seqObj "list" vs.toArray 0) := Heap.get?_push_size _ rfl
  refine wpAny_bind (wpAny_holding (wpAny_call_entry slot_list_sort ⟨_, oL, rfl⟩ entry_list_sort
    (list_sort_treeK strKind_oneLt oL hS.keysOf (fun v₁ v₂ rest e => keyKind_strs (by rw [← e]; exact hS)) (by rw [vl]; exact h64) fun st' hp hs => ?_) (args_list_sort _)))
  obtain ⟨ys, f1, f2, f3⟩ := sorted_out_str hS hp hs
  obtain ⟨c, hc⟩ := sortedHeap_at (vs := vs) (out := (arrOf st').map (·.2)) oL
  refine ⟨_, rfl, wpAny_pure ⟨_, rfl, hQ _ s1.heap.objs.size _ c ys (fun b u e => ?_) g1 o1 hz hc f1 (f2.trans pk) f3⟩⟩
  have q := k1 b u e
  have lt := Heap.lt_size q
  show (sortedHeap (s1.heap.push (seqObj "list" vs.toArray 0)) s1.heap.objs.size vs _).get? b = some u
  rw [sortedHeap_old (Nat.ne_of_lt lt) (by rw [size_push']; exact Nat.lt_succ_of_lt lt)]
  exact Heap.get?_push_of_some _ q
end
/-- a set of texts, tracked -/
def SetX (w : World) (a : Addr) (L : List Str) : HO := .ext fun h => SetS w h a L
theorem setX_new {P : Program} {w : World} {H : Hp} {h : Heap} {a : Addr} {L : List Str} (R : SetS w h a L) : ObjOk P w H h a (SetX w a L) := by
  have ⟨o, es, ep, t, ho, r⟩ := R
  exact ⟨R, ⟨o, ho⟩, fun h1 h2 p k => SetS.at p k⟩
theorem vals_txs : ∀ {xs : List Str} {us : List Value}, Vals (xs.map V.str) us → ∀ (i : Nat) (v : Value), us[i]? = some v → ∃ x t, xs[i]? = some x ∧ v = .str x t
  | [], _, .nil, i, v, h => by simp at h
  | x :: xs, _, .cons r t, 0, v, h => by
    obtain ⟨tk, rfl⟩ := r
    have e := Option.some.inj h
    exact ⟨x, tk, rfl, e.symm⟩
  | x :: xs, _, .cons r t, i + 1, v, h => vals_txs t i v h
section
variable {X : Cx}
def rSetX (K : PySem.W.Frag) (w : World) : List V → Hp → VK → Prop := fun vs H Q => ∃ (l : Addr) (xs : List Str), vs = [.ref l] ∧ (SqL K H l (xs.map V.str) ∨ SqT K H l (xs.map V.str)) ∧ xs.length ≤ 60 ∧ ∀ p, H p = none → Q (.ref p) (upd H p (SetX w p (firsts xs)))
theorem cr_setX (hc : X.calm = true) : CallR X (.type "set") (rSetX X.K X.w) := by
  intro pins s σ H vs us Q I r h
  obtain ⟨l, xs, rfl, hl, hf, q⟩ := h
  rw [Vals.ref1 r]
  have fin : ∀ (h' : Heap) (tk : Nat), SetS X.w h' s.heap.objs.size (firsts xs) → (∀ b o, s.heap.get? b = some o → h'.get? b = some o) → EP X pins σ Q (.ref s.heap.objs.size) { s with heap := h', toks := tk } := fun h' tk R k =>
    ⟨.ref s.heap.objs.size, _, I.laid (t' := tk) k (Nat.le_refl _) (setX_new R), rfl, q _ (I.hok.fresh (Nat.le_refl _))⟩
  have sb : xs.length + 1 < scanBound := by unfold scanBound; omega
  rcases hl with hl | hl
  · obtain ⟨its, rv, pl, hz⟩ := I.list hl
    exact setS_list (I.ok.hd hc) pl.isList (fun i v e => vals_txs rv i v (by simpa using e)) (by rw [List.size_toArray, ← rv.length, List.length_map]) sb fin
  · obtain ⟨its, rv, pl, hz⟩ := I.tuple hl
    exact setS_tuple (I.ok.hd hc) pl (fun i v e => vals_txs rv i v (by simpa using e)) (by rw [List.size_toArray, ← rv.length, List.length_map]) sb fin
def rSortX (w : World) : List V → Hp → VK → Prop := fun vs H Q => ∃ (a : Addr) (L : List Str), vs = [.ref a] ∧ H a = some (SetX w a L) ∧ L.length < 64 ∧ ∀ (ys : List Str) (p : Addr), ys.Perm L → sortedS ys = true → H p = none → Q (.ref p) (upd H p (.lst (ys.map V.str)))
theorem cr_sortX (hc : X.calm = true) : CallR X (.builtin "sorted") (rSortX X.w) := by
  intro pins s σ H vs us Q I r h
  obtain ⟨a, L, rfl, ha, h64, q⟩ := h
  have R : SetS X.w s.heap a L := (I.hok a _ ha).1
  rw [Vals.ref1 r]
  refine sortedS_set R (I.ok.hd hc) h64 fun s' p out c ys k g o hp hg hst pm so => ?_
  have hlen : (ys.map V.str).length ≤ sizeLine := by rw [List.length_map, pm.length_eq, sizeLine_eq]; omega
  have hn : H p = none := I.hok.fresh hp
  have J : Inv X pins σ (upd H p (.lst (ys.map V.str))) { s with heap := s'.heap, gens := s'.gens, drawn := s'.drawn, toks := s'.toks } :=
    I.call (ch := []) (Un.laid k hp hn) (I.hok.laid k hp ⟨hlen, out.toList, c, vals_of_strs hst, hg⟩) (by rw [g]; exact I.bare) (fun _ z => nomatch z)
  have e : s' = { s with heap := s'.heap, gens := s'.gens, drawn := s'.drawn, toks := s'.toks } := by
    cases s'
    cases s
    cases o
    rfl
  rw [e]
  exact ⟨.ref p, _, J, rfl, q ys p pm so hn⟩
def rLenX (w : World) : List V → Hp → VK → Prop := fun vs H Q => ∃ (a : Addr) (L : List Str), vs = [.ref a] ∧ H a = some (SetX w a L) ∧ Q (.int L.length) H
theorem cr_lenX : CallR X (.builtin "len") (rLenX X.w) := by
  intro pins s σ H vs us Q I r h
  obtain ⟨a, L, rfl, ha, q⟩ := h
  obtain ⟨o, es, ep, t, ho, hex, hd, g, pl, nd, hb, hf, hr, hl⟩ : SetS X.w s.heap a L := (I.hok a _ ha).1
  rw [Vals.ref1 r]
  have len : es.size = L.length := by
    have z := pl.length_eq
    rw [List.length_map, Array.length_toList] at z
    exact z
  refine call_len_set ho hex hd hf (by unfold scanBound at hb; omega) ⟨.int L.length, H, I.tok _, ⟨_, by rw [len]⟩, q⟩
end
end L2

/-! the order of texts; the sorted list of different texts is one -/
namespace L2
open PySem PySem.Spec PyProof.Rows
def leS (a b : Str) : Bool := !ltCps b.cps.toList a.cps.toList
theorem leS_iff {a b : Str} : leS a b = true ↔ a.cps.toList ≤ b.cps.toList := by
  unfold leS
  rw [ltCps_eq]
  simp [List.not_lt]
theorem leS_trans {a b c : Str} (h : leS a b = true) (k : leS b c = true) : leS a c = true := leS_iff.mpr (List.le_trans (leS_iff.mp h) (leS_iff.mp k))
theorem leS_total (a b : Str) : (leS a b || leS b a) = true := by
  rw [Bool.or_eq_true, leS_iff, leS_iff]
  exact List.le_total _ _
theorem str_ext {a b : Str} (h : a.cps.toList = b.cps.toList) : a = b := by
  obtain ⟨x⟩ := a
  obtain ⟨y⟩ := b
  congr 1
  exact Array.toList_inj.mp h
theorem leS_anti {a b : Str} (h : leS a b = true) (k : leS b a = true) : a = b := str_ext (List.le_antisymm (leS_iff.mp h) (leS_iff.mp k))
theorem rising_pw : ∀ (l : List Str) (x : Str), risingS x l = true → (x :: l).Pairwise (fun a b => leS a b = true)
  | [], x, _ => List.pairwise_singleton _ _
  | y :: l, x, h => by
    have h2 : (leS x y && risingS y l) = true := h
    rw [Bool.and_eq_true] at h2
    have ih := rising_pw l y h2.2
    refine List.pairwise_cons.mpr ⟨fun z hz => ?_, ih⟩
    rcases List.mem_cons.mp hz with rfl | hz
    · exact h2.1
    · exact leS_trans h2.1 ((List.pairwise_cons.mp ih).1 z hz)
theorem pw_rising : ∀ (l : List Str) (x : Str), (x :: l).Pairwise (fun a b => leS a b = true) → risingS x l = true
  | [], x, _ => rfl
  | y :: l, x, h => by
    obtain ⟨h1, h2⟩ := List.pairwise_cons.mp h
    show (leS x y && risingS y l) = true
    rw [Bool.and_eq_true]
    exact ⟨h1 y List.mem_cons_self, pw_rising l y h2⟩
theorem sortedS_pw {l : List Str} (h : sortedS l = true) : l.Pairwise (fun a b => leS a b = true) := by
  cases l with
  | nil => exact List.Pairwise.nil
  | cons x l => exact rising_pw l x h
theorem pw_sortedS {l : List Str} (h : l.Pairwise (fun a b => leS a b = true)) : sortedS l = true := by
  cases l with
  | nil => rfl
  | cons x l => exact pw_rising l x h
theorem sorted_one : ∀ {l l' : List Str}, l.Perm l' → l.Pairwise (fun a b => leS a b = true) → l'.Pairwise (fun a b => leS a b = true) → l = l'
  | [], l', p, _, _ => (List.nil_perm.mp p).symm
  | x :: l, [], p, _, _ => by have := p.length_eq; simp at this
  | x :: l, y :: l', p, h, h' => by
    obtain ⟨h1, h2⟩ := List.pairwise_cons.mp h
    obtain ⟨k1, k2⟩ := List.pairwise_cons.mp h'
    have e : x = y := by
      rcases List.mem_cons.mp (p.mem_iff.mp (List.mem_cons_self (a := x) (l := l))) with e | m
      · exact e
      · rcases List.mem_cons.mp (p.mem_iff.mpr (List.mem_cons_self (a := y) (l := l'))) with e | m'
        · exact e.symm
        · exact leS_anti (h1 y m') (k1 x m)
    subst e
    rw [sorted_one (List.Perm.cons_inv p) h2 k2]
theorem mem_firsts {z : Str} {xs : List Str} : z ∈ firsts xs ↔ z ∈ xs := by
  have gen : ∀ (ys L : List Str), z ∈ ys.foldl (fun L x => if x ∈ L then L else L ++ [x]) L ↔ z ∈ L ∨ z ∈ ys := by
    intro ys
    induction ys with
    | nil => intro L; simp
    | cons y ys ih =>
      intro L
      rw [List.foldl_cons, ih]
      split
      · rename_i hy
        rw [List.mem_cons]
        constructor
        · rintro (h | h)
          · exact .inl h
          · exact .inr (.inr h)
        · rintro (h | rfl | h)
          · exact .inl h
          · exact .inl hy
          · exact .inr h
      · rw [List.mem_append, List.mem_singleton, List.mem_cons, or_assoc]
  rw [firsts, gen]
  simp
theorem nodup_firsts (xs : List Str) : (firsts xs).Nodup := by
  have gen : ∀ (ys L : List Str), L.Nodup → (ys.foldl (fun L x => if x ∈ L then L else L ++ [x]) L).Nodup := by
    intro ys
    induction ys with
    | nil => intro L h; exact h
    | cons y ys ih =>
      intro L h
      refine ih _ ?_
      show (if y ∈ L then L else L ++ [y]).Nodup
      split
      · exact h
      · rename_i hy
        exact List.nodup_append.mpr ⟨h, List.nodup_cons.mpr ⟨by simp, List.nodup_nil⟩, fun a ha b hb e => hy (by rw [← List.mem_singleton.mp hb, ← e]; exact ha)⟩
  exact gen xs [] List.nodup_nil
/-- the different ones, ascending -/
def canon (zs : List Str) : List Str := (firsts zs).mergeSort leS
theorem canon_perm (zs : List Str) : (canon zs).Perm (firsts zs) := List.mergeSort_perm _ _
theorem canon_pw (zs : List Str) : (canon zs).Pairwise (fun a b => leS a b = true) := List.pairwise_mergeSort (le := leS) (fun _ _ _ h k => leS_trans h k) leS_total _
theorem canon_is {zs ys : List Str} (p : ys.Perm (firsts zs)) (s : sortedS ys = true) : ys = canon zs := sorted_one (p.trans (canon_perm zs).symm) (sortedS_pw s) (canon_pw zs)
theorem mem_canon {z : Str} {zs : List Str} : z ∈ canon zs ↔ z ∈ zs := (canon_perm zs).mem_iff.trans mem_firsts
theorem nodup_canon (zs : List Str) : (canon zs).Nodup := (canon_perm zs).nodup_iff.mpr (nodup_firsts zs)
theorem canon_len (zs : List Str) : (canon zs).length ≤ zs.length := by rw [(canon_perm zs).length_eq]; exact firsts_len zs
theorem canon_congr {xs ys : List Str} (h : ∀ z, z ∈ xs ↔ z ∈ ys) : canon xs = canon ys := by
  refine sorted_one ((List.perm_ext_iff_of_nodup (nodup_canon xs) (nodup_canon ys)).mpr fun z => ?_) (canon_pw xs) (canon_pw ys)
  rw [mem_canon, mem_canon, h]
/-- what is sorted and has no repeats is its own -/
theorem canon_self {ys : List Str} (nd : ys.Nodup) (pw : ys.Pairwise (fun a b => leS a b = true)) : canon ys = ys := by
  refine sorted_one ((List.perm_ext_iff_of_nodup (nodup_canon ys) nd).mpr fun z => mem_canon) (canon_pw ys) pw
theorem canon_canon (zs : List Str) : canon (canon zs) = canon zs := canon_self (nodup_canon zs) (canon_pw zs)
/-- a dict with the keys L -/
abbrev keyT (z : Str) : Key × V := (Sum.inr z, .bl true)
theorem put_keyT (L : List Str) (x : Str) : putK (L.map keyT) (Sum.inr x) (.bl true) = (if x ∈ L then L else L ++ [x]).map keyT := by
  unfold putK
  by_cases h : x ∈ L
  · have e : ((L.map keyT).any fun kv => decide (kv.1 = Sum.inr x)) = true := List.any_eq_true.mpr ⟨keyT x, List.mem_map.mpr ⟨x, h, rfl⟩, decide_eq_true rfl⟩
    rw [if_pos e, if_pos h, List.map_map]
    refine List.map_congr_left fun z _ => ?_
    show (if (Sum.inr z : Key) = Sum.inr x then ((Sum.inr z : Key), V.bl true) else keyT z) = keyT z
    split <;> rfl
  · have e : ¬ (((L.map keyT).any fun kv => decide (kv.1 = Sum.inr x)) = true) := fun z => by
      obtain ⟨kv, hm, hk⟩ := List.any_eq_true.mp z
      obtain ⟨y, hy, rfl⟩ := List.mem_map.mp hm
      have ey : (Sum.inr y : Key) = Sum.inr x := of_decide_eq_true hk
      exact h (by rw [← Sum.inr.inj ey]; exact hy)
    rw [if_neg e, if_neg h, List.map_append]
    rfl
end L2

/-! self.f = v on a new error of any line of classes -/
namespace PySem
namespace TfSF
open PySem.W PySem.Calls PyProof.Rows PySem.HandSPX Builtin Builtin.ObjectAttr
/-- what __init__ leaves of a fresh error at x -/
structure InitEnd (h h' : Heap) (x C dx : Addr) (f : Str) (v : Value) : Prop where
  keep : ∀ b o, b ≠ x → h.get? b = some o → h'.get? b = some o
  obj : ∃ t1 : Addr, h'.get? x = some { cls := .ref C, dict := some dx, data := .fields #[.ref t1, .none, .none, .none, .bool false, .none] }
  dbig : h.objs.size ≤ dx
  dne : dx ≠ x
  ns : h'.Ns1 dx (fun y => if y = f then some v else none)
section
variable {prog : Program} {w : World} {A : Around} {R : Result → Shared → Prop} {hp : Heap} {g : Array GenState} {d : Drawn} {t : Nat} {os : OsState} {K : Frag} {name : Str} {tk : Tok} {v : Value} {x C : Addr} {fv : Array Value} {cd : ClassData} {l : List Value}
theorem osa_line (X : K.In hp) (hx : hp.get? x = some { cls := .ref C, data := .fields fv }) (hcd : clsIn K C = some cd) (hm : cd.mro = .ref C :: l) (hp0 : ∀ self : Value, refuseLoop self "__setattr__" l = pure ()) (ho : mroIn K C (.type "object") = some true) (hh : cd.hasDict = true) (ha : findIn K (.ref C) name = some none)
    (hq : ∀ h' tk' dx, (∀ b o, b ≠ x → hp.get? b = some o → h'.get? b = some o) → hp.objs.size ≤ dx → dx ≠ x → h'.get? x = some { cls := .ref C, dict := some dx, data := .fields fv } →
      h'.Ns1 dx (fun y => if y = name then some v else none) → R (.ok (.ret .none)) ⟨h', g, d, tk', os⟩) :
    codeAny (model prog w) A (.call (.builtin "object.__setattr__") ⟨[.ref x, .str name tk, v], []⟩) R ⟨hp, g, d, t, os⟩ := by
  have I : InstAt hp x { cls := .ref C, data := .fields fv } C none := ⟨hx, rfl, rfl, trivial⟩
  have far : x ≠ hp.objs.size := Nat.ne_of_lt (Heap.lt_size hx)
  have SF := PySem.F.store_object
  have isObj : Looks (model prog w) hp (isInstance (.ref x) (.type "object")) true := I.type.andThen (looks_mroIn X ho)
  have line : Looks (model prog w) hp (mroOf (.ref C)) cd.mro := (looks_clsIn X hcd).andThen .now
  have pass : refuseLoop (.ref x) "__setattr__" cd.mro = pure () := by
    rw [hm, refuseLoop_ref]
    exact hp0 _
  have none3 : Looks (model prog w) hp (storeTaker? none) none := .now
  have data : Looks (model prog w) hp (classData C) cd := looks_clsIn X hcd
  refine codeAny_call_builtin SF.slot.plain SF.entry (@check_slot (model prog w) _ _ ⟨hp, g, d, t, os⟩ "object.__setattr__" "object" "__setattr__" (.ref x) [.str name tk, v] [] _ SF.kind SF.split isObj (SF.args (.ref x) (.str name tk) v) ?_)
  rw [osa_eq, refuse_eq]
  refine wpAny_bind (wpAny_bind (I.type.at (wpAny_bind (line.at ?_))))
  rw [pass]
  refine wpAny_pure (wpAny_bind (I.type.at (wpAny_bind ((looks_findIn X ha).at (wpAny_bind (none3.at ?_))))))
  obtain ⟨nm, bs, mro, ns, qn, hd, sn, sb, ab, col, del⟩ := cd
  dsimp only at hh
  subst hh
  unfold storeInOwnDict ownDictForStores
  repeat first | (with_reducible refine store_in_new ?_ ?_) | (with_reducible refine wpAny_loadPart_at hx ?_) | (with_reducible refine data.at ?_) | wp_step
  · exact ⟨_, #[], _, (Heap.get?_update_ne _ _ _ _ far.symm).trans (Heap.get?_push_at rfl rfl), rfl, fun e he => absurd he (by simp), fun _ => rfl⟩
  · intro h' tk' hn' hs
    have hx1 : (hp.push { cls := .type "dict", data := .dict #[] }).get? x = some { cls := .ref C, data := .fields fv } := Heap.get?_push_of_some _ hx
    refine hq h' tk' hp.objs.size (fun b o hb z => ?_) (Nat.le_refl _) far.symm ?_ hn'
    · exact (hs.2 b (Nat.ne_of_lt (Heap.lt_size z))).trans ((Heap.get?_update_ne _ _ _ _ hb).trans (Heap.get?_push_of_some _ z))
    · exact (hs.2 x far).trans (Heap.get?_update_self _ hx1 rfl)
end
end TfSF
end PySem

/-! an error whose __init__ says super().__init__(n) and self.f = n -/
namespace PySem
namespace TfSF
open PySem.W PySem.Calls PyProof.Rows PySem.HandSPX PySem.TfS
def fB (n f : Str) (r1 r2 r3 r4 : Pos) : Stmt := .Assign [.Attribute (.Name "self" r1) f r2] (.Name n r3) r4
/-- what besides is asked of the class at C -/
structure FldTxt (K : Frag) (C : Addr) (f : Str) : Prop where
  sa : findIn K (.ref C) "__setattr__" = some (some (.builtin "object.__setattr__"))
  noF : findIn K (.ref C) f = some none
  ob : mroIn K C (.type "object") = some true
  ln : ∃ cd l, clsIn K C = some cd ∧ cd.mro = .ref C :: l ∧ (∀ self : Value, refuseLoop self "__setattr__" l = pure ()) ∧ cd.hasDict = true
/-- a made one -/
structure FldMade (h h' : Heap) (e C d : Addr) (f : Str) (v : Value) : Prop where
  keep : ∀ b o, h.get? b = some o → h'.get? b = some o
  new : h.objs.size ≤ e
  obj : ∃ oe vs, h'.get? e = some oe ∧ oe.cls = .ref C ∧ oe.dict = some d ∧ oe.data = .fields vs ∧ vs[1]? = some .none
  dbig : h.objs.size ≤ d
  dne : d ≠ e
  ns : h'.Ns1 d (fun y => if y = f then some v else none)
section
variable {prog : Program} {w : World} {A : Around} {R : Result → Shared → Prop} {s : Shared} {K : Frag} {mg : Str → Option Value} {Bn newId B initId initN : String} {bmN : List Value} {x n qual f : Str} {C D fI : Addr} {r1 r2 r3 r4 : Pos}
theorem made_field (KF : KxsFacts B initId) (FB : PySem.TfKE.InitF B initId) (FN : ExcBaseFacts Bn newId initN bmN) (T : SupTxt prog K mg Bn newId B initId x n qual [fB n f r1 r2 r3 r4] C D fI) (U : FldTxt K C f)
    (l2 : (iS n).names.lookup n = some .local) (l3 : (iS n).names.lookup ("__class__" : Str) = some .free) (l4 : (iS n).names.lookup ("super" : Str) = some .globalImplicit) (hnd : (n == ("__debug__" : Str)) = false) (hns : (n == ("self" : Str)) = false)
    (hbd : ∀ (q : Str) (p1 p2 : Pos) (b : List Stmt) (doc pm : Value) (an : Option Addr) (cdv ct : Value) (cc : Addr) (e v : Value), bindArgs (ksFn "__init__" q (iA n p1 p2) b (iS n) .none .none doc pm an cdv ct cc) ⟨[e, v], []⟩ = pure [(("self" : Str), e), (n, v)])
    {v : Value} (X : K.In s.heap) (G : Glb mg s.heap) (hlim : s.heap.NoLimit) (hroom : A.depth + 1 < recursionLimit)
    (hq : ∀ h' tk e d, FldMade s.heap h' e C d f v → R (.ok (.ret (.ref e))) { s with heap := h', toks := tk }) :
    codeAny (model prog w) A (.call (.ref C) ⟨[v], []⟩) R s := by
  obtain ⟨nm, q, N, bs, bm, sn, sub, ab, col, dd, k0, k1, k2, k3, k5, hC, hT⟩ := T.cls
  obtain ⟨hp, g, dr, tk, os⟩ := s
  have k : ∀ b o, hp.get? b = some o → ((hp.push (kdv_tup [v])).push (excO C hp.objs.size)).get? b = some o := fun b o e => Heap.get?_push_of_some _ (Heap.get?_push_of_some _ e)
  have hget : ((hp.push (kdv_tup [v])).push (excO C hp.objs.size)).get? (hp.objs.size + 1) = some (excO C hp.objs.size) := by heap_get
  have hnx : K.lookup (hp.objs.size + 1) = none := by
    cases e : K.lookup (hp.objs.size + 1) with
    | none => rfl
    | some o =>
      have z : hp.get? (hp.objs.size + 1) = some o := X _ _ e
      exact absurd (Nat.lt_of_succ_lt (Heap.lt_size z)) (Nat.lt_irrefl _)
  refine PySem.TfKE.call_any FN hT (X _ _ hC) (looks_findIn X T.iC) (fun self => bind_fn X self T.tC) (by show 1 ≤ sizeLine; rw [sizeLine_eq]; omega) ?_
  obtain ⟨hg, mb, hb, hmb⟩ := G
  refine sup_init (s := ⟨(hp.push (kdv_tup [v])).push (excO C hp.objs.size), g, dr, tk, os⟩) KF FB T l2 l3 l4 hnd hns hbd (X.keeps k) ⟨hg.keeps k, mb, hb.keeps k, hmb⟩ (hlim.keeps k) hget hnx ?_ fun env h' tk' t1 m c k' hx hn' ms mn es le => ?_
  · show A.depth + 1 < recursionLimit
    exact hroom
  · obtain ⟨cd, l, hcd, hm, pass, hh⟩ := U.ln
    have X1 : K.In h' := fun a o z => k' a o (fun y => by rw [y, hnx] at z; cases z) (X.keeps k a o z)
    have hk : env.scope.kind = .function := by rw [es]; rfl
    have hln : env.kindOf n = some .local := by unfold Env.kindOf; rw [es]; exact l2
    have hls : env.kindOf ("self" : Str) = some .local := by unfold Env.kindOf; rw [es]; rfl
    refine wpAt_of_wpAny (wpAny_execs_cons (plainObj_wpAny_Assign_Attribute ?_))
    refine wpAny_Name (wpAny_loadName_local hk hln hn' mn (wpAny_Name (wpAny_loadName_local hk hls hn' ms ?_) (by decide))) hnd
    refine set_plain X1 (ox := excO C t1) (od := none) ⟨hx, rfl, rfl, trivial⟩ U.sa ?_
    refine osa_line X1 hx hcd hm pass U.ob hh U.noF (fun h3 tk3 dx k3 dn dne hx3 hn3 => ?_)
    show wpAny _ _ (execs _ _) _ _ _
    have big : hp.objs.size ≤ h'.objs.size := by
      have z := hn'.lt
      have z2 : ((hp.push (kdv_tup [v])).push (excO C hp.objs.size)).objs.size ≤ env.locals := le
      rw [Heap.size_push, Heap.size_push] at z2
      exact Nat.le_of_lt (Nat.lt_of_le_of_lt (Nat.le_trans (Nat.le_trans (Nat.le_succ _) (Nat.le_succ _)) z2) z)
    have old : ∀ b o, hp.get? b = some o → h3.get? b = some o := fun b o z => k3 b o (Nat.ne_of_lt (Nat.lt_succ_of_lt (Heap.lt_size z))) (k' b o (Nat.ne_of_lt (Nat.lt_succ_of_lt (Heap.lt_size z))) (k b o z))
    exact wpAny_execs_nil ⟨rfl, hq h3 tk3 (hp.objs.size + 1) dx ⟨old, Nat.le_succ _, ⟨_, _, hx3, rfl, rfl, rfl, rfl⟩, Nat.le_trans big dn, dne, hn3⟩⟩
end
end TfSF
end PySem

/-! the rules for such an error: made, and its field read in an except suite -/
namespace L2
open PySem PySem.Spec PyProof.Rows
theorem relO_one {v : V} {v' : Value} (r : RelV v v') (g f : Str) : RelO (List.lookup f [(g, v)]) (if f = g then some v' else none) := by
  by_cases hw : f = g
  · subst hw
    rw [if_pos rfl]
    have q : List.lookup f [(f, v)] = some v := by simp [List.lookup]
    rw [q]
    exact r
  · rw [if_neg hw]
    have qw : (f == g) = false := by simpa using hw
    have q2 : List.lookup f [(g, v)] = none := by simp [List.lookup, qw]
    rw [q2]
    trivial
section
variable {X : Cx} {Bn newId B initId initN : String} {bmN : List Value} {x n qual f : Str} {C D fI : Addr} {r1 r2 r3 r4 : Pos}
/-- x(a): a new error of the class at C with the dict {f: a} -/
def tMkF (C : Addr) (f : Str) (ta : TA) : St → Hp → XK → Prop := fun σ H Q => ta σ H fun vs H1 => ∃ v, vs = [v] ∧ ∀ d, H1 d = none → Q (.ref C) (some d) (upd H1 d (.xd [(f, v)]))
theorem pmk_field {a : Expr} {ta : TA} {p pos : Pos} {k : Nat} (KF : PySem.W.KxsFacts B initId) (FB : PySem.TfKE.InitF B initId) (FN : ExcBaseFacts Bn newId initN bmN) (T : PySem.TfS.SupTxt X.prog X.K X.mg Bn newId B initId x n qual [PySem.TfSF.fB n f r1 r2 r3 r4] C D fI) (U : PySem.TfSF.FldTxt X.K C f) (hr : Room k X.A) (ha : PA X [a] ta)
    (l2 : (PySem.TfS.iS n).names.lookup n = some .local) (l3 : (PySem.TfS.iS n).names.lookup ("__class__" : Str) = some .free) (l4 : (PySem.TfS.iS n).names.lookup ("super" : Str) = some .globalImplicit) (hnd : (n == ("__debug__" : Str)) = false) (hns : (n == ("self" : Str)) = false)
    (hbd : ∀ (q : Str) (p1 p2 : Pos) (b : List Stmt) (doc pm : Value) (an : Option Addr) (cdv ct : Value) (cc : Addr) (e v : Value), bindArgs (PySem.W.ksFn "__init__" q (PySem.TfS.iA n p1 p2) b (PySem.TfS.iS n) .none .none doc pm an cdv ct cc) ⟨[e, v], []⟩ = pure [(("self" : Str), e), (n, v)])
    (hg : Gl X x := by rfl) (hdb : (x == ("__debug__" : Str)) = false := by decide)
    (he : starEach (a :: []) X.env = (false, eval a X.env) :: starEach [] X.env := by rfl) (hpl : (backTo pos (starEach [] X.env)).any (·.1) = false := by rfl) :
    PMk X (.Call (.Name x p) [a] [] pos) (tMkF C f ta) := by
  intro pins s σ H Q I h
  refine wpAny_Call_Name_kw (ld_glob I hg T.gC ?_ hdb)
  refine PySem.W.callWith_K (h₀ := X.base) I.ok.mod.kin T.kC (thn (ha.run pos pins s σ H _ I h) fun us s1 hh => ?_) he hpl
  obtain ⟨vs, H1, I1, r1, v, ev, q1⟩ := hh
  subst ev
  refine ⟨I1.kIn, ?_⟩
  cases r1 with
  | cons rv rn =>
    rename_i v' us'
    cases rn
    show wpAny _ _ (call (.ref C) [v']) _ _ _
    have hlim := I1.nolimit
    have G := I1.glb
    obtain ⟨hp, g, dr, tk, os⟩ := s1
    refine wpAny_call (PySem.TfSF.made_field KF FB FN T U l2 l3 l4 hnd hns hbd I1.kIn G hlim (by have := hr.dp; omega) fun h' tk' e d M => ?_)
    show MkP X pins σ Q (.ref e) ⟨h', g, dr, tk', os⟩
    obtain ⟨oe, fv, hoe, hc, hd, hdat, h1⟩ := M.obj
    have hns := M.ns
    obtain ⟨G', g1, g2⟩ := restrict h' fun b => decide (b ≠ e)
    have gk : ∀ b, b ≠ e → G'.get? b = h'.get? b := fun b hb => g1 b (decide_eq_true hb)
    have ge : G'.get? e = none := g2 e (by simp)
    have old : ∀ b o, hp.get? b = some o → G'.get? b = some o := fun b o q => (gk b (Nat.ne_of_lt (Nat.lt_of_lt_of_le (Heap.lt_size q) M.new))).trans (M.keep b o q)
    have ob : ObjOk X.prog X.w (upd H1 d (.xd [(f, v)])) G' d (.xd [(f, v)]) := ⟨_, hns.at (fun o q => (gk d M.dne).trans q), fun y => relO_one rv f y⟩
    have J : Inv X pins σ (upd H1 d (.xd [(f, v)])) ⟨G', g, dr, tk', os⟩ := I1.laid (t' := tk') old M.dbig ob
    refine ⟨e, oe, fv, ⟨G', g, dr, tk', os⟩, _, .ref C, some d, rfl, J, fun b o q => ?_, ge, hoe, ⟨hc, hd⟩, hdat, h1, ?_, rfl, I1.bare, raises_own T.exC T.tyC, q1 d (I1.hok.fresh M.dbig)⟩
    · by_cases hb : b = e
      · have q' : G'.get? b = some o := q
        rw [hb, ge] at q'; cases q'
      · exact (gk b hb).symm.trans q
    · rw [upd_ne (Ne.symm M.dne)]
      exact I1.hok.fresh M.new
/-- what reading the field asks of the class -/
structure FldGet (K : PySem.W.Frag) (C : Addr) (f : Str) : Prop where
  ga : PySem.W.findIn K (.ref C) "__getattribute__" = some (some (.builtin "BaseException.__getattribute__"))
  gg : PySem.W.findIn K (.ref C) "__getattr__" = some none
  ex : PySem.W.subIn K (.ref C) (.type "BaseException") = some true
  hd : PySem.W.hasDictIn K C = true
  noF : PySem.W.findIn K (.ref C) f = some none
/-- e.f, e the error that the suite holds (at a; its class cls, its dict d) -/
def tErrF (C : Addr) (f : Str) (a : Addr) (cls : Value) (d : Option Addr) (te : TE) : TE := fun σ H Q => te σ H fun x H1 => x = .ref a ∧ cls = .ref C ∧ ∃ (dd : Addr) (v : V), d = some dd ∧ H1 dd = some (.xd [(f, v)]) ∧ Q v H1
theorem pe_errF {a : Addr} {oe : Obj} {cls : Value} {d : Option Addr} {pn : List (Addr × Obj)} {e : Expr} {te : TE} {pos : Pos} (T : FldGet X.K C f) (hz : Zc cls d oe) (hf : ∃ vs, oe.data = .fields vs) (he : PE (X.suite a ((a, oe) :: pn)) e te)
    (hb : attributeBase e f X.env (eval e X.env) = eval e X.env := by rfl) : PE (X.suite a ((a, oe) :: pn)) (.Attribute e f pos) (tErrF C f a cls d te) := by
  refine ⟨fun pins s σ H Q I h => ?_⟩
  refine attr_of hb (thn (he.run pins s σ H _ I h) fun u s1 hh => ?_)
  obtain ⟨x, H1, I1, rx, ex, ec, dd, v, ed, ea, q⟩ := hh
  subst ex
  obtain rfl : u = Value.ref a := rx
  subst ec
  subst ed
  obtain ⟨ha, _⟩ := I1.pin (a, oe) (List.mem_append_left _ List.mem_cons_self)
  obtain ⟨vs, hd⟩ := hf
  have hx : ObjOk X.prog X.w H1 s1.heap dd (.xd [(f, v)]) := I1.hok dd _ ea
  obtain ⟨mA, hns, hr⟩ := hx
  obtain ⟨od, ho, hl⟩ := lookIn_ns hns
  have l : List.lookup f [(f, v)] = some v := by simp [List.lookup]
  obtain ⟨u, hu, ru⟩ := RelO.some_of (v := v) (o := mA f) (by rw [← l]; exact hr f)
  have J : PySem.W.InstAt s1.heap a oe C (some od) := ⟨ha, hz.1, by unfold PySem.W.notCls; rw [hd] <;> rfl, by rw [hz.2]; exact ho⟩
  exact HandSPX.exc_get I1.kIn J T.ga T.gg T.ex (PySem.W.findObj_own T.hd T.noF rfl (by rw [hl, hu])) (handed_of ru) ⟨v, H1, I1.tok _, ru, q⟩
end
end L2

/-! o | b, b a value of a built-in type: the own method raises -/
namespace PySem
namespace TfBR
open PySem.W
variable {K : Frag} {C x f : Addr} {ox : Obj} {od : Option Obj} {s : Shared} {A : Around} {E : Value → Shared → Prop}
theorem bin_raises {prog : Program} {w : World} {op : Operator} {b : Value} {tb : String} {r : Bool} {o : Option Value} {Q : Value → Shared → Prop} (X : K.In s.heap) (I : InstAt s.heap x ox C od) (hb : Looks (model prog w) s.heap (typeOf b) (.type tb)) (hc : selfFirst K C = true)
    (hs : findIn K (.ref C) (PySem.dunder op.info.2) = some (some (.ref f))) (hr : findIn K (.ref C) (PySem.dunderR op.info.2) = some none) (hf : isFn K (.ref f) = true) (hR : fillsNumberSlot (.type tb) op.info.2 = pure r) (hsub : subIn K (.type tb) (.ref C) = some false) (hl : typeLookup (.type tb) (PySem.dunderR op.info.2) = pure o)
    (h : wpAny (model prog w) A (call (.ref f) [.ref x, b]) (fun _ _ => False) E s) : wpAny (model prog w) A (binaryOp op (.ref x) b) Q E s := by
  obtain ⟨cd, hcd, hm⟩ := any_some hc
  obtain ⟨rest, hm⟩ : ∃ rest, cd.mro = .ref C :: rest := by
    cases q : cd.mro with
    | nil => rw [q] at hm; cases hm
    | cons a r => rw [q] at hm; exact ⟨r, by rw [List.head?_cons] at hm; cases (beq_iff_eq.mp hm); rfl⟩
  have ne : (Value.ref C == Value.type tb) = false := beq_eq_false_iff_ne.mpr (fun z => by cases z)
  have call : ∀ {Q' : Option Value → Shared → Prop}, wpAny (model prog w) A (tryMethod (.ref x) (PySem.dunder op.info.2) b) Q' E s := fun {Q'} => by
    unfold tryMethod
    exact wpAny_bind (special_fn X I hs (beq_iff_eq.mp hf) (wpAny_mono h (fun v s' hv => hv.elim) fun _ _ e => e))
  have inPy : Looks (model prog w) s.heap (numberSlotInPython (.ref C) op.info.2) true := fun A' Q' E' s' k q => by
    unfold numberSlotInPython
    refine wpAny_bind ((looks_findIn X hs) A' _ E' s' k ?_)
    refine wpAny_bind (wpAny_pure (wpAny_bind ((looks_findIn X hr) A' _ E' s' k ?_)))
    refine wpAny_bind (wpAny_pure ?_)
    exact wpAny_pure q
  unfold binaryOp
  refine wpAny_holding (wpAny_bind ?_)
  unfold binaryOp1
  refine wpAny_bind (I.type.here (wpAny_bind (hb.here (wpAny_bind ((fills_K X hcd hm hs).here ?_)))))
  rw [ne, if_neg Bool.false_ne_true]
  refine wpAny_bind (wpAny_of_eq hR ?_)
  cases r with
  | false =>
    simp only [Bool.and_false, Bool.false_eq_true, if_false, Bool.false_and]
    refine wpAny_bind (wpAny_pure ?_)
    simp only [Bool.false_eq_true, if_false, if_true]
    exact wpAny_bind (m := tryMethod (.ref x) _ b) call
  | true =>
    simp only [Bool.and_self, if_true]
    refine wpAny_bind ((looks_subIn X hsub).here ?_)
    simp only [Bool.false_eq_true, if_false, if_true]
    exact wpAny_bind (inPy.here (wpAny_bind (wpAny_pure (wpAny_bind (wpAny_of_eq hl (wpAny_bind (m := tryMethod (.ref x) _ b) call))))))
end TfBR
end PySem
namespace L2
open PySem PySem.Spec PyProof.Rows
/-- of a built-in type tb, for an operator that C's __op__ refuses -/
structure BinNo (K : PySem.W.Frag) (C : Addr) (op : Operator) (tb : String) : Prop where
  fills : ∃ r, fillsNumberSlot (.type tb) op.info.2 = pure r
  refl : ∃ o, typeLookup (.type tb) (PySem.dunderR op.info.2) = pure o
  sub : PySem.W.subIn K (.type tb) (.ref C) = some false
section
variable {X : Cx} {CX : CXT} {k : Nat} {f C : Addr} {sp : Sp} {E : XK}
/-- a | y, y of a built-in type: the own method raises -/
def rBinR (K : PySem.W.Frag) (C : Addr) (op : Operator) (sp : Sp) (E : XK) : R2 := fun x y H _ => ∃ a dx fs tb, x = .ref a ∧ H a = some (.ins C dx fs) ∧ TyX K H y (.type tb) ∧ BinNo K C op tb ∧ sp [.ref a, y] H (fun _ _ => False) E
theorem op_binR {op : Operator} (hs : PySem.W.findIn X.K (.ref C) (PySem.dunder op.info.2) = some (some (.ref f))) (hr' : PySem.W.findIn X.K (.ref C) (PySem.dunderR op.info.2) = some none) (hf : PySem.W.isFn X.K (.ref f) = true) (hc : PySem.W.selfFirst X.K C = true) (F : FnR X.prog X.w X.K X.mg X.base CX k f sp) (hr : Room k X.A) (hx : Passes CX X E) : OpR X (binaryOp op) (rBinR X.K C op sp E) := by
  intro pins s σ H x y u v Q I rx ry h
  obtain ⟨a, dx, fs, tb, rfl, ha, ty, ⟨⟨r, hR⟩, ⟨o, hl⟩, hsub⟩, h⟩ := h
  cases rx
  obtain ⟨ox, od, J⟩ := ins_at I ha
  obtain ⟨Pk, kx, pk, _⟩ := kit_of I ry ty
  refine PySem.TfBR.bin_raises I.kIn J (kx.ty _ _ I.kIn pk) hc hs hr' hf hR hsub hl (wpAny_mono (run_sub F (sub0 hr) hx I (vs := [.ref a, y]) (.cons rfl (.cons ry .nil)) h) (fun v s' q => ?_) fun _ _ z => z)
  obtain ⟨_, _, _, _, q⟩ := q
  exact q
end
end L2

/-! several except clauses, with a name or without -/
namespace TfT
open PySem PySem.Spec PyProof.Rows L2
/-- a clause: its class, the slot of its name, the reading of its suite -/
structure Cl where
  c : Value
  n : Option Nat
  ts : Addr → Value → Option Addr → TS
/-- the ends of a suite: the name goes -/
def endsOf (n : Option Nat) (D : Ends) : Ends :=
  match n with
  | none => D
  | some i => ⟨fun σ H => D.nx (σ.set i none) H, D.rt, fun σ H => D.bk (σ.set i none) H, fun σ H => D.ct (σ.set i none) H⟩
def stOf (n : Option Nat) (a : Addr) (σ : L2.St) : L2.St :=
  match n with
  | none => σ
  | some i => σ.set i (some (.ref a))
/-- what the clauses ask of an error -/
def wCls (K : PySem.W.Frag) (Wo : WX) (D : Ends) : List Cl → WX
  | [] => Wo
  | k :: r => fun cls d σ H => ∃ b, PySem.W.exmOne K cls k.c = some b ∧ (b = true → ∀ a, H a = none → k.ts a cls d (endsOf k.n D) (stOf k.n a σ) H) ∧ (b = false → wCls K Wo D r cls d σ H)
/-- an error at a has come to the clauses -/
def Air (X : Cx) (pins : List (Addr × Obj)) (a : Addr) (cls : Value) (d : Option Addr) (σ : L2.St) (H : Hp) (s : Shared) : Prop :=
  ∃ (B : Heap) (z : Shared), Inv X pins σ H z ∧ (∀ b o, z.heap.get? b = some o → b ∉ frs X.stack → B.get? b = some o) ∧ z.heap.UpToSlots s.heap ∧ HandSPX.FlyingZ B (X.env :: X.outer) a (Zc cls d) s.heap ∧ H a = none ∧ s.os = z.os ∧ AllBare s.gens
section
variable {X : Cx} {pins : List (Addr × Obj)} {a : Addr} {cls : Value} {d : Option Addr} {σ : L2.St} {H : Hp} {s : Shared}
theorem Air.up {h' : Heap} (r : Air X pins a cls d σ H s) (f : ∀ B, HandSPX.FlyingZ B (X.env :: X.outer) a (Zc cls d) s.heap → HandSPX.FlyingZ B (X.env :: X.outer) a (Zc cls d) h') (u : s.heap.UpToSlots h') : Air X pins a cls d σ H { s with heap := h' } := by
  obtain ⟨B, z, i, nb, up, fl, na, os, ag⟩ := r
  exact ⟨B, z, i, nb, up.trans u, f B fl, na, os, ag⟩
/-- the suite may begin -/
theorem Air.suite (r : Air X pins a cls d σ H s) (hf : X.env.frame = some X.env.locals) : ∃ oe, s.heap.get? a = some oe ∧ Zc cls d oe ∧ (∃ vs, oe.data = .fields vs) ∧ H a = none ∧ Inv X pins σ H s ∧ Inv (X.suite a ((a, oe) :: (X.pn ++ pins))) [] σ H s := by
  obtain ⟨B, z, i, nb, up, fl, na, os, ag⟩ := r
  have j : Inv X pins σ H s := i.landed nb fl.1 up os ag
  obtain ⟨oe, vs, g, hz, hd⟩ := fl.there
  have nf : a ∉ frs (X.env :: X.outer) := by
    intro hm
    obtain ⟨_, o', g', q⟩ := Heap.FunFrames.mem fl.2.2.1 hm
    exact q vs (by rw [Option.some.inj (g'.symm.trans g)]; exact hd)
  refine ⟨oe, g, hz, ⟨vs, hd⟩, na, j, j.suite g hd na ?_ ?_⟩
  · rintro rfl
    exact nf (List.mem_filterMap.mpr ⟨_, List.mem_cons_self, hf⟩)
  · intro hm
    obtain ⟨e, he, q⟩ := List.mem_filterMap.mp hm
    exact nf (List.mem_filterMap.mpr ⟨e, List.mem_cons_of_mem _ he, q⟩)
/-- a clause by what it does with an error -/
def Does (X : Cx) (h : ExceptHandler) (k : Cl) : Prop :=
  ∀ (pins : List (Addr × Obj)) (a : Addr) (cls : Value) (d : Option Addr) (σ : L2.St) (H : Hp) (s : Shared) (D : Ends) (rest : List ExceptHandler) (b : Bool), Air X pins a cls d σ H s → PySem.W.exmOne X.K cls k.c = some b →
    (b = true → k.ts a cls d (endsOf k.n D) (stOf k.n a σ) H) → (b = false → wpAny (model X.prog X.w) X.A (handleBy (.ref a) X.env rest) (SP X pins D) X.xe s) →
    wpAny (model X.prog X.w) X.A (handleBy (.ref a) X.env (h :: rest)) (SP X pins D) X.xe s
/-- the test of a clause -/
theorem tested {x : Str} {c : Value} {np : Pos} {b : Bool} {Q : Bool → Shared → Prop} {E1 E2 : Value → Shared → Prop} (hf : X.env.frame = some X.env.locals) (r : Air X pins a cls d σ H s) (hc : Names X x c) (e : PySem.W.exmOne X.K cls c = some b) (q : Q b s) :
    wpAny (model X.prog X.w) (X.A.mark (some (.ref a))) (eval (.Name x np) X.env) (fun c' s1 => wpAny (model X.prog X.w) (X.A.mark (some (.ref a))) (excMatches (.ref a) c') Q E2 s1) E1 s := by
  obtain ⟨oe, g, hz, hd, na, j, js⟩ := r.suite hf
  have lk := PySem.W.exm_one (M := model X.prog X.w) (e := a) j.kIn (fun _ _ _ _ k q => wpAny_typeOf_ref (k _ _ g) (by rw [hz.1]; exact q)) e
  obtain ⟨h1, h2, h3⟩ := hc
  rcases h3 with h3 | ⟨h3, h4, h5⟩
  · exact ld_glob js h1 h3 (lk.here q) h2
  · exact ld_blt js h1 h3 h4 (lk.here q) h5 h2
theorem does_plain {x : Str} {c : Value} {np pos : Pos} {b₀ : Stmt} {ss : List Stmt} {ts : Addr → Value → Option Addr → TS} (hf : X.env.frame = some X.env.locals) (hc : Names X x c)
    (hsu : ∀ (a : Addr) (oe : Obj) (cls : Value) (d : Option Addr) (pn : List (Addr × Obj)), Zc cls d oe → (∃ vs, oe.data = .fields vs) → PSs (X.suite a ((a, oe) :: pn)) (b₀ :: ss) (ts a cls d)) : Does X (.ExceptHandler (some (.Name x np)) none (b₀ :: ss) pos) ⟨c, none, ts⟩ := by
  intro pins a cls d σ H s D rest b r e y n
  refine wpAny_handleBy_cons (codeAny_handlers_test (tested hf r hc e ?_)) (fun z => by cases z)
  cases b with
  | false => exact n rfl
  | true =>
    obtain ⟨B, z, i, nb, up, fl, na, os, ag⟩ := id r
    refine codeAny_handlers_suite (HandSPX.lands_againZ fl fun h' fl' up' => ?_)
    obtain ⟨oe, g, hz, hd, na, j, js⟩ := Air.suite (s := { s with heap := h' }) ⟨B, z, i, nb, up.trans up', fl', na, os, ag⟩ hf
    refine wpAny_mono ((hsu a oe cls d _ hz hd).run [] _ _ _ _ js (y rfl)) (fun f s6 q => ?_) (fun _ _ q => False.elim q)
    cases f with
    | ret u =>
      obtain ⟨_, _, _, k, v, w⟩ := q
      exact ⟨_, _, _, k.unsuite j.ok, v, w⟩
    | next =>
      obtain ⟨_, _, k, w⟩ := q
      exact ⟨_, _, k.unsuite j.ok, w⟩
    | brk =>
      obtain ⟨_, _, k, w⟩ := q
      exact ⟨_, _, k.unsuite j.ok, w⟩
    | cont =>
      obtain ⟨_, _, k, w⟩ := q
      exact ⟨_, _, k.unsuite j.ok, w⟩
theorem does_as {x m : Str} {c : Value} {l : Nat} {np pos : Pos} {b₀ : Stmt} {ss : List Stmt} {ts : Addr → Value → Option Addr → TS} (hf : X.env.frame = some X.env.locals) (hN : X.N.Nodup) (hi : X.N[l]? = some m) (hl : X.env.kindOf m = some .local) (hc : Names X x c)
    (hsu : ∀ (a : Addr) (oe : Obj) (cls : Value) (d : Option Addr) (pn : List (Addr × Obj)), Zc cls d oe → (∃ vs, oe.data = .fields vs) → PSs (X.suite a ((a, oe) :: pn)) (b₀ :: ss) (ts a cls d)) : Does X (.ExceptHandler (some (.Name x np)) (some m) (b₀ :: ss) pos) ⟨c, some l, ts⟩ := by
  intro pins a cls d σ H s D rest b r e y n
  refine wpAny_handleBy_cons (codeAny_handlers_test (tested hf r hc e ?_)) (fun z => by cases z)
  cases b with
  | false => exact n rfl
  | true =>
    obtain ⟨B, z, i, nb, up, fl, na, os, ag⟩ := id r
    refine codeAny_handlers_suite_as (HandSPX.lands_againZ fl fun h' fl' up' => ?_)
    obtain ⟨oe, g, hz, hd, na, j, js⟩ := Air.suite (s := { s with heap := h' }) ⟨B, z, i, nb, up.trans up', fl', na, os, ag⟩ hf
    refine store_ok (X := X.suite a ((a, oe) :: (X.pn ++ pins))) (v := .ref a) js hN hi (.inl hl) rfl (fun s5 j5 => ?_) (.inr hl)
    refine wpAny_mono ((hsu a oe cls d _ hz hd).run [] s5 _ _ _ j5 (y rfl)) (fun f s6 q => ?_) (fun _ _ q => False.elim q)
    cases f with
    | ret u =>
      obtain ⟨_, _, _, k, v, w⟩ := q
      exact gone_ok (k.unsuite j.ok) hN hi hl fun s7 k7 => ⟨_, _, _, k7, v, w⟩
    | next =>
      obtain ⟨_, _, k, w⟩ := q
      exact gone_ok (k.unsuite j.ok) hN hi hl fun s7 k7 => ⟨_, _, k7, w⟩
    | brk =>
      obtain ⟨_, _, k, w⟩ := q
      exact gone_ok (k.unsuite j.ok) hN hi hl fun s7 k7 => ⟨_, _, k7, w⟩
    | cont =>
      obtain ⟨_, _, k, w⟩ := q
      exact gone_ok (k.unsuite j.ok) hN hi hl fun s7 k7 => ⟨_, _, k7, w⟩
inductive All (X : Cx) : List ExceptHandler → List Cl → Prop
  | nil : All X [] []
  | cons {h : ExceptHandler} {k : Cl} {hs : List ExceptHandler} {ks : List Cl} (p : Does X h k) (r : All X hs ks) : All X (h :: hs) (k :: ks)
theorem All.run {hs : List ExceptHandler} {ks : List Cl} {Wo : WX} {D : Ends} (al : All X hs ks) (hst : X.stack = X.env :: X.outer) (hf : X.env.frame = some X.env.locals) (tk : Takes X Wo) (r : Air X pins a cls d σ H s) (w : wCls X.K Wo D ks cls d σ H) : wpAny (model X.prog X.w) X.A (handleBy (.ref a) X.env hs) (SP X pins D) X.xe s := by
  induction al with
  | cons p _ ih =>
    obtain ⟨b, e, y, n⟩ := w
    obtain ⟨_, _, _, _, _, _, na, _⟩ := id r
    exact p pins a cls d σ H s D _ b r e (fun h => y h a na) fun h => ih (n h)
  | nil =>
    obtain ⟨B, z, i, nb, up, fl, na, os, ag⟩ := r
    refine wpAny_handleBy_nil ?_
    obtain ⟨oe, vs, t, _, _, g, _, hd, h1, _⟩ := fl.2.2.2
    unfold PySem.passOn
    refine wpAny_bind (wpAny_field g hd h1 ?_)
    rw [if_neg (show ¬ ((Value.ref t == Value.none) = true) by simp)]
    have last : wpAny (model X.prog X.w) X.A (setFlight (.ref a) X.env.frame) (fun _ s4 => wpAny (model X.prog X.w) X.A (throw (.ref a) : Sem Flow) (SP X pins D) X.xe s4) X.xe s := by
      rw [hf]
      exact HandSPX.setFlight_upZ fl fun h4 k4 u4 => wpAny_throw (tk _ _ ⟨a, B, z, pins, σ, H, cls, d, rfl, i, nb, up.trans u4, .inr (.inr (by rw [hst]; exact k4)), na, os, ag, w⟩)
    first
      | exact wpAny_bind last
      | exact wpAny_bind (wpAny_pure (wpAny_bind last))
/-- try: body / except ..: .. / except .. as e: .. -/
theorem ps_try_cls {body : List Stmt} {h₀ : ExceptHandler} {hs : List ExceptHandler} {ks : List Cl} {tb : WX → TS} {Wo : WX} {pos : Pos} (hst : X.stack = X.env :: X.outer) (hf : X.env.frame = some X.env.locals) (tk : Takes X Wo)
    (hb : ∀ (W : WX) (pn : List (Addr × Obj)) (xe : Value → Shared → Prop), Takes (X.tr pn xe) W → PassesOwn (model X.prog X.w) X.A X.env xe → PSs (X.tr pn xe) body (tb W)) (al : All X (h₀ :: hs) ks) : PS X (.Try body (h₀ :: hs) [] [] pos) (fun D σ H => tb (wCls X.K Wo D ks) D σ H) := by
  refine ⟨fun pins s σ H D I h => wpAny_Try_except ?_⟩
  have ok := I.ok
  refine wpAny_mono ((hb (wCls X.K Wo D ks) (X.pn ++ pins) _ (fun u s' x => ?_) PassesOwn.looking).run [] s σ H D (I.toTry _) h) (fun f s1 q => ?_) (fun _ _ q => q)
  · obtain ⟨a, B, z, _, σ', H', cls, d, rfl, j', nb, up, sky, na, os, ag, w⟩ := x
    refine Sky.land Zc.steady (by rw [ok.frames, hst]) hf (by rw [← hst]; exact sky) fun h3 fl3 up3 => ?_
    exact al.run hst hf tk ⟨B, z, j'.ofTry ok, nb, up.trans up3, fl3, na, os, ag⟩ w
  · cases f with
    | ret u =>
      obtain ⟨_, _, _, k, v, w⟩ := q
      exact ⟨_, _, _, k.ofTry ok, v, w⟩
    | next =>
      obtain ⟨_, _, k, w⟩ := q
      exact wpAny_execs_nil ⟨_, _, k.ofTry ok, w⟩
    | brk =>
      obtain ⟨_, _, k, w⟩ := q
      exact ⟨_, _, k.ofTry ok, w⟩
    | cont =>
      obtain ⟨_, _, k, w⟩ := q
      exact ⟨_, _, k.ofTry ok, w⟩
end
end TfT

/-! what stays: all but tables and dice -/
namespace Tf
open PySem PySem.Spec PyProof.Rows L2 LamX
/-- no table and no dice -/
def Solid (o : HO) : Prop := (∀ ps, o ≠ .tbl ps) ∧ ∀ x y z : Int, o ≠ .lst [.int x, .int y, .int z]
def Kept (H H' : Hp) : Prop := ∀ b o, H b = some o → Solid o → H' b = some o
/-- all but tables and what stands at d -/
def KpD (d : Addr) (H H' : Hp) : Prop := ∀ b o, b ≠ d → H b = some o → (∀ ps, o ≠ .tbl ps) → H' b = some o
theorem Kept.refl (H : Hp) : Kept H H := fun _ _ h _ => h
theorem Kept.trans {H H1 H2 : Hp} (a : Kept H H1) (b : Kept H1 H2) : Kept H H2 := fun c o h s => b c o (a c o h s) s
theorem KpD.refl (d : Addr) (H : Hp) : KpD d H H := fun _ _ _ h _ => h
theorem KpD.trans {d : Addr} {H H1 H2 : Hp} (a : KpD d H H1) (b : KpD d H1 H2) : KpD d H H2 := fun c o n h s => b c o n (a c o n h s) s
theorem dice_is {H : Hp} {d : Addr} (h : Dice H d) : ∃ x y z : Int, H d = some (.lst [.int x, .int y, .int z]) := let ⟨a, b, c, _, e⟩ := h; ⟨a, b, c, e⟩
theorem KpD.kept {d : Addr} {H H' : Hp} (k : KpD d H H') (h : Dice H d) : Kept H H' := fun b o e s => k b o (fun z => by
  subst z
  obtain ⟨x, y, z, e2⟩ := dice_is h
  exact s.2 x y z (Option.some.inj (e.symm.trans e2))) e s.1
end Tf
namespace L2
open PySem PySem.Spec PyProof.Rows LamX Tf
theorem Same.kept {H H' : Hp} (s : Same H H') : Kept H H' := fun b o h _ => s b o h
theorem Same.kpd {d : Addr} {H H' : Hp} (s : Same H H') : KpD d H H' := fun b o _ h _ => s b o h
theorem Nr.kpd {d : Addr} {H H' : Hp} (s : Nr d H H') : KpD d H H' := fun b o n h _ => s b o n h
end L2
namespace LamX
open PySem PySem.Spec PyProof.Rows L2 Tf
theorem ExtN.kept {H H' : Hp} (s : ExtN H H') : Kept H H' := fun b o h n => s b o h n.1
theorem ExtN.kpd {d : Addr} {H H' : Hp} (s : ExtN H H') : KpD d H H' := fun b o _ h n => s b o h n
theorem Tabs.same {T : List (Addr × Str)} {H H' : Hp} (t : Tabs T H) (s : Same H H') : Tabs T H' := t.ext s
/-- the dice may change -/
theorem Tabs.nr {T : List (Addr × Str)} {H H' : Hp} {d : Addr} (t : Tabs T H) (n : Nr d H H') (h : Dice H d) : Tabs T H' := fun p hp => by
  obtain ⟨ps, e1, e2, e3⟩ := t p hp
  obtain ⟨x, y, z, ed⟩ := dice_is h
  refine ⟨ps, n _ _ (fun c => ?_) e1, e2, fun pos cv hc => ?_⟩
  · rw [c, ed] at e1
    cases e1
  · obtain ⟨c, f1, f2⟩ := e3 pos cv hc
    refine ⟨c, f1, n _ _ (fun z => ?_) f2⟩
    rw [z, ed] at f2
    have f3 := Option.some.inj f2
    unfold CodeO at f3
    cases f3
/-- a list may change -/
theorem Tabs.lst {T : List (Addr × Str)} {H : Hp} {l : Addr} {xs : List V} {o : HO} (t : Tabs T H) (h : H l = some (.lst xs)) : Tabs T (upd H l o) := fun p hp => by
  obtain ⟨ps, e1, e2, e3⟩ := t p hp
  refine ⟨ps, ?_, e2, fun pos cv hc => ?_⟩
  · rw [upd_ne (fun c => ?_)]
    · exact e1
    · rw [c, h] at e1
      cases e1
  · obtain ⟨c, f1, f2⟩ := e3 pos cv hc
    refine ⟨c, f1, ?_⟩
    rw [upd_ne (fun z => ?_)]
    · exact f2
    · rw [z, h] at f2
      have f3 := Option.some.inj f2
      unfold CodeO at f3
      cases f3
end LamX

/-! repr of nested data: lists, tuples, dicts -/
namespace TfR
open PySem PySem.Spec PyProof.Rows L2
def keyD : Key → PyData
  | .inl i => .int i
  | .inr x => .str x
mutual
/-- what is tracked at v reads as d -/
inductive Rp (H : Hp) : V → PyData → Prop
  | non : Rp H .non .none
  | bl (b : Bool) : Rp H (.bl b) (.bool b)
  | int (i : Int) : Rp H (.int i) (.int i)
  | str (z : Str) : Rp H (.str z) (.str z)
  | lst {a : Addr} {xs : List V} {ds : List PyData} (h : H a = some (.lst xs)) (r : RpAll H xs ds) : Rp H (.ref a) (.list ds)
  | tup {a : Addr} {xs : List V} {ds : List PyData} (h : H a = some (.tup xs)) (r : RpAll H xs ds) : Rp H (.ref a) (.tuple ds)
  | dct {a : Addr} {kvs : List (Key × V)} {ps : List (PyData × PyData)} (h : H a = some (.dK kvs)) (r : RpKv H kvs ps) : Rp H (.ref a) (.dict ps)
inductive RpAll (H : Hp) : List V → List PyData → Prop
  | nil : RpAll H [] []
  | cons {x : V} {d : PyData} {xs : List V} {ds : List PyData} (h : Rp H x d) (r : RpAll H xs ds) : RpAll H (x :: xs) (d :: ds)
inductive RpKv (H : Hp) : List (Key × V) → List (PyData × PyData) → Prop
  | nil : RpKv H [] []
  | cons {k : Key} {x : V} {d : PyData} {kvs : List (Key × V)} {ps : List (PyData × PyData)} (h : Rp H x d) (r : RpKv H kvs ps) : RpKv H ((k, x) :: kvs) ((keyD k, d) :: ps)
end
/-- all but tables may go on: lists, tuples, dicts -/
def Dat (o : HO) : Prop := (∃ xs, o = .lst xs) ∨ (∃ xs, o = .tup xs) ∨ ∃ kvs, o = .dK kvs
mutual
theorem Rp.ext {H H' : Hp} (e : ∀ b o, H b = some o → Dat o → H' b = some o) : ∀ {v : V} {d : PyData}, Rp H v d → Rp H' v d
  | _, _, .non => .non
  | _, _, .bl b => .bl b
  | _, _, .int i => .int i
  | _, _, .str z => .str z
  | _, _, .lst h r => .lst (e _ _ h (.inl ⟨_, rfl⟩)) (RpAll.ext e r)
  | _, _, .tup h r => .tup (e _ _ h (.inr (.inl ⟨_, rfl⟩))) (RpAll.ext e r)
  | _, _, .dct h r => .dct (e _ _ h (.inr (.inr ⟨_, rfl⟩))) (RpKv.ext e r)
theorem RpAll.ext {H H' : Hp} (e : ∀ b o, H b = some o → Dat o → H' b = some o) : ∀ {xs : List V} {ds : List PyData}, RpAll H xs ds → RpAll H' xs ds
  | _, _, .nil => .nil
  | _, _, .cons h r => .cons (Rp.ext e h) (RpAll.ext e r)
theorem RpKv.ext {H H' : Hp} (e : ∀ b o, H b = some o → Dat o → H' b = some o) : ∀ {xs : List (Key × V)} {ds : List (PyData × PyData)}, RpKv H xs ds → RpKv H' xs ds
  | _, _, .nil => .nil
  | _, _, .cons h r => .cons (Rp.ext e h) (RpKv.ext e r)
end
/-- its text is known -/
def RK (P : Program) (w : World) (h : Heap) (u : Value) (d : PyData) : Prop := (∃ as, Reads h u d as) ∧ ∃ bs, ReadAtMost h d.depth bs ∧ ReprK P w bs h d.depth u d.shown
def RKs (P : Program) (w : World) (h : Heap) (us : List Value) (ds : List PyData) : Prop := (∃ as, ReadsAll h us ds as) ∧ ∃ bs, ReadAtMost h (PyData.depthAll ds) bs ∧ ReprAllK P w bs h (PyData.depthAll ds) us (PyData.shownAll ds)
section
variable {P : Program} {w : World} {h : Heap}
theorem RKs.nil : RKs P w h [] [] := ⟨⟨_, .nil⟩, [], fun _ z => (nomatch z), by simp only [PyData.shownAll]; exact .nil⟩
theorem RKs.cons {u : Value} {d : PyData} {us : List Value} {ds : List PyData} (a : RK P w h u d) (b : RKs P w h us ds) : RKs P w h (u :: us) (d :: ds) := by
  obtain ⟨⟨as, ra⟩, xs, m1, k1⟩ := a
  obtain ⟨⟨bs, rb⟩, ys, m2, k2⟩ := b
  have l1 : d.depth ≤ PyData.depthAll (d :: ds) := by simp only [PyData.depthAll]; exact Nat.le_max_left _ _
  have l2 : PyData.depthAll ds ≤ PyData.depthAll (d :: ds) := by simp only [PyData.depthAll]; exact Nat.le_max_right _ _
  refine ⟨⟨_, .cons ra rb⟩, xs ++ ys, (m1.mono l1).append (m2.mono l2), ?_⟩
  rw [show PyData.shownAll (d :: ds) = d.shown :: PyData.shownAll ds by simp only [PyData.shownAll]]
  exact .cons ((k1.more fun z hz => List.mem_append.mpr (.inl hz)).level_le l1) (k2.more_le (fun z hz => List.mem_append.mpr (.inr hz)) l2)
theorem atom {u : Value} {d : PyData} (r : Reads h u d []) (hs : d.showable = true) (hd : d.hasDict = false) (hz : d.shown.length ≤ sizeLine) : RK P w h u d := ⟨⟨_, r⟩, ReprK.of_reads r hs (fun c => by rw [hd] at c; cases c) hz⟩
theorem len_of {u : List Value} {ds : List PyData} : RKs P w h u ds → (PyData.shownAll ds).length = u.length := fun ⟨_, _, _, k⟩ => k.length_eq
end
section
variable {X : Cx} {pins : List (Addr × Obj)} {σ : L2.St} {H : Hp} {s : Shared}
mutual
theorem Rp.rk (I : Inv X pins σ H s) : ∀ {v : V} {d : PyData}, Rp H v d → ∀ {u : Value}, RelV v u → d.showable = true → d.shown.length ≤ sizeLine → RK X.prog X.w s.heap u d
  | _, _, .non, u, r, hs, hz => by
    obtain rfl : u = Value.none := r
    exact atom .none hs (by simp [PyData.hasDict]) hz
  | _, _, .bl b, u, r, hs, hz => by
    obtain rfl : u = Value.bool b := r
    exact atom (.bool b) hs (by simp [PyData.hasDict]) hz
  | _, _, .int i, u, r, hs, hz => by
    obtain ⟨t, rfl⟩ := r
    exact atom (.int i t) hs (by simp [PyData.hasDict]) hz
  | _, _, .str z, u, r, hs, hz => by
    obtain ⟨t, rfl⟩ := r
    exact atom (.str z t) hs (by simp [PyData.hasDict]) hz
  | _, _, .lst (a := a) (xs := xs) (ds := ds) h al, u, r, hs, hz => by
    obtain rfl : u = Value.ref a := r
    obtain ⟨_, its, n, rv, g⟩ : ObjOk X.prog X.w H s.heap a (.lst xs) := I.hok a _ h
    have hz' : (listText (PyData.shownAll ds)).length ≤ sizeLine := by simpa only [PyData.shown] using hz
    obtain ⟨⟨as, ra⟩, bs, hb, hk⟩ := RpAll.rk I al rv (by simpa [PyData.showable] using hs) fun t ht => Nat.le_trans (listText_mem_le ht) hz'
    have rd : Reads s.heap (.ref a) (.list ds) (a :: as) := .list g rfl rfl (by simpa using ra)
    have dp : PyData.depthAll ds < PyData.depth (.list ds) := by simp only [PyData.depth]; omega
    have na := not_mem_of_deeper rd dp hb
    refine ⟨⟨_, rd⟩, a :: bs, ReadAtMost.cons rd (Nat.le_of_lt dp) hb, ?_⟩
    simp only [PyData.depth, PyData.shown]
    cases its with
    | nil =>
      have e0 : PyData.shownAll ds = [] := List.eq_nil_of_length_eq_zero hk.length_eq
      rw [e0, listText_nil]
      exact .listEmpty g rfl rfl
    | cons y l => exact .list g rfl rfl na (by simpa using hk.length_eq) fun i z e => hk.item i z (by simpa using e)
  | _, _, .tup (a := a) (xs := xs) (ds := ds) h al, u, r, hs, hz => by
    obtain rfl : u = Value.ref a := r
    obtain ⟨_, its, rv, o, g, gc, n, gd⟩ : ObjOk X.prog X.w H s.heap a (.tup xs) := I.hok a _ h
    have hz' : (tupleText (PyData.shownAll ds)).length ≤ sizeLine := by simpa only [PyData.shown] using hz
    obtain ⟨⟨as, ra⟩, bs, hb, hk⟩ := RpAll.rk I al rv (by simpa [PyData.showable] using hs) fun t ht => Nat.le_trans (tupleText_mem_le ht) hz'
    have rd : Reads s.heap (.ref a) (.tuple ds) as := .tuple g gc gd (by simpa using ra)
    have dp : PyData.depthAll ds < PyData.depth (.tuple ds) := by simp only [PyData.depth]; omega
    refine ⟨⟨_, rd⟩, a :: bs, ReadAtMost.cons rd (Nat.le_of_lt dp) hb, ?_⟩
    simp only [PyData.depth, PyData.shown]
    exact .tuple g gc gd (not_mem_of_deeper rd dp hb) (by simpa using hk)
  | _, _, .dct (a := a) (kvs := kvs) (ps := ps) h al, u, r, hs, hz => by
    obtain rfl : u = Value.ref a := r
    obtain ⟨_, sm, vs, rv, o, es, ep, g, gx, gd, gk, gp, gn⟩ : ObjOk X.prog X.w H s.heap a (.dK kvs) := I.hok a _ h
    have hz' : (dictText (PyData.shownKv ps)).length ≤ sizeLine := by simpa only [PyData.shown] using hz
    obtain ⟨s1, s2⟩ := PyData.showableKv_split ps (by simpa [PyData.showable] using hs)
    obtain ⟨⟨⟨as, ra⟩, b1, m1, k1⟩, ⟨bs, rb⟩, b2, m2, k2⟩ := RpKv.rk I al rv gp s1 s2 (fun t ht => let ⟨_, hp, hl⟩ := PyData.shownKv_key_le ps t ht; Nat.le_trans hl (Nat.le_trans (dictText_mem_le hp) hz')) (fun t ht => let ⟨_, hp, hl⟩ := PyData.shownKv_val_le ps t ht; Nat.le_trans hl (Nat.le_trans (dictText_mem_le hp) hz'))
    have rd : Reads s.heap (.ref a) (.dict ps) (a :: as ++ bs) := .dict g gx.1 gd ra rb
    have mb := (m1.mono (PyData.depthAll_keys_le ps)).append (m2.mono (PyData.depthAll_vals_le ps))
    have dp : PyData.depthKv ps < PyData.depth (.dict ps) := by simp only [PyData.depth]; omega
    refine ⟨⟨_, rd⟩, a :: (b1 ++ b2), ReadAtMost.cons rd (Nat.le_of_lt dp) mb, ?_⟩
    simp only [PyData.depth, PyData.shown, PyData.shownKv_eq]
    exact .dict g gx.1 gd sm (not_mem_of_deeper rd dp mb) (.of_two es.toList _ _ (k1.more_le (fun z hz => List.mem_append.mpr (.inl hz)) (PyData.depthAll_keys_le ps)) (k2.more_le (fun z hz => List.mem_append.mpr (.inr hz)) (PyData.depthAll_vals_le ps)))
theorem RpAll.rk (I : Inv X pins σ H s) : ∀ {xs : List V} {ds : List PyData}, RpAll H xs ds → ∀ {us : List Value}, Vals xs us → PyData.showableAll ds = true → (∀ t ∈ PyData.shownAll ds, t.length ≤ sizeLine) → RKs X.prog X.w s.heap us ds
  | _, _, .nil, _, .nil, _, _ => .nil
  | _, _, .cons (d := d) (ds := ds) h r, _, .cons v vs, hs, hz => by
    have hs' : d.showable = true ∧ PyData.showableAll ds = true := by simpa [PyData.showableAll] using hs
    rw [show PyData.shownAll (d :: ds) = d.shown :: PyData.shownAll ds by simp only [PyData.shownAll]] at hz
    exact .cons (Rp.rk I h v hs'.1 (hz _ List.mem_cons_self)) (RpAll.rk I r vs hs'.2 fun t ht => hz t (List.mem_cons_of_mem _ ht))
theorem RpKv.rk (I : Inv X pins σ H s) : ∀ {kvs : List (Key × V)} {ps : List (PyData × PyData)}, RpKv H kvs ps → ∀ {vs : List (Key × Value)} {es : List DictEntry}, KV kvs vs → Pairs (mixKind X.prog X.w) es vs → PyData.showableAll (ps.map (·.1)) = true → PyData.showableAll (ps.map (·.2)) = true →
    (∀ t ∈ PyData.shownAll (ps.map (·.1)), t.length ≤ sizeLine) → (∀ t ∈ PyData.shownAll (ps.map (·.2)), t.length ≤ sizeLine) → RKs X.prog X.w s.heap (es.map (·.key)) (ps.map (·.1)) ∧ RKs X.prog X.w s.heap (es.map (·.val)) (ps.map (·.2))
  | _, _, .nil, _, _, .nil, .nil, _, _, _, _ => ⟨.nil, .nil⟩
  | _, _, .cons (k := k) (d := d) (ps := ps) h r, _, _, .cons v vs, .cons (e := e) ik iv pr, s1, s2, z1, z2 => by
    have s1' : (keyD k).showable = true ∧ PyData.showableAll (ps.map (·.1)) = true := by simpa [PyData.showableAll] using s1
    have s2' : d.showable = true ∧ PyData.showableAll (ps.map (·.2)) = true := by simpa [PyData.showableAll] using s2
    rw [show PyData.shownAll (((keyD k, d) :: ps).map (·.1)) = (keyD k).shown :: PyData.shownAll (ps.map (·.1)) by simp only [List.map_cons, PyData.shownAll]] at z1
    rw [show PyData.shownAll (((keyD k, d) :: ps).map (·.2)) = d.shown :: PyData.shownAll (ps.map (·.2)) by simp only [List.map_cons, PyData.shownAll]] at z2
    obtain ⟨q1, q2⟩ := RpKv.rk I r vs pr s1'.2 s2'.2 (fun t ht => z1 t (List.mem_cons_of_mem _ ht)) (fun t ht => z2 t (List.mem_cons_of_mem _ ht))
    refine ⟨.cons ?_ q1, .cons (Rp.rk I h (by show RelV _ e.val; rw [iv]; exact v.2) s2'.1 (z2 _ List.mem_cons_self)) q2⟩
    have e1 := v.1
    rw [← e1] at ik
    have hz1 := z1 _ List.mem_cons_self
    rcases keyIs_shape ik with ⟨i, t, ek, ev⟩ | ⟨x, t, ek, ev⟩
    · have ek' : k = .inl i := ek
      subst ek'
      show RK _ _ _ e.key (keyD (.inl i))
      rw [ev]
      exact atom (.int i t) s1'.1 (by show PyData.hasDict (.int i) = false; simp [PyData.hasDict]) hz1
    · have ek' : k = .inr x := ek
      subst ek'
      show RK _ _ _ e.key (keyD (.inr x))
      rw [ev]
      exact atom (.str x t) s1'.1 (by show PyData.hasDict (.str x) = false; simp [PyData.hasDict]) hz1
end
/-- repr of a list -/
def rRepr : List V → Hp → VK → Prop := fun xs H Q => ∃ (a : Addr) (ys : List V) (d : PyData) (ds : List PyData), xs = [.ref a] ∧ H a = some (.lst ys) ∧ RpAll H ys (d :: ds) ∧ PyData.showableAll (d :: ds) = true ∧ (PyData.shown (.list (d :: ds))).length ≤ sizeLine ∧ PyData.depth (.list (d :: ds)) ≤ 100 ∧ Q (.str (PyData.shown (.list (d :: ds)))) H
theorem call_repr_lst (hg : X.A.guards = some []) (hu : X.A.units + 110 < cLine) : CallR X (.builtin "repr") rRepr := by
  intro pins s σ H xs us Q I r h
  obtain ⟨a, ys, d, ds, rfl, ha, al, hs, hz, hd, q⟩ := h
  cases r with
  | cons ra rn =>
    cases rn
    obtain rfl := (show _ = Value.ref a from ra)
    obtain ⟨_, its, n, rv, g⟩ : ObjOk X.prog X.w H s.heap a (.lst ys) := I.hok a _ ha
    have hz' : (listText (PyData.shownAll (d :: ds))).length ≤ sizeLine := by simpa only [PyData.shown] using hz
    obtain ⟨⟨as, rs⟩, bs, hb, hk⟩ := RpAll.rk I al rv hs fun t ht => Nat.le_trans (listText_mem_le ht) hz'
    have rd : Reads s.heap (.ref a) (.list (d :: ds)) (a :: as) := .list g rfl rfl (by simpa using rs)
    have dp : PyData.depthAll (d :: ds) + 1 = PyData.depth (.list (d :: ds)) := by simp only [PyData.depth]
    cases its with
    | nil =>
      have z := hk.length_eq
      simp [PyData.shownAll] at z
    | cons y l =>
      refine call_repr_slot (by omega) ⟨_, g, rfl⟩ F.slot_list_repr.toG (call_list_reprK (h₀ := s.heap) g rfl rfl (not_mem_of_deeper rd (by omega) hb) (by simpa using hk.length_eq) (fun i z e => hk.item i z (by simpa using e)) (g := []) hg (fun b _ => Clear.nil b) (by show X.A.units + 1 + _ < _; omega) (fun _ _ e => e) (fun h' u tk hk' => ⟨_, _, rfl, ?_⟩) hz')
      exact ⟨.str _, H, I.kept hk', ⟨u, by simp only [PyData.shown]⟩, q⟩
end
end TfR

/-! defs that want to know that no repr is under way (guards), and the end for them -/
namespace TfG
open PySem PySem.Spec PyProof.Rows L2 LamX
/-- a def's promise, kept where no guard stands -/
structure FnG (P : Program) (w : World) (K : PySem.W.Frag) (mg : Str → Option Value) (base : Heap) (CX : CXT) (k : Nat) (f : Addr) (fd : FuncData) (ps : List Str) (sp : Sp) : Prop where
  len : ∀ vs H Q E, sp vs H Q E → vs.length = ps.length
  run : ∀ (A : Around) (outer : List Env) (s : Shared) (H : Hp) (args : Args) (us : List Value) (vs : List V) (Q : VK) (E : XK), A.guards = some [] → Room k A → Env0 P w K mg base A outer s H → BindsTo s fd args (ps.zip us) → Vals vs us → sp vs H Q E → codeAny (model P w) A (.call (.ref f) args) (CR CX outer P w H s Q E) s
/-- a def by its text, its code object at c -/
structure FunC (K : PySem.W.Frag) (x qual : Str) (st : Stmt) (f : Addr) (fd : FuncData) (c : Addr) : Prop where
  ex : ∃ (oc : Value) (od : Option Addr) (kV doc pm : Value) (an : Option Addr) (ct : Value) (osl : Array (Option Value)), fd = PySem.W.fnOf x qual (defArgs st) (defBody st) (defScope st) .none kV doc pm an (.ref c) ct ∧ K.lookup f = some ⟨oc, od, .func fd, osl⟩ ∧ PySem.W.codeIn K (.ref c) qual = true
  kp : PySem.W.keepIn K (.ref f) = true
section
variable {P : Program} {w : World} {K : PySem.W.Frag} {mg : Str → Option Value} {base : Heap}
theorem FunC.okG {x qual : Str} {st : Stmt} {f c : Addr} {fd : FuncData} {N ps : List Str} {k : Nat} {sp : Sp} (F : FunC K x qual st f fd c) (S : FnScope N ps (defScope st)) (len : ∀ vs H Q E, sp vs H Q E → vs.length = ps.length)
    (hbody : ∀ (A : Around) (outer : List Env) (s : Shared) (H : Hp) (vs : List V) (Q : VK) (E : XK), A.guards = some [] → Room k (A.deeper (envOfC qual (defScope st) s.heap.objs.size f (.ref c))) → sp vs H Q E →
      ∃ t, PSs (cxOf L2.CX0 P w K mg base N qual (defScope st) f (.ref c) A outer s H E).nox (defBody st) t ∧ t { nx := fun _ H' => Q .non H', rt := Q } (L2.start N vs) H) : FnG P w K mg base L2.CX0 (k + 1) f fd ps sp := by
  obtain ⟨oc, od, kV, doc, pm, an, ct, osl, rfl, lk, hcd⟩ := F.ex
  refine ⟨len, fun A outer s H args us vs Q E hg hr e0 hb r h => LamX.run_ofS lk hcd S hr e0 hb r (len _ _ _ _ h) fun hr' => ?_⟩
  obtain ⟨t, ht, q⟩ := hbody A outer s H vs Q E hg hr' h
  exact ⟨t, ht.nox, q⟩
theorem FunC.binds {x qual : Str} {st : Stmt} {f c : Addr} {fd : FuncData} {ps : List Str} (F : FunC K x qual st f fd c)
    (h : ∀ (kV doc pm : Value) (an : Option Addr) (cdv ct : Value) (us : List Value), us.length = ps.length → bindArgs (PySem.W.fnOf x qual (defArgs st) (defBody st) (defScope st) .none kV doc pm an cdv ct) ⟨us, []⟩ = pure (ps.zip us)) : Binds K fd ps [] := by
  obtain ⟨oc, od, kV, doc, pm, an, ct, osl, rfl, lk, hcd⟩ := F.ex
  exact .all (h kV doc pm an _ ct)
end
section
variable {X : Cx} {k : Nat} {f : Addr} {fd : FuncData} {ps : List Str} {sp : Sp} {CX : CXT} {E : XK} {x : Str} {p pos : Pos} {e : Expr} {es : List Expr} {t : TA}
/-- x(e, ..) of such a def -/
theorem pe_callG (F : FnG X.prog X.w X.K X.mg X.base CX k f fd ps sp) (gu : X.A.guards = some []) (hr : Room k X.A) (hg : Gl X x) (hm : X.mg x = some (.ref f)) (hk : PySem.W.keepIn X.K (.ref f) = true) (hb : Binds X.K fd ps []) (hx : Passes CX X E) (ha : PA X (e :: es) t)
    (hdb : (x == ("__debug__" : Str)) = false := by decide) (he : starEach (e :: es) X.env = (false, eval e X.env) :: starEach es X.env := by rfl) (hpl : (backTo pos (starEach es X.env)).any (·.1) = false := by rfl) : PE X (.Call (.Name x p) (e :: es) [] pos) (tCall sp [] E t) := by
  refine ⟨fun pins s σ H Q I h => wpAny_Call_Name_kw (ld_glob I hg hm ?_ hdb)⟩
  refine PySem.W.callWith_K (h₀ := X.base) I.ok.mod.kin hk (thn (ha.run pos pins s σ H _ I h) fun us s1 ⟨vs, H1, I1, r, q⟩ => ⟨I1.kIn, ?_⟩) he hpl
  have q : sp vs H1 Q E := by
    have q0 : sp (vs ++ []) H1 Q E := q
    rw [List.append_nil] at q0
    exact q0
  have l : (us ++ []).length = ps.length := by rw [List.append_nil, ← r.length]; exact F.len _ _ _ _ q
  have b := hb s1 us I1.kIn l
  rw [List.append_nil] at b
  refine wpAny_call (codeAny_mono (F.run X.A X.stack s1 H1 ⟨us, []⟩ us vs Q E gu hr I1.env0 b r q) fun r' s' z => ?_)
  match r', z with
  | .error e', z => exact hx pins σ H1 s1 e' s' I1 z
  | .ok (.ret u), z => exact I1.after z
  | .ok .next, z => exact False.elim z
  | .ok .brk, z => exact False.elim z
  | .ok .cont, z => exact False.elim z
end
section
variable {P : Program} {w : World} {K : PySem.W.Frag} {mg mb : Str → Option Value} {CX : CXT} {k : Nat} {fa a : Addr} {cs : List (Addr × Addr)} {fd : FuncData} {x : Str} {sp : Sp} {s₁ : Shared} {vs : List Value} {ns : List Int}
/-- the abstract heap of the call: the tables, and the script where the written part does not tell it -/
def H0 (K : PySem.W.Frag) (ts : List Addr) (a : Addr) (o : Obj) (xs : List V) : Hp := fun b => if b ∈ ts then some (.tbl #[]) else if b = a ∧ K.lookup a = none then some (.frz o (.lst xs)) else none
theorem H0_cases (K : PySem.W.Frag) (ts : List Addr) (a : Addr) (o : Obj) (xs : List V) (b : Addr) : (H0 K ts a o xs b = none) ∨ (b ∈ ts ∧ H0 K ts a o xs b = some (.tbl #[])) ∨ (b = a ∧ b ∉ ts ∧ K.lookup a = none ∧ H0 K ts a o xs b = some (.frz o (.lst xs))) := by
  unfold H0
  by_cases h1 : b ∈ ts
  · exact .inr (.inl ⟨h1, if_pos h1⟩)
  · by_cases h2 : b = a ∧ K.lookup a = none
    · exact .inr (.inr ⟨h2.1, h1, h2.2, by rw [if_neg h1, if_pos h2]⟩)
    · exact .inl (by rw [if_neg h1, if_neg h2])
theorem law_callG (KX : K.In s₁.heap) (hns : s₁.heap.Ns mainGlobals mg) (hb : s₁.heap.Ns builtinsNs mb) (hbb : ∀ x : Str, x ≠ "__name__" → mb x = bootBuiltins x) (hlim : s₁.heap.NoLimit) (hg : s₁.gens = #[])
    (hT : ∀ p ∈ cs, s₁.heap.get? p.2 = some { cls := .none, data := .fields #[] }) (nT : ∀ p ∈ cs, K.lookup p.2 = none) (C : ∀ p ∈ cs, PySem.W.CodeHd s₁.heap p.1 p.2)
    (hbm : ∃ (bm : Addr) (ob : Obj), mg "__builtins__" = some (.ref bm) ∧ bm ≠ builtinsNs ∧ s₁.heap.get? bm = some ob ∧ ob.cls = .type "module" ∧ ob.dict = some builtinsNs ∧ ob.data = .plain)
    (ha : s₁.heap.get? a = some { cls := .type "list", data := .seq vs.toArray }) (hi : IntsAre vs ns) (hl : ns.length ≤ sizeLine) (hr : Room k callerA)
    (F : ∀ base : Heap, K.In base → base.Ns mainGlobals mg → (∀ p ∈ cs, TabB base mg p.1 p.2) → FnG P w K mg base CX k fa fd [x] sp) (hbind : ∀ (s : Shared) (u : Value), BindsTo s fd ⟨[u], []⟩ [(x, u)])
    (hsp : ∀ H : Hp, (∀ p ∈ cs, H p.2 = some (.tbl #[])) → SqL K H a (ns.map V.int) → sp [.ref a] H (fun v _ => v = .bl true) fun _ _ _ => False)
    (hCX : ∀ H e s', CX [] H s₁ (fun _ _ _ => False) e s' → False) :
    codeAny (model P w) callerA (.call (.ref fa) ⟨[.ref a], []⟩) (fun r s' => r = .ok (.ret (.bool true)) ∧ OldK s₁.heap s'.heap ∧ s'.os = s₁.os ∧ AllBare s'.gens) s₁ := by
  obtain ⟨ts, ets⟩ : ∃ ts, ts = cs.map (·.2) := ⟨_, rfl⟩
  have mem : ∀ p ∈ cs, p.2 ∈ ts := fun p hp => by rw [ets]; exact List.mem_map.mpr ⟨p, hp, rfl⟩
  have inT : ∀ b ∈ ts, ∃ p ∈ cs, p.2 = b := fun b hb' => by rw [ets] at hb'; exact List.mem_map.mp hb'
  have tab : ∀ b ∈ ts, s₁.heap.get? b = some { cls := .none, data := .fields #[] } := fun b hb' => by
    obtain ⟨p, hp, rfl⟩ := inT b hb'
    exact hT p hp
  have naT : a ∉ ts := fun z => by
    have e := (tab a z).symm.trans ha
    have e2 := congrArg Obj.data (Option.some.inj e)
    cases e2
  obtain ⟨H, eH⟩ : ∃ H, H = H0 K ts a { cls := .type "list", data := .seq vs.toArray } (ns.map V.int) := ⟨_, rfl⟩
  have cas : ∀ b, H b = none ∨ (b ∈ ts ∧ H b = some (.tbl #[])) ∨ (b = a ∧ b ∉ ts ∧ K.lookup a = none ∧ H b = some (.frz { cls := .type "list", data := .seq vs.toArray } (.lst (ns.map V.int)))) := fun b => by
    rw [eH]
    exact H0_cases K ts a _ _ b
  have hTab : ∀ b ∈ ts, H b = some (.tbl #[]) := fun b hb' => by
    rw [eH]
    exact if_pos hb'
  -- what no table and no list is stays untracked
  have free : ∀ {b : Addr} {o : Obj}, s₁.heap.get? b = some o → o.data ≠ .fields #[] → (∀ us n, o.data ≠ .seq us n) → H b = none := fun {b o} e n1 n2 => by
    rcases cas b with z | ⟨z, _⟩ | ⟨rfl, _⟩
    · exact z
    · exact (n1 (by rw [Option.some.inj (e.symm.trans (tab b z))])).elim
    · exact (n2 vs.toArray 0 (by rw [Option.some.inj (e.symm.trans ha)])).elim
  have dct : ∀ {b : Addr} {m : Str → Option Value}, s₁.heap.Ns b m → (hidT s₁.heap H).Ns b m := fun {b m} z => by
    obtain ⟨o, es, ep, e, d, r⟩ := z
    exact ⟨o, es, ep, hidT_get e (free e (by rw [d]; exact fun z => by cases z) fun us n z => by rw [d] at z; cases z), d, r⟩
  have KB : K.In (hidT s₁.heap H) := fun b o e => by
    refine hidT_get (KX b o e) ?_
    rcases cas b with z | ⟨z, _⟩ | ⟨rfl, _, z, _⟩
    · exact z
    · obtain ⟨p, hp, rfl⟩ := inT b z
      rw [nT p hp] at e
      cases e
    · rw [z] at e
      cases e
  have TB : ∀ p ∈ cs, TabB (hidT s₁.heap H) mg p.1 p.2 := fun p hp => by
    refine ⟨?_, ?_, ?_⟩
    · obtain ⟨o, us, file, tf, flags, tg, inF, text, tt, e1, r1, r2, r3, r4⟩ := C p hp
      refine ⟨o, us, file, tf, flags, tg, inF, text, tt, hidT_get e1 (free e1 (fun z => ?_) fun us' n z => ?_), r1, r2, r3, r4⟩
      · rw [r2] at z
        have z2 := (Data.fields.inj z)
        rw [z2] at r3
        simp at r3
      · rw [r2] at z
        cases z
    · obtain ⟨bm, ob, b1, b2, b3, b4, b5, b6⟩ := hbm
      have f3 := hidT_get b3 (free b3 (by rw [b6]; exact fun z => by cases z) fun us n z => by rw [b6] at z; cases z)
      refine ⟨bm, ob, b1, b2, fun z => ?_, fun z => ?_, f3, b4, b5, b6⟩
      · obtain ⟨o, es, ep, e, d, _⟩ := hns
        rw [z] at b3
        rw [Option.some.inj (e.symm.trans b3), b6] at d
        cases d
      · rw [z] at b3
        have z2 := congrArg Obj.data (Option.some.inj ((hT p hp).symm.trans b3))
        rw [b6] at z2
        cases z2
    · intro z
      obtain ⟨o, es, ep, e, d, _⟩ := hns
      rw [z] at e
      rw [← Option.some.inj ((hT p hp).symm.trans e)] at d
      cases d
  have lenV := hi.length
  have rv := vals_ints hi
  have SQ : SqL K H a (ns.map V.int) := by
    cases hk : K.lookup a with
    | none =>
      refine .inl (.inr ⟨{ cls := .type "list", data := .seq vs.toArray }, ?_⟩)
      rw [eH]
      unfold H0
      rw [if_neg naT, if_pos ⟨rfl, hk⟩]
    | some o =>
      have eo := Option.some.inj ((KX a o hk).symm.trans ha)
      subst eo
      exact .inr ⟨_, vs.toArray, _, hk, rfl, rfl, rfl, by rw [List.size_toArray, lenV]; exact hl, by simpa using rv⟩
  have OK : HOk P w H s₁.heap := fun b u e => by
    rcases cas b with z | ⟨z1, z2⟩ | ⟨rfl, _, _, z⟩
    · rw [z] at e
      cases e
    · rw [← Option.some.inj (z2.symm.trans e)]
      exact tab b z1
    · rw [← Option.some.inj (z.symm.trans e)]
      exact ⟨ha, by rw [List.length_map]; exact hl, vs, _, rv, ha⟩
  have M : L2.Mod K mg (hidT s₁.heap H) := ⟨KB, dct hns, ⟨mb, dct hb, hbb⟩, let ⟨mc, h1, h2⟩ := hlim; ⟨mc, dct h1, h2⟩⟩
  have E0 : Env0 P w K mg (hidT s₁.heap H) callerA [] s₁ H := ⟨rfl, M, fun b o e => of_hidT e, Nat.le_of_eq (hidT_size _ _), trivial, fun b z => absurd (show b ∈ ([] : List Addr) from z) List.not_mem_nil, OK, AllBare.of_eq hg⟩
  refine codeAny_mono ((F _ KB (dct hns) TB).run callerA [] s₁ H ⟨[.ref a], []⟩ [.ref a] [.ref a] _ _ rfl hr E0 (hbind s₁ (.ref a)) (.cons rfl .nil) (hsp H (fun p hp => hTab _ (mem p hp)) SQ)) fun r s' q => ?_
  match r, q with
  | .error e, q => exact (hCX H e s' q).elim
  | .ok .next, q => exact False.elim q
  | .ok .brk, q => exact False.elim q
  | .ok .cont, q => exact False.elim q
  | .ok (.ret u), q =>
    obtain ⟨v, H', os, bare, un, ok', r', q'⟩ := q
    have ev : v = .bl true := q'
    subst ev
    obtain rfl : u = Value.bool true := r'
    have same : ∀ b o, b ∉ ts → s₁.heap.get? b = some o → s'.heap.get? b = some o := fun b o nb e => by
      rcases cas b with z | ⟨z, _⟩ | ⟨rfl, _, _, z⟩
      · exact un.keep b o e z (fun y => by cases y) (fun y => by cases y)
      · exact (nb z).elim
      · have g1 := (OK b _ z).1
        have g2 := (ok' b _ (un.frzs b _ _ z)).1
        rw [Option.some.inj (e.symm.trans g1)]
        exact g2
    have grew : ∀ b ∈ ts, ∃ more : Array Value, s'.heap.get? b = some { cls := .none, data := .fields more } := fun b hb' => by
      obtain ⟨more, z⟩ := un.tbls b #[] (hTab b hb')
      exact ⟨_, ok' b _ z⟩
    refine ⟨rfl, ⟨fun b o e => ?_, fun b o e => ?_⟩, os, bare⟩
    · by_cases hb' : b ∈ ts
      · obtain ⟨p, hp, rfl⟩ := inT b hb'
        obtain ⟨more, g⟩ := grew _ hb'
        rw [Option.some.inj (e.symm.trans (hT p hp))]
        exact .inr (.inl ⟨((C p hp).tab (hT p hp)).isCodeTable, rfl, #[], more, rfl, by rw [Array.empty_append]; exact g⟩)
      · exact .inl (same b o hb' e)
    · by_cases hb' : b ∈ ts
      · exact let ⟨_, g⟩ := grew b hb'; ⟨_, g⟩
      · exact ⟨o, same b o hb' e⟩
end
/-- what is known of the law's promise at the head's heap -/
def LawG (l : PySem.W.OpenLaw) (w : World) (K : PySem.W.Frag) (CX : CXT) (k n : Nat) (x : Str) (mg : Str → Option Value) (fa : Addr) (h : Heap) : Prop :=
  ∃ (fd : FuncData) (cs : List (Addr × Addr)) (sp : Sp), ((∀ p ∈ cs, h.get? p.2 = some { cls := .none, data := .fields #[] }) ∧ (∀ p ∈ cs, K.lookup p.2 = none) ∧ ∀ p ∈ cs, PySem.W.CodeHd h p.1 p.2) ∧ (∀ (s : Shared) (u : Value), BindsTo s fd ⟨[u], []⟩ [(x, u)]) ∧
    (∀ (H : Hp) (a : Addr) (ns : List Int), ns.length ≤ n → (∀ z ∈ ns, Builtin.Int.intBits z ≤ 1048576) → (∀ p ∈ cs, H p.2 = some (.tbl #[])) → SqL K H a (ns.map V.int) → sp [.ref a] H (fun v _ => v = .bl true) fun _ _ _ => False) ∧
    ∀ base : Heap, K.In base → base.Ns mainGlobals mg → (∀ p ∈ cs, TabB base mg p.1 p.2) → FnG l.prog w K mg base CX k fa fd [x] sp
theorem walk_G {l : PySem.W.OpenLaw} {n k : Nat} {q : Program} {loose : List Str} {XP : (Str → Option Value) → Heap → Prop} {YP : World → Heap → Prop} {d : DefRec} {K : Params → PySem.W.Frag} {CX : World → CXT} {x : Str}
    (hn : l.most = some n) (hn2 : n ≤ sizeLine) (hdf : d.params.defaults = []) (hr : Room k callerA) (hY : ∀ (w : World) (h : Heap), YP w h → (K w.params).In h)
    (F : ∀ (w : World) (mg : Str → Option Value) (fa : Addr) (h : Heap), YP w h → (K w.params).In h → h.Ns mainGlobals mg → (∀ (x : Str) (c P : Addr), ((recsOf q).any fun e => e.name == x) = true → PySem.W.tabIn (K w.params) x = some (c, P) → PySem.W.CodeHd h c P ∧ h.get? P = some { cls := .none, data := .fields #[] }) → mg d.name = some (.ref fa) → LawG l w (K w.params) (CX w) k n x mg fa h)
    (hCX : ∀ (w : World) (H : Hp) (s : Shared) (e : Value) (s' : Shared), CX w [] H s (fun _ _ _ => False) e s' → False) : PySem.W.WalkO q loose XP YP l.row.toRowW d [] (fun f vs => PySem.call f vs) :=
  Att.attach_callB hn hdf fun w s₀ s₁ mg mb fa o pm cd doc a vs ns G Y _ _ _ hmg hobj hints hlen hbits hg => by
    have KX := hY w _ Y
    obtain ⟨fd, cs, sp, ⟨hT, nT, C⟩, hb, hsp, hF⟩ := F w mg fa _ Y KX G.T.g (fun x c P' hr ht => by
      obtain ⟨e, he⟩ := Option.isSome_iff_exists.mp (show ((recsOf q).find? fun e => e.name == x).isSome = true by rw [List.find?_isSome]; exact List.any_eq_true.mp hr)
      exact PySem.W.tab_of G.T KX he ht) hmg
    exact law_callG KX G.T.g G.T.b G.T.builtins G.T.nolimit hg hT nT C G.T.bmain hobj hints (Nat.le_trans hlen hn2) hr hF hb (fun H hH hS => hsp H a ns hlen hbits hH hS) fun H e s' => hCX w H s₁ e s'
theorem tab_in {K : PySem.W.Frag} {x : Str} {f c P : Addr} {oc a : Value} {od b : Option Addr} {sl z : Array (Option Value)} {fd : FuncData} {vs : Array Value} (h0 : PySem.W.nsIn K mainGlobals x = some (some (.ref f))) (h1 : K.lookup f = some ⟨oc, od, .func fd, sl⟩) (hc : fd.code = .ref c) (h2 : K.lookup c = some ⟨a, b, .fields vs, z⟩) (h3 : vs[11]? = some (.ref P)) : PySem.W.tabIn K x = some (c, P) := by
  unfold PySem.W.tabIn
  simp only [h0, h1, hc, h2, h3]
theorem func_mk {K : PySem.W.Frag} {x qual : Str} {st : Stmt} {f c : Addr} {oc : Value} {od an : Option Addr} {osl : Array (Option Value)} {kV doc pm ct : Value} (l : K.lookup f = some ⟨oc, od, .func (PySem.W.fnOf x qual (defArgs st) (defBody st) (defScope st) .none kV doc pm an (.ref c) ct), osl⟩) (hc : PySem.W.codeIn K (.ref c) qual = true) (kp : PySem.W.keepIn K (.ref f) = true) : FunC K x qual st f (PySem.W.fnOf x qual (defArgs st) (defBody st) (defScope st) .none kV doc pm an (.ref c) ct) c := ⟨⟨_, _, _, _, _, _, _, _, rfl, l, hc⟩, kp⟩
end TfG

/-! the law's draws: dice, roll, pick -/
namespace Tf
open PySem PySem.Spec PyProof.Rows L2
def top (i : Nat) : Stmt := PySem.Challenge.pw_treefits_k03_languages_refused.main.body.getD i (.Pass ⟨0, 0, 0, 0⟩)
abbrev sRoll : Stmt := top 17
abbrev sPick : Stmt := top 18
abbrev sDice : Stmt := top 16
theorem scRoll : FnScope ["_law_dice_here", "_law_upto", "_law_found", "_law_one", "_law_two"] ["_law_dice_here", "_law_upto"] (defScope sRoll) := ⟨rfl, rfl, rfl, by decide +kernel, rfl, by decide +kernel, by decide +kernel⟩
theorem scPick : FnScope ["_law_dice_here", "_law_items"] ["_law_dice_here", "_law_items"] (defScope sPick) := ⟨rfl, rfl, rfl, by decide +kernel, rfl, by decide +kernel, by decide +kernel⟩
theorem scDice : FnScope ["_law_script", "_law_spot", "_law_cell", "_law_great", "_law_blend"] ["_law_script", "_law_spot"] (defScope sDice) := ⟨rfl, rfl, rfl, by decide +kernel, rfl, by decide +kernel, by decide +kernel⟩
/-- roll(dice, n): a number from 0 to n - 1; the dice change -/
def spRoll : Sp := fun vs H Q _ => ∃ (d : Addr) (n : Int), vs = [.ref d, .int n] ∧ Dice H d ∧ 0 < n ∧ n < 1000000 ∧
  ∀ (r : Int) (H' : Hp), 0 ≤ r → r < n → Nr d H H' → Dice H' d → Q (.int r) H'
section
variable {P : Program} {w : World} {K : PySem.W.Frag} {mg : Str → Option Value} {base : Heap}
theorem ok_roll {f : Addr} {fd : FuncData} {k : Nat} (F : Fun K "_law_roll" "_law_roll" sRoll f fd) (mi : mg "int" = none) : FnOk P w K mg base CX0 (k + 1) f fd ["_law_dice_here", "_law_upto"] spRoll := by
  refine F.ok scRoll (fun vs H Q E h => ?_) (fun cdv A outer s H vs Q E hr h => ?_)
  · obtain ⟨d, n, rfl, _⟩ := h
    rfl
  · obtain ⟨d, n, rfl, ⟨a, b, c, ha, hd⟩, n0, n1, q⟩ := h
    refine ⟨_, pss_cons (ps_if (pt_cmpR op_gt (pe_ix ix_list (pv 0) pe_int (fun _ _ => rfl)) pe_int (nomark _))
        (pss_cons (ps_set (i := 2) scRoll.nd rfl (.inl rfl) (pe_op op_modN (pe_callTy call_int1 (by rfl) mi (by decide +kernel) (pa_cons (pe_ix ix_list (pv 0) pe_int (fun _ _ => rfl)) pa_nil)) (pv 1)))
        (pss_cons (ps_asg (pe_op op_fdivN (pe_ix ix_list (pv 0) pe_int (fun _ _ => rfl)) (pv 1)) (pg_sub (pv 0) pe_int set_list))
        (pss_one (ps_ret (pv 2))))) pss_nil)
      (pss_cons (ps_asg (pe_op op_add (pe_ix ix_list (pv 0) pe_int (fun _ _ => rfl)) pe_int) (pg_sub (pv 0) pe_int set_list))
      (pss_cons (ps_set (i := 3) scRoll.nd rfl (.inl rfl) (pe_op op_modN (pe_callTy call_int1 (by rfl) mi (by decide +kernel) (pa_cons (pe_op op_add (pe_ix ix_list (pv 0) pe_int (fun _ _ => rfl)) (pe_op op_mul pe_int (pe_ix ix_list (pv 0) pe_int (fun _ _ => rfl)))) pa_nil)) pe_int))
      (pss_cons (ps_set (i := 4) scRoll.nd rfl (.inl rfl) (pe_op op_add (pe_op op_mul (pe_op op_modN (pe_callTy call_int1 (by rfl) mi (by decide +kernel) (pa_cons (pe_op op_mul (pv 3) (pv 3)) pa_nil)) pe_int) (pv 3)) (pe_op op_mul pe_int (pe_ix ix_list (pv 0) pe_int (fun _ _ => rfl)))))
      (pss_one (ps_ret (pe_op op_modN (pe_callTy call_int1 (by rfl) mi (by decide +kernel) (pa_cons (pe_op op_fdivN (pe_op op_modN (pe_callTy call_int1 (by rfl) mi (by decide +kernel) (pa_cons (pe_op op_add (pv 4) (pe_ix ix_list (pv 0) pe_int (fun _ _ => rfl))) pa_nil)) pe_int) pe_int) pa_nil)) (pv 1))))))), ?_⟩
    have hA : SqL K H d [.int a, .int b, .int c] := lst_of hd
    refine ⟨.ref d, rfl, d, _, 0, .int a, rfl, rfl, hA, rfl, a, 0, rfl, rfl, _, rfl, ite2 (fun e => ?_) (fun e => ?_)⟩
    · refine ⟨.ref d, rfl, d, _, 0, .int a, rfl, rfl, hA, rfl, .inl ⟨a, rfl, .int n, rfl, a, n, rfl, rfl, by omega, ?_⟩⟩
      refine ⟨.ref d, rfl, d, _, 0, .int a, rfl, rfl, hA, rfl, .int n, rfl, a, n, rfl, rfl, ⟨by omega, by omega⟩, ?_⟩
      refine ⟨.ref d, rfl, d, [.int a, .int b, .int c], 0, 0, rfl, rfl, hd, rfl, ?_⟩
      refine ⟨.int (a.fmod n), rfl, q _ _ (Int.fmod_nonneg_of_pos _ n0) (Int.fmod_lt_of_pos _ n0) Nr.upd ⟨a.fdiv n, b, c, Int.fdiv_nonneg ha (by omega), upd_same⟩⟩
    · have hA' : ∀ x y z : V, SqL K (upd H d (.lst [x, y, z])) d [x, y, z] := fun x y z => lst_of upd_same
      refine ⟨.ref d, rfl, d, _, 2, .int c, rfl, rfl, hA, rfl, c, 1, rfl, rfl, ?_⟩
      refine ⟨.ref d, rfl, d, [.int a, .int b, .int c], 2, 2, rfl, rfl, hd, rfl, ?_⟩
      have hB : SqL K (upd H d (.lst [.int a, .int b, .int (c + 1)])) d [.int a, .int b, .int (c + 1)] := hA' _ _ _
      -- _law_one
      have o0 := Int.fmod_nonneg_of_pos (b + 982451653 * (c + 1)) (show (0 : Int) < 67280421310721 by decide)
      have o1 := Int.fmod_lt_of_pos (b + 982451653 * (c + 1)) (show (0 : Int) < 67280421310721 by decide)
      refine ⟨.ref d, rfl, d, _, 1, .int b, rfl, rfl, hB, rfl, .ref d, rfl, d, _, 2, .int (c + 1), rfl, rfl, hB, rfl, 982451653, c + 1, rfl, rfl, .inl ⟨by decide, by decide⟩, b, _, rfl, rfl, .inl ⟨_, rfl, _, 67280421310721, rfl, rfl, (show (67280421310721 : Int) ≠ 0 by decide), ?_⟩⟩
      -- _law_two
      refine ⟨_, rfl, _, rfl, _, _, rfl, rfl, .inl ⟨Int.lt_of_lt_of_le (by decide) o0, Int.lt_trans o1 (by decide)⟩, .inl ⟨_, rfl, _, 576460752303423433, rfl, rfl, (show (576460752303423433 : Int) ≠ 0 by decide), _, rfl, _, _, rfl, rfl, .inr ⟨Int.lt_of_lt_of_le (by decide) o0, Int.lt_trans o1 (by decide)⟩, .ref d, rfl, d, _, 2, .int (c + 1), rfl, rfl, hB, rfl, 8191, c + 1, rfl, rfl, .inl ⟨by decide, by decide⟩, _, _, rfl, rfl, ?_⟩⟩
      refine ⟨_, rfl, .ref d, rfl, d, _, 1, .int b, rfl, rfl, hB, rfl, _, b, rfl, rfl, .inl ⟨_, rfl, _, 2199023255531, rfl, rfl, (show (2199023255531 : Int) ≠ 0 by decide), _, 64, rfl, rfl, ⟨by decide, by decide⟩, .inl ⟨_, rfl, .int n, rfl, _, n, rfl, rfl, (show n ≠ 0 by omega), ?_⟩⟩⟩
      exact q _ _ (Int.fmod_nonneg_of_pos _ n0) (Int.fmod_lt_of_pos _ n0) Nr.upd ⟨a, b, c + 1, ha, upd_same⟩
/-- pick(dice, items): one of them -/
def spPick (K : PySem.W.Frag) : Sp := fun vs H Q _ => ∃ (d l : Addr) (xs : List V), vs = [.ref d, .ref l] ∧ Dice H d ∧ H l = some (.lst xs) ∧ d ≠ l ∧ xs ≠ [] ∧ xs.length < 1000 ∧
  ∀ (v : V) (H' : Hp), v ∈ xs → Nr d H H' → Dice H' d → Q v H'
theorem ok_pick {f fR : Addr} {fd fdR : FuncData} {k : Nat} (F : Fun K "_law_pick" "_law_pick" sPick f fd) (FR : Fun K "_law_roll" "_law_roll" sRoll fR fdR) (bR : Binds K fdR ["_law_dice_here", "_law_upto"] []) (gR : mg "_law_roll" = some (.ref fR)) (mi : mg "int" = none) (ml : mg "len" = none) : FnOk P w K mg base CX0 (k + 2) f fd ["_law_dice_here", "_law_items"] (spPick K) := by
  have GR : FnOk P w K mg base CX0 (k + 1) fR fdR ["_law_dice_here", "_law_upto"] spRoll := ok_roll FR mi
  refine F.ok scPick (fun vs H Q E h => ?_) (fun cdv A outer s H vs Q E hr h => ?_)
  · obtain ⟨d, l, xs, rfl, _⟩ := h
    rfl
  · obtain ⟨d, l, xs, rfl, hd, hl, ne, x0, x1, q⟩ := h
    refine ⟨_, pss_one (ps_ret (pe_ix ix_list (pv 1) (pe_call GR hr (by rfl) gR FR.kp bR .nil pass0 (pa_cons (pv 0) (pa_cons (pe_callB call_len_seq (by rfl) ml PySem.boot_len (pa_cons (pv 1) pa_nil)) pa_nil))) (fun _ _ => rfl))), ?_⟩
    have l0 : 0 < xs.length := List.length_pos_iff.mpr x0
    refine ⟨.ref l, rfl, .ref d, rfl, .ref l, rfl, l, xs, rfl, .inl (lst_of hl), d, (xs.length : Int), rfl, hd, by omega, by omega, fun r H' r0 r1 nr dc => ?_⟩
    have hi : r.toNat < xs.length := by omega
    refine ⟨l, xs, r, xs[r.toNat], rfl, rfl, lst_of (nr l _ ne.symm hl), ?_, q _ _ (List.getElem_mem hi) nr dc⟩
    exact at_of (j := r.toNat) (by omega) (List.getElem?_eq_getElem hi)
/-- dice(script, spot) -/
def spDice (K : PySem.W.Frag) : Sp := fun vs H Q _ => ∃ (a : Addr) (ns : List Int) (i : Int), vs = [.ref a, .int i] ∧ SqL K H a (ns.map V.int) ∧ 0 ≤ i ∧ i < 1000 ∧
  ∀ (d : Addr) (H' : Hp), Same H H' → H d = none → Dice H' d → Q (.ref d) H'
theorem ok_dice {f : Addr} {fd : FuncData} {k : Nat} (F : Fun K "_law_dice" "_law_dice" sDice f fd) (mi : mg "int" = none) (ml : mg "len" = none) (ma : mg "abs" = none) (mx : mg "max" = none) : FnOk P w K mg base CX0 (k + 1) f fd ["_law_script", "_law_spot"] (spDice K) := by
  refine F.ok scDice (fun vs H Q E h => ?_) (fun cdv A outer s H vs Q E hr h => ?_)
  · obtain ⟨a, ns, i, rfl, _⟩ := h
    rfl
  · obtain ⟨a, ns, i, rfl, hS, i0, i1, q⟩ := h
    refine ⟨_, pss_cons (ps_set (i := 2) scDice.nd rfl (.inl rfl) (pe_ifExp (pt_cmpR op_lt (pv 1) (pe_callB call_len_seq (by rfl) ml PySem.boot_len (pa_cons (pv 0) pa_nil)) (nomark _)) (pe_ix ix_list (pv 0) (pv 1) (fun _ _ => rfl)) (pe_op op_add (pe_op op_mul pe_int (pv 1)) pe_int)))
      (pss_cons (ps_set (i := 3) scDice.nd rfl (.inl rfl) (pe_op op_modN (pe_callTy call_int1 (by rfl) mi (by decide +kernel) (pa_cons (pe_callB call_abs (by rfl) ma (by decide +kernel) (pa_cons (pv 2) pa_nil)) pa_nil)) (pe_op op_powW (pe_op op_pow pe_int pe_int) pe_int)))
      (pss_cons (ps_set (i := 4) scDice.nd rfl (.inl rfl) (pe_op op_add (pe_op op_add (pe_op op_add (pe_op op_mul (pv 3) pe_int) (pe_op op_mul pe_int (pv 1))) (pe_op op_mul pe_int (pe_callTy call_int1 (by rfl) mi (by decide +kernel) (pa_cons (pe_cmpR op_lt (pv 2) pe_int (nomark _)) pa_nil)))) pe_int))
      (pss_one (ps_ret (pe_lst (pa_cons (pe_callB (call_max2 rfl) (by rfl) mx (by decide +kernel) (pa_cons pe_int (pa_cons (pe_op op_sub (pv 3) (pe_op op_pow pe_int pe_int)) pa_nil))) (pa_cons (pe_op op_modN (pe_callTy call_int1 (by rfl) mi (by decide +kernel) (pa_cons (pv 4) pa_nil)) pe_int) (pa_cons pe_int pa_nil)))))))), ?_⟩
    have big : (Builtin.Int.intBits ((10 : Int) ^ (59 : Int).toNat) : Int) * 11 ≤ 2 ^ 27 := by decide +kernel
    have pos : (0 : Int) < ((10 : Int) ^ (59 : Int).toNat) ^ (11 : Int).toNat := by decide +kernel
    refine ⟨.int i, rfl, .ref a, rfl, a, _, rfl, .inl hS, _, _, rfl, rfl, _, rfl, ite2 (fun e => ?_) (fun e => ?_)⟩
    · have e1 : i < ((ns.map V.int).length : Int) := of_decide_eq_true e
      have e2 : i.toNat < (ns.map V.int).length := by omega
      have e3 : i.toNat < ns.length := by rw [List.length_map] at e2; exact e2
      refine ⟨.ref a, rfl, .int i, rfl, a, _, i, .int ns[i.toNat], rfl, rfl, hS, at_of (j := i.toNat) (by omega) (by rw [List.getElem?_map, List.getElem?_eq_getElem e3]; rfl), ?_⟩
      refine ⟨_, rfl, _, rfl, .inl ⟨_, rfl, 10, 59, rfl, rfl, ⟨by decide, by decide, by decide⟩, _, 11, rfl, rfl, ⟨by decide, big⟩, _, _, rfl, rfl, (by intro z; rw [z] at pos; exact absurd pos (by decide)), ?_⟩⟩
      refine ⟨_, rfl, _, 2862933555777941757, rfl, rfl, .inr ⟨by decide, by decide⟩, .int i, rfl, 61, i, rfl, rfl, .inl ⟨by decide, by decide⟩, _, _, rfl, rfl, _, rfl, _, 0, rfl, rfl, .inr ⟨_, rfl, 13, _, rfl, rfl, .inl ⟨by decide, by decide⟩, _, _, rfl, rfl, _, 5, rfl, rfl, ?_⟩⟩
      refine ⟨_, rfl, 10, 18, rfl, rfl, ⟨by decide, by decide, by decide⟩, _, _, rfl, rfl, 0, _, rfl, _, rfl, .inl ⟨_, rfl, _, 2305843009213693951, rfl, rfl, (show (2305843009213693951 : Int) ≠ 0 by decide), ?_⟩⟩
      refine ⟨by show 3 ≤ sizeLine; decide, fun d nd => ?_⟩
      refine q d _ (same_new nd) nd ⟨_, _, 0, ?_, upd_same⟩
      show (0 : Int) ≤ if _ > (0 : Int) then _ else 0
      split <;> omega
    · refine ⟨.int i, rfl, 29, i, rfl, rfl, .inl ⟨by decide, by decide⟩, _, 12, rfl, rfl, ?_⟩
      refine ⟨_, rfl, _, rfl, .inl ⟨_, rfl, 10, 59, rfl, rfl, ⟨by decide, by decide, by decide⟩, _, 11, rfl, rfl, ⟨by decide, big⟩, _, _, rfl, rfl, (by intro z; rw [z] at pos; exact absurd pos (by decide)), ?_⟩⟩
      refine ⟨_, rfl, _, 2862933555777941757, rfl, rfl, .inr ⟨by decide, by decide⟩, .int i, rfl, 61, i, rfl, rfl, .inl ⟨by decide, by decide⟩, _, _, rfl, rfl, _, rfl, _, 0, rfl, rfl, .inr ⟨_, rfl, 13, _, rfl, rfl, .inl ⟨by decide, by decide⟩, _, _, rfl, rfl, _, 5, rfl, rfl, ?_⟩⟩
      refine ⟨_, rfl, 10, 18, rfl, rfl, ⟨by decide, by decide, by decide⟩, _, _, rfl, rfl, 0, _, rfl, _, rfl, .inl ⟨_, rfl, _, 2305843009213693951, rfl, rfl, (show (2305843009213693951 : Int) ≠ 0 by decide), ?_⟩⟩
      refine ⟨by show 3 ≤ sizeLine; decide, fun d nd => ?_⟩
      refine q d _ (same_new nd) nd ⟨_, _, 0, ?_, upd_same⟩
      show (0 : Int) ≤ if _ > (0 : Int) then _ else 0
      split <;> omega
end
end Tf

/-! is_name -/
namespace Tf
open PySem PySem.Spec PyProof.Rows L2
abbrev sName : Stmt := top 11
theorem scName : FnScope ["value", "sign"] ["value"] (defScope sName) := ⟨rfl, rfl, rfl, by decide +kernel, rfl, by decide +kernel, by decide +kernel⟩
/-- not a text -/
def NoStr (K : PySem.W.Frag) (H : Hp) (x : V) : Prop := ∃ t : String, TyX K H x (.type t) ∧ kitB t "str" = some false
/-- a text of at most a thousand signs, or no text -/
def Some1 (K : PySem.W.Frag) (H : Hp) (x : V) : Prop := (∃ z : Str, x = .str z ∧ z.length ≤ 1000) ∨ NoStr K H x
/-- whether a value is a name -/
def isN : V → Bool
  | .str z => nameB z
  | _ => false
def spName (K : PySem.W.Frag) : Sp := fun vs H Q _ => ∃ x : V, vs = [x] ∧ Some1 K H x ∧ ((∃ z, x = .str z) ∨ isN x = false) ∧ ∀ H', Same H H' → Q (.bl (isN x)) H'
section
variable {P : Program} {w : World} {K : PySem.W.Frag} {mg : Str → Option Value} {base : Heap}
theorem ok_name {f : Addr} {fd : FuncData} {k : Nat} {t8 ts : Tok} (F : Fun K "is_name" "is_name" sName f fd) (mI : mg "isinstance" = none) (mS : mg "str" = none) (mL : mg "len" = none) (mA : mg "all" = none) (g8 : mg "MAX_SIGNS" = some (.int 8 t8)) (gs : mg "SIGNS" = some (.str signs ts)) : FnOk P w K mg base CX0 (k + 1) f fd ["value"] (spName K) := by
  refine F.ok scName (fun vs H Q E h => ?_) (fun cdv A outer s H vs Q E hr h => ?_)
  · obtain ⟨x, rfl, _⟩ := h
    rfl
  · obtain ⟨x, rfl, h1, h2, q⟩ := h
    refine ⟨_, pss_cons (ps_if (PW.pt (pw_or (pt_not (pt_val (pe_callB call_isi (by rfl) mI (by decide +kernel) (pa_cons (pv 0) (pa_cons (pe_bltn (v := .ty "str") (by rfl) mS (by decide +kernel) rfl) pa_nil)))))
          (pw_or1 (pt_not (pt_chain op_le op_le pe_int (pe_callB call_len_str (by rfl) mL PySem.boot_len (pa_cons (pv 0) pa_nil)) (pe_glob (v := .int 8) rfl g8 ⟨_, rfl⟩))))))
        (pss_one (ps_ret pe_bl)) pss_nil)
      (pss_one (ps_ret (pe_callB (cr_all rfl) (by rfl) mA (by decide +kernel) (pa_cons (pe_lc (own := [("sign", 1)]) (g := gName 1) (tt := tYes) (by rfl) scName.nd (pi_str (pv 0)) (blkOk_by (own := [("sign", 1)]) (N := ["value", "sign"]) (sc := defScope sName) (by decide +kernel)) (fun _ _ _ _ _ => pg_name (i := 1) scName.nd rfl (Or.inl rfl)) (fun _ _ _ _ _ => pts_nil)
          (fun _ _ _ _ _ => pe_cmpR op_in_sign (pv 1) (pe_glob (v := .str signs) rfl gs ⟨_, rfl⟩) (by rfl))) pa_nil)))), ?_⟩
    rcases h1 with ⟨z, rfl, hz⟩ | ⟨t, ht, kt⟩
    · have zs : z.length ≤ sizeLine := Nat.le_trans hz (by decide)
      refine ⟨.str z, rfl, .str z, .ty "str", .type "str", .type "str", true, rfl, .ty _, .base (.str z), kit_ty (by decide +kernel), true, rfl, iteF ?_⟩
      refine ⟨.str z, rfl, z, rfl, zs, 1, (z.length : Int), rfl, rfl, _, rfl, ?_⟩
      have bad : (¬ (1 ≤ z.length ∧ z.length ≤ 8)) → Q (.bl false) H := fun c => by
        have e : isN (.str z) = false := by
          show nameB z = false
          cases hb : nameB z with
          | false => rfl
          | true => exact absurd (nameB_len hb) c
        rw [e] at q
        exact q H (Same.refl H)
      refine ite2 (fun c1 => ?_) (fun c1 => ⟨false, rfl, iteT (bad ?_)⟩)
      · have c1' : (1 : Int) ≤ (z.length : Int) := of_decide_eq_true c1
        refine ⟨(z.length : Int), 8, rfl, rfl, _, rfl, ?_⟩
        by_cases c2 : z.length ≤ 8
        · have d2 : decide ((z.length : Int) ≤ 8) = true := decide_eq_true (by omega)
          rw [d2]
          refine iteF ?_
          -- the signs
          refine ⟨.str z, rfl, z, rfl, fun D nD => lc_on (h := fun c => V.str ⟨#[c]⟩) walk_txt rfl (fun _ => true) (fun c => .bl (decide (c ∈ signs.cps.toList))) nD (fun _ _ => trivial) ?_ (fun c _ H2 _ => tto_yes) (fun c _ _ H2 s2 Q' q' => ⟨_, rfl, c, signs, rfl, rfl, q' H2 (Same.refl H2)⟩) fun H2 s2 e2 => ?_⟩
          · rw [Array.length_toList]
            show z.length < 100000
            omega
          · refine ⟨D, z.cps.toList.map fun c => decide (c ∈ signs.cps.toList), rfl, lst_of ?_, ?_⟩
            · rw [e2, List.map_map, fil_true]
              rfl
            · have e : isN (.str z) = (z.cps.toList.map fun c => decide (c ∈ signs.cps.toList)).all id := by
                show nameB z = _
                unfold nameB
                rw [decide_eq_true (show 1 ≤ z.length by omega), decide_eq_true c2, List.all_map]
                rfl
              rw [e] at q
              exact q H2 s2
        · have d2 : decide ((z.length : Int) ≤ 8) = false := decide_eq_false (by omega)
          rw [d2]
          exact iteT (bad (by omega))
      · have c1' : ¬ (1 : Int) ≤ (z.length : Int) := fun z => c1 (decide_eq_true z)
        omega
    · refine ⟨x, rfl, x, .ty "str", .type t, .type "str", false, rfl, .ty _, ht, kit_ty kt, false, rfl, iteT ?_⟩
      have e : isN x = false := by
        rcases h2 with ⟨z, rfl⟩ | e
        · cases ht with
          | base b =>
            cases b
            exact absurd kt (by decide +kernel)
        · exact e
      rw [e] at q
      exact iteT (q H (Same.refl H))
end
end Tf

/-! different_names -/
namespace Tf
open PySem PySem.Spec PyProof.Rows L2
abbrev veBm : List Value := [.type "ValueError", .type "Exception", .type "BaseException", .type "object"]
/-- an error class over TreeError -/
abbrev TreeTxt (P : Program) (K : PySem.W.Frag) (mg : Str → Option Value) (x : Str) (C D fI : Addr) : Prop := PySem.TfS.SupTxt P K mg "ValueError" "ValueError.__new__" "ValueError" "ValueError.__init__" x "message" "TreeError.__init__" [] C D fI
theorem pmk_tree {X : Cx} {x : Str} {C D fI : Addr} {a : Expr} {ta : TA} {p pos : Pos} {k : Nat} (T : TreeTxt X.prog X.K X.mg x C D fI) (hr : Room k X.A) (ha : PA X [a] ta) (hg : Gl X x := by rfl) (hdb : (x == ("__debug__" : Str)) = false := by decide)
    (he : starEach (a :: []) X.env = (false, eval a X.env) :: starEach [] X.env := by rfl) (hpl : (backTo pos (starEach [] X.env)).any (·.1) = false := by rfl) : PMk X (.Call (.Name x p) [a] [] pos) (tMkS C ta) :=
  pmk_sup PySem.W.kxs_ValueError (PySem.TfS.init_of PySem.F.excBase_ValueError) PySem.F.excBase_ValueError T hr ha (by decide +kernel) (by decide +kernel) (by decide +kernel) (by decide +kernel) (by decide +kernel) (fun _ _ _ _ _ _ _ _ _ _ _ _ => rfl) hg hdb he hpl
abbrev sDiff : Stmt := top 12
theorem scDiff : FnScope ["values", "value"] ["values"] (defScope sDiff) := ⟨rfl, rfl, rfl, by decide +kernel, rfl, by decide +kernel, by decide +kernel⟩
/-- not a tuple -/
def NoTup (K : PySem.W.Frag) (H : Hp) (x : V) : Prop := ∃ t : Value, TyX K H x t ∧ PySem.W.kitOne K t (.type "tuple") = some false
/-- a value that may stand in a tuple of names -/
def Item (K : PySem.W.Frag) (H : Hp) (x : V) : Prop := Some1 K H x ∧ ((∃ z, x = .str z) ∨ isN x = false)
/-- the texts among the values -/
def txts (xs : List V) : List Str := xs.filterMap fun x => match x with | .str z => some z | _ => none
def spDiff (K : PySem.W.Frag) (CI : Addr) : Sp := fun vs H Q E => ∃ x : V, vs = [x] ∧
  ((NoTup K H x ∧ ∀ H', Same H H' → E (.ref CI) none H') ∨
   (∃ (a : Addr) (xs : List V), x = .ref a ∧ SqT K H a xs ∧ (∀ y ∈ xs, ∀ H', Same H H' → Item K H' y) ∧ xs.length ≤ 60 ∧
     (xs.all isN = false → ∀ H', Same H H' → E (.ref CI) none H') ∧
     (xs.all isN = true → ∀ (p : Addr) (H' : Hp), Same H H' → H p = none → H' p = some (.tup ((canon (txts xs)).map V.str)) → Q (.ref p) H')))
theorem ty_tup {K : PySem.W.Frag} {H : Hp} {a : Addr} {xs : List V} (h : SqT K H a xs) : TyX K H (.ref a) (.type "tuple") := by
  rcases h with (h | ⟨o, h⟩) | h
  · exact .base (.tup h)
  · exact .fTuple h
  · obtain ⟨o, its, n, h1, h2, h3, h4⟩ := h
    exact .kTuple h1 h2
theorem txts_cons_str (z : Str) (xs : List V) : txts (.str z :: xs) = z :: txts xs := rfl
theorem all_names : ∀ {xs : List V}, xs.all isN = true → xs = (txts xs).map V.str ∧ ∀ z ∈ txts xs, nameB z = true
  | [], _ => ⟨rfl, fun z hz => by cases hz⟩
  | x :: xs, h => by
    have h2 : (isN x && xs.all isN) = true := h
    rw [Bool.and_eq_true] at h2
    obtain ⟨e, n⟩ := all_names h2.2
    cases x with
    | str z =>
      rw [txts_cons_str]
      refine ⟨by rw [List.map_cons, ← e], fun y hy => ?_⟩
      rcases List.mem_cons.mp hy with rfl | hy
      · exact h2.1
      · exact n y hy
    | _ => exact absurd h2.1 (by intro z; cases z)
section
variable {P : Program} {w : World} {K : PySem.W.Frag} {mg : Str → Option Value} {base : Heap}
theorem ok_diff {f fN CI CT fI : Addr} {fd fdN : FuncData} {k : Nat} (F : Fun K "different_names" "different_names" sDiff f fd) (T : TreeTxt P K mg "InvalidLanguage" CI CT fI) (GN : FnOk P w K mg base CX0 (k + 1) fN fdN ["value"] (spName K)) (bN : Binds K fdN ["value"] []) (gN : mg "is_name" = some (.ref fN)) (kN : PySem.W.keepIn K (.ref fN) = true)
    (mI : mg "isinstance" = none) (mT : mg "tuple" = none) (mA : mg "all" = none) (mS : mg "sorted" = none) (mL : mg "list" = none) : FnOk P w K mg base (L2.CX P w) (k + 3) f fd ["values"] (spDiff K CI) := by
  refine F.okX scDiff (fun vs H Q E h => ?_) (fun cdv A outer s H vs Q E hr h => ?_)
  · obtain ⟨x, rfl, _⟩ := h
    rfl
  · obtain ⟨x, rfl, h⟩ := h
    refine ⟨_, pss_cons (ps_if (PW.pt (pw_or (pt_not (pt_val (pe_callB call_isi (by rfl) mI (by decide +kernel) (pa_cons (pv 0) (pa_cons (pe_bltn (v := .ty "tuple") (by rfl) mT (by decide +kernel) rfl) pa_nil)))))
          (pw_or1 (pt_not (pt_val (pe_callB (cr_all rfl) (by rfl) mA (by decide +kernel) (pa_cons (pe_lc (own := [("value", 1)]) (g := gName 1) (tt := tYes) (by rfl) scDiff.nd (pi_tup (pv 0)) (blkOk_by (own := [("value", 1)]) (N := ["values", "value"]) (sc := defScope sDiff) (by decide +kernel)) (fun _ _ _ _ _ => pg_name (i := 1) scDiff.nd rfl (Or.inl rfl)) (fun _ _ _ _ _ => pts_nil)
            (fun _ _ _ _ _ => pe_call GN (hr.mono (by omega)) (by rfl) gN kN bN .nil pass0 (pa_cons (pv 1) pa_nil))) pa_nil)))))))
        (pss_one (ps_raise rfl (takes_of rfl rfl rfl rfl) (pmk_tree T hr (pa_cons pe_str pa_nil)))) pss_nil)
      (pss_one (ps_ret (pe_callTy call_tuple_of (by rfl) mT (by decide +kernel) (pa_cons (pe_callB cr_sortedS (by rfl) mS (by decide +kernel) (pa_cons (pe_callTy (call_list_dK rfl) (by rfl) mL (by decide +kernel) (pa_cons
        (pe_dc (own := [("value", 1)]) (g := gName 1) (tt := tYes) (by rfl) scDiff.nd (pi_tup (pv 0)) (blkOk_by (own := [("value", 1)]) (N := ["values", "value"]) (sc := defScope sDiff) (by decide +kernel)) (fun _ _ _ _ _ => pg_name (i := 1) scDiff.nd rfl (Or.inl rfl)) (fun _ _ _ _ _ => pts_nil) (fun _ _ _ _ _ => pv 1) (fun _ _ _ _ _ => pe_bl)) pa_nil)) pa_nil)) pa_nil)))), ?_⟩
    rcases h with ⟨⟨t, ht, kt⟩, hE⟩ | ⟨a, xs, rfl, hS, hI, hl, hE, hQ⟩
    · refine ⟨x, rfl, x, .ty "tuple", t, .type "tuple", false, rfl, .ty _, ht, kt, false, rfl, iteT (iteT ?_)⟩
      exact ⟨_, rfl, hE H (Same.refl H)⟩
    · refine ⟨.ref a, rfl, .ref a, .ty "tuple", .type "tuple", .type "tuple", true, rfl, .ty _, ty_tup hS, kit_ty (by decide +kernel), true, rfl, iteF ?_⟩
      refine ⟨.ref a, rfl, a, rfl, ⟨_, hS⟩, fun D nD => lc_map (h := fun x : V => x) (xs := xs) (by rw [List.map_id']; exact walk_tup) rfl (fun x => .bl (isN x)) nD (fun H2 s2 => s2.tup hS) (by omega) (fun x hx H2 s2 Q' q' => ?_) fun H2 s2 e2 => ?_⟩
      · obtain ⟨i1, i2⟩ := hI x hx H2 s2
        exact ⟨x, rfl, x, rfl, i1, i2, fun H3 s3 => q' H3 s3⟩
      · refine ⟨D, xs.map isN, rfl, lst_of (by rw [e2, List.map_map]; rfl), ?_⟩
        rw [List.all_map]
        cases ha : xs.all isN with
        | false =>
          have e : xs.all (id ∘ isN) = false := ha
          rw [e]
          exact ⟨false, rfl, iteT ⟨_, rfl, hE ha H2 s2⟩⟩
        | true =>
          have e : xs.all (id ∘ isN) = true := ha
          rw [e]
          obtain ⟨ex, nx⟩ := all_names ha
          generalize txts xs = zs at ex nx hQ
          subst ex
          rw [List.length_map] at hl
          refine ⟨true, rfl, iteF ?_⟩
          have hS2 := s2.tup hS
          refine ⟨.ref a, rfl, a, rfl, ⟨_, hS2⟩, fun D3 nD3 => dc_tup (xs := zs.map V.str) (fun i H3 => Same H2 H3 ∧ H3 D3 = some (.dK ((firsts (zs.take i)).map keyT))) ⟨same_new nD3, by rw [upd_same]; rfl⟩ (fun i H3 _ p => p.1.tup hS2) (fun i x H3 hx p => ?_) fun H3 p => ?_⟩
          · obtain ⟨s3, e3⟩ := p
            rw [List.getElem?_map] at hx
            cases hz : zs[i]? with
            | none => rw [hz] at hx; cases hx
            | some z =>
              rw [hz] at hx
              have ex : V.str z = x := Option.some.inj hx
              subst ex
              have hi : i < zs.length := (List.getElem?_eq_some_iff.mp hz).1
              have tk : zs.take (i + 1) = zs.take i ++ [z] := by rw [List.take_add_one, hz]; rfl
              refine ⟨by simp [wipe], ?_⟩
              unfold tYes
              simp only [↓reduceIte]
              refine ⟨_, rfl, _, Sum.inr z, rfl, e3, ?_, ?_, ?_⟩
              · have := firsts_len (zs.take i)
                rw [List.length_map]
                rw [List.length_take] at this
                exact small1000 (by omega)
              · exact s3.mut nD3
              · rw [upd_same, put_keyT, ← firsts_snoc, ← tk]
          · obtain ⟨s3, e3⟩ := p
            rw [List.length_map, List.take_length] at e3
            refine ⟨D3, _, rfl, e3, fun p4 n4 => ?_⟩
            have fl := firsts_len zs
            refine ⟨p4, firsts zs, rfl, lst_of ?_, by omega, fun ys p5 pm so n5 => ?_⟩
            · rw [upd_same, List.map_map]
              rfl
            · have ey : ys = canon zs := canon_is pm so
              subst ey
              refine ⟨p5, _, rfl, .inl ⟨lst_of upd_same, fun p6 n6 => ?_⟩⟩
              have s6 := ((s2.trans s3).new n4 |>.new n5).new (o := .tup ((canon zs).map V.str)) n6
              exact hQ ha p6 _ s6 (((s2.trans s3).new n4 |>.new n5).free n6) upd_same
end
end Tf

/-! Language.__init__ -/
namespace Tf
open PySem PySem.Spec PyProof.Rows L2
abbrev sLang : Stmt := top 14
abbrev sInit : Stmt := inClass sLang 0
theorem scInit : FnScope ["self", "kinds", "marks", "kind"] ["self", "kinds", "marks"] (defScope sInit) := ⟨rfl, rfl, rfl, by decide +kernel, rfl, by decide +kernel, by decide +kernel⟩
/-- a language stands at a: its marks and kinds -/
def LangAt (C : Addr) (H : Hp) (a : Addr) (ms ks : List Str) : Prop := ∃ dx fs pm pk, H a = some (.ins C dx fs) ∧ fs.lookup ("own_marks" : Str) = some (.ref pm) ∧ fs.lookup ("own_kinds" : Str) = some (.ref pk) ∧ H pm = some (.tup (ms.map V.str)) ∧ H pk = some (.tup (ks.map V.str)) ∧ fs.map (·.1) = [("own_marks" : Str), "own_kinds"]
theorem LangAt.same {C : Addr} {H H' : Hp} {a : Addr} {ms ks : List Str} (h : LangAt C H a ms ks) (s : Same H H') : LangAt C H' a ms ks := by
  obtain ⟨dx, fs, pm, pk, h1, h2, h3, h4, h5, h6⟩ := h
  exact ⟨dx, fs, pm, pk, s _ _ h1, h2, h3, s _ _ h4, s _ _ h5, h6⟩
/-- whether these marks and kinds make a language -/
def langOk (ms ks : List Str) : Bool := (decide ((canon ms).length ≤ 8) && (decide (1 ≤ (canon ks).length) && decide ((canon ks).length ≤ 4))) && !(canon ks).any fun k => decide (k ∈ canon ms)
/-- marks ms, the value kv as kinds: it is done, or refused -/
def Makes (K : PySem.W.Frag) (H0 : Hp) (ms : List V) (kv : V) (good : List Str → Prop) (bad : Prop) : Prop :=
  (∀ y ∈ ms, ∀ H', Same H0 H' → Item K H' y) ∧ ms.length ≤ 60 ∧
  ((ms.all isN = false → bad) ∧ (ms.all isN = true →
    (((∀ H', Same H0 H' → NoTup K H' kv) ∧ bad) ∨
     ∃ (a : Addr) (ks : List V), kv = .ref a ∧ SqT K H0 a ks ∧ (∀ y ∈ ks, ∀ H', Same H0 H' → Item K H' y) ∧ ks.length ≤ 60 ∧
      (ks.all isN = false → bad) ∧ (ks.all isN = true → langOk (txts ms) (txts ks) = false → bad) ∧ (ks.all isN = true → langOk (txts ms) (txts ks) = true → good (txts ks)))))
def spBody (K : PySem.W.Frag) (C CI : Addr) : Sp := fun vs H Q E => ∃ (x pm dx : Addr) (kv : V) (ms : List V) (H0 : Hp), vs = [.ref x, kv, .ref pm] ∧ Same H0 H ∧ H0 x = none ∧ H x = some (.ins C dx []) ∧ H pm = some (.tup ms) ∧
  Makes K H0 ms kv (fun ks => ∀ H', Same H0 H' → LangAt C H' x (canon (txts ms)) (canon ks) → Q .non H') (∀ H', Same H0 H' → E (.ref CI) none H')
theorem flat_strs (zs : List Str) : (zs.map V.str).all flatV = true := by
  rw [List.all_map]
  exact List.all_eq_true.mpr fun _ _ => rfl
theorem any_congr {α : Type} {xs : List α} {p q : α → Bool} (h : ∀ z, p z = q z) : xs.any p = xs.any q := by rw [show p = q from funext h]
theorem inV_strs (z : Str) (zs : List Str) : inV (.str z) (zs.map V.str) = decide (z ∈ zs) := by
  unfold inV
  rw [List.any_map]
  by_cases h : z ∈ zs
  · rw [decide_eq_true h]
    exact List.any_eq_true.mpr ⟨z, h, show (z == z) = true by simp⟩
  · rw [decide_eq_false h]
    refine List.any_eq_false.mpr fun y hy e => h ?_
    have e' : (y == z) = true := e
    rw [← beq_iff_eq.mp e']
    exact hy
section
variable {P : Program} {w : World} {K : PySem.W.Frag} {mg : Str → Option Value} {base : Heap}
/-- what of the class Language the written part tells -/
structure LCls (K : PySem.W.Frag) (C : Addr) : Prop where
  cl : Cls K C
  nm : NoAttr K C "own_marks"
  nk : NoAttr K C "own_kinds"
theorem body_init {f fD CI CT fI C : Addr} {fdD : FuncData} {k : Nat} {t8 t4 : Tok} (L : LCls K C) (T : TreeTxt P K mg "InvalidLanguage" CI CT fI) (GD : FnOk P w K mg base (L2.CX P w) k fD fdD ["values"] (spDiff K CI)) (bD : Binds K fdD ["values"] []) (gD : mg "different_names" = some (.ref fD)) (kD : PySem.W.keepIn K (.ref fD) = true)
    (mL : mg "len" = none) (mA : mg "any" = none) (g8 : mg "MAX_MARKS" = some (.int 8 t8)) (g4 : mg "MAX_KINDS" = some (.int 4 t4))
    (cdv : Value) (A : Around) (outer : List Env) (s : Shared) (H : Hp) (vs : List V) (Q : VK) (E : XK) (hr : Room k (A.deeper (envOfC "Language.__init__" (defScope sInit) s.heap.objs.size f cdv))) (h : spBody K C CI vs H Q E) :
    ∃ t, PSs (cxOf (L2.CX P w) P w K mg base ["self", "kinds", "marks", "kind"] "Language.__init__" (defScope sInit) f cdv A outer s H E) (defBody sInit) t ∧ t { nx := fun _ H' => Q .non H', rt := Q } (start ["self", "kinds", "marks", "kind"] vs) H := by
  obtain ⟨x, pm, dx, kv, ms, H0, rfl, s0, nx, hx, hpm, mi, ml, mb, mk⟩ := h
  refine ⟨_, pss_cons (ps_fld (pv 0) (pe_call GD hr (by rfl) gD kD bD .nil (passes_call (takes_of rfl rfl rfl rfl) (fun _ _ _ _ h => h)) (pa_cons (pv 2) pa_nil)) rfl)
    (pss_cons (ps_fld (pv 0) (pe_call GD hr (by rfl) gD kD bD .nil (passes_call (takes_of rfl rfl rfl rfl) (fun _ _ _ _ h => h)) (pa_cons (pv 1) pa_nil)) rfl)
    (pss_cons (ps_if (PW.pt (pw_or (pt_cmpR op_gt (pe_callB call_len_seq (by rfl) mL PySem.boot_len (pa_cons (pe_fld (pv 0) rfl) pa_nil)) (pe_glob (v := .int 8) rfl g8 ⟨_, rfl⟩) (nomark _))
        (pw_or1 (pt_not (pt_chain op_le op_le pe_int (pe_callB call_len_seq (by rfl) mL PySem.boot_len (pa_cons (pe_fld (pv 0) rfl) pa_nil)) (pe_glob (v := .int 4) rfl g4 ⟨_, rfl⟩))))))
      (pss_one (ps_raise rfl (takes_of rfl rfl rfl rfl) (pmk_tree T hr (pa_cons pe_str pa_nil)))) pss_nil)
    (pss_one (ps_if (pt_val (pe_callB (cr_any rfl) (by rfl) mA (by decide +kernel) (pa_cons (pe_lc (own := [("kind", 3)]) (g := gName 3) (tt := tYes) (te := tOp (rIn K false) (tVar 3) (tFld K (tVar 0) "own_marks")) (by rfl) scInit.nd (pi_tup (pe_fld (pv 0) (by rfl))) (blkOk_by (own := [("kind", 3)]) (N := ["self", "kinds", "marks", "kind"]) (sc := defScope sInit) (by decide +kernel)) (fun _ _ _ _ _ => pg_name (i := 3) scInit.nd rfl (Or.inl rfl)) (fun _ _ _ _ _ => pts_nil)
          (fun _ _ _ _ _ => pe_cmpR op_in_seq (pv 3) (pe_fld (pv 0) (by rfl)) (by rfl))) pa_nil)))
      (pss_one (ps_raise rfl (takes_of rfl rfl rfl rfl) (pmk_tree T hr (pa_cons pe_str pa_nil)))) pss_nil)))), ?_⟩
  refine ⟨.ref pm, rfl, .ref pm, rfl, .inr ⟨pm, ms, rfl, tup_of hpm, fun y hy H' s' => mi y hy H' (s0.trans s'), ml, fun c H' s' => mb c H' (s0.trans s'), fun ha p H1 s1 np e1 => ?_⟩⟩
  have npx : p ≠ x := (ne_of_none hx np).symm
  refine ⟨.ref x, rfl, x, C, dx, [], rfl, s1 _ _ hx, L.cl, L.nm, by decide, ?_⟩
  have s2 : Same H0 (upd H1 x (.ins C dx (putF "own_marks" (.ref p) []))) := (s0.trans s1).mut nx
  have x2 : (upd H1 x (.ins C dx (putF "own_marks" (.ref p) []))) x = some (.ins C dx [(("own_marks" : Str), .ref p)]) := upd_same
  have p2 : (upd H1 x (.ins C dx (putF "own_marks" (.ref p) []))) p = some (.tup ((canon (txts ms)).map V.str)) := by rw [upd_ne npx]; exact e1
  generalize upd H1 x (.ins C dx (putF "own_marks" (.ref p) [])) = H2 at s2 x2 p2 ⊢
  refine ⟨kv, rfl, kv, rfl, ?_⟩
  rcases mk ha with ⟨nt, bad⟩ | ⟨a, ks, rfl, hS, ki, kl, b1, b2, gd⟩
  · exact .inl ⟨nt H2 s2, fun H' s' => bad H' (s2.trans s')⟩
  refine .inr ⟨a, ks, rfl, s2.tup hS, fun y hy H' s' => ki y hy H' (s2.trans s'), kl, fun c H' s' => b1 c H' (s2.trans s'), fun hb pk H3 s3 npk e3 => ?_⟩
  have nkx : pk ≠ x := (ne_of_none x2 npk).symm
  have nkp : pk ≠ p := (ne_of_none p2 npk).symm
  refine ⟨.ref x, rfl, x, C, dx, _, rfl, s3 _ _ x2, L.cl, L.nk, (show 1 < 1000 by decide), ?_⟩
  have s4 : Same H0 (upd H3 x (.ins C dx (putF "own_kinds" (.ref pk) [(("own_marks" : Str), .ref p)]))) := (s2.trans s3).mut nx
  have x4 : (upd H3 x (.ins C dx (putF "own_kinds" (.ref pk) [(("own_marks" : Str), .ref p)]))) x = some (.ins C dx [(("own_marks" : Str), .ref p), (("own_kinds" : Str), .ref pk)]) := upd_same
  have p4 : (upd H3 x (.ins C dx (putF "own_kinds" (.ref pk) [(("own_marks" : Str), .ref p)]))) p = some (.tup ((canon (txts ms)).map V.str)) := by rw [upd_ne npx]; exact s3 _ _ p2
  have k4 : (upd H3 x (.ins C dx (putF "own_kinds" (.ref pk) [(("own_marks" : Str), .ref p)]))) pk = some (.tup ((canon (txts ks)).map V.str)) := by rw [upd_ne nkx]; exact e3
  generalize upd H3 x (.ins C dx (putF "own_kinds" (.ref pk) [(("own_marks" : Str), .ref p)])) = H4 at s4 x4 p4 k4 ⊢
  have b2' := b2 hb
  have gd' := gd hb
  -- the numbers
  refine ⟨.ref x, rfl, x, C, dx, _, .ref p, rfl, x4, L.cl, L.nm, rfl, p, _, rfl, .inr (tup_of p4), _, 8, rfl, rfl, _, rfl, ?_⟩
  rw [List.length_map]
  have no : ((canon (txts ms)).length ≤ 8 ∧ 1 ≤ (canon (txts ks)).length ∧ (canon (txts ks)).length ≤ 4 → False) → E (.ref CI) none H4 := fun c => by
    refine b2' ?_ H4 s4
    cases hk : langOk (txts ms) (txts ks) with
    | false => rfl
    | true =>
      unfold langOk at hk
      rw [Bool.and_eq_true, Bool.and_eq_true, Bool.and_eq_true] at hk
      exact (c ⟨of_decide_eq_true hk.1.1, of_decide_eq_true hk.1.2.1, of_decide_eq_true hk.1.2.2⟩).elim
  refine ite2 (fun c1 => iteT ⟨_, rfl, no fun c => ?_⟩) (fun c1 => ?_)
  · have c1' : (8 : Int) < ((canon (txts ms)).length : Int) := of_decide_eq_true c1
    omega
  have c1' : ¬ (8 : Int) < ((canon (txts ms)).length : Int) := fun z => c1 (decide_eq_true z)
  refine ⟨.ref x, rfl, x, C, dx, _, .ref pk, rfl, x4, L.cl, L.nk, rfl, pk, _, rfl, .inr (tup_of k4), 1, _, rfl, rfl, _, rfl, ?_⟩
  rw [List.length_map]
  refine ite2 (fun c2 => ?_) (fun c2 => ⟨false, rfl, iteT ⟨_, rfl, no fun c => ?_⟩⟩)
  rotate_left
  · exact c2 (decide_eq_true (by omega))
  have c2' : (1 : Int) ≤ ((canon (txts ks)).length : Int) := of_decide_eq_true c2
  refine ⟨_, 4, rfl, rfl, _, rfl, ?_⟩
  by_cases c3 : (canon (txts ks)).length ≤ 4
  rotate_left
  · have d3 : decide (((canon (txts ks)).length : Int) ≤ 4) = false := decide_eq_false (by omega)
    rw [d3]
    exact iteT ⟨_, rfl, no fun c => c3 c.2.2⟩
  have d3 : decide (((canon (txts ks)).length : Int) ≤ 4) = true := decide_eq_true (by omega)
  rw [d3]
  refine iteF ?_
  -- marks and kinds
  refine ⟨.ref x, rfl, x, C, dx, _, .ref pk, rfl, x4, L.cl, L.nk, rfl, pk, rfl, ⟨_, tup_of k4⟩, fun D nD => lc_map (h := V.str) (xs := canon (txts ks)) (by have := walk_tup (K := K) (a := pk) (xs := (canon (txts ks)).map V.str); rw [List.length_map] at this; exact this) rfl (fun z => .bl (inV (.str z) ((canon (txts ms)).map V.str))) nD (fun H5 s5 => tup_of (s5 _ _ k4)) (by omega) (fun z hz H5 s5 Q' q' => ?_) fun H5 s5 e5 => ?_⟩
  · exact ⟨_, rfl, .ref x, rfl, x, C, dx, _, .ref p, rfl, s5 _ _ x4, L.cl, L.nm, rfl, p, _, rfl, .inr (tup_of (s5 _ _ p4)), rfl, flat_strs _, q' H5 (Same.refl H5)⟩
  · refine ⟨D, (canon (txts ks)).map fun z => inV (.str z) ((canon (txts ms)).map V.str), rfl, lst_of (by rw [e5, List.map_map]; rfl), ?_⟩
    have e : ((canon (txts ks)).map fun z => inV (.str z) ((canon (txts ms)).map V.str)).any id = (canon (txts ks)).any fun k => decide (k ∈ canon (txts ms)) := by
      rw [List.any_map]
      refine any_congr fun z => ?_
      exact inV_strs z _
    rw [e]
    have d1 : decide ((canon (txts ms)).length ≤ 8) = true := decide_eq_true (by omega)
    have d2 : decide (1 ≤ (canon (txts ks)).length) = true := decide_eq_true (by omega)
    have d4 : decide ((canon (txts ks)).length ≤ 4) = true := decide_eq_true c3
    have lo : langOk (txts ms) (txts ks) = !(canon (txts ks)).any fun k => decide (k ∈ canon (txts ms)) := by
      unfold langOk
      rw [d1, d2, d4]
      rfl
    rw [lo] at b2' gd'
    generalize ((canon (txts ks)).any fun k => decide (k ∈ canon (txts ms))) = b at b2' gd' ⊢
    cases b with
    | true => exact ⟨true, rfl, iteT ⟨_, rfl, b2' rfl H5 (s4.trans s5)⟩⟩
    | false => exact ⟨false, rfl, iteF (gd' rfl H5 (s4.trans s5) ⟨dx, _, p, pk, s5 _ _ x4, rfl, rfl, s5 _ _ p4, s5 _ _ k4, rfl⟩)⟩
end
end Tf

/-! Language.of and the methods of a language -/
namespace Tf
open PySem PySem.Spec PyProof.Rows L2
abbrev sOf : Stmt := inClass sLang 1
abbrev sMarks : Stmt := inClass sLang 2
abbrev sKinds : Stmt := inClass sLang 3
abbrev sEq : Stmt := inClass sLang 10
abbrev sHas : Stmt := inClass sLang 11
abbrev sLen : Stmt := inClass sLang 12
abbrev sStr : Stmt := inClass sLang 13
theorem scOf : FnScope ["cls", "marks", "kinds"] ["cls", "marks", "kinds"] (defScope sOf) := ⟨rfl, rfl, rfl, by decide +kernel, rfl, by decide +kernel, by decide +kernel⟩
theorem scMarks : FnScope ["self"] ["self"] (defScope sMarks) := ⟨rfl, rfl, rfl, by decide +kernel, rfl, by decide +kernel, by decide +kernel⟩
theorem scKinds : FnScope ["self"] ["self"] (defScope sKinds) := ⟨rfl, rfl, rfl, by decide +kernel, rfl, by decide +kernel, by decide +kernel⟩
theorem scEq : FnScope ["self", "other"] ["self", "other"] (defScope sEq) := ⟨rfl, rfl, rfl, by decide +kernel, rfl, by decide +kernel, by decide +kernel⟩
theorem scHas : FnScope ["self", "value"] ["self", "value"] (defScope sHas) := ⟨rfl, rfl, rfl, by decide +kernel, rfl, by decide +kernel, by decide +kernel⟩
theorem scLen : FnScope ["self"] ["self"] (defScope sLen) := ⟨rfl, rfl, rfl, by decide +kernel, rfl, by decide +kernel, by decide +kernel⟩
theorem scStr : FnScope ["self"] ["self"] (defScope sStr) := ⟨rfl, rfl, rfl, by decide +kernel, rfl, by decide +kernel, by decide +kernel⟩
/-- Language(*ms, kinds = kv), self made: at the heap behind the making -/
def spInit (K : PySem.W.Frag) (C CI : Addr) : SpK := fun vs zs H Q E => ∃ (H0 : Hp) (x dx : Addr) (ms : List V) (kv : V), vs = .ref x :: ms ∧ zs = [kv] ∧ H = upd (upd H0 dx (.own x)) x (.ins C dx []) ∧ H0 x = none ∧ H0 dx = none ∧ dx ≠ x ∧
  Makes K H0 ms kv (fun ks => ∀ H', Same H0 H' → LangAt C H' x (canon (txts ms)) (canon ks) → Q .non H') (∀ H', Same H0 H' → E (.ref CI) none H')
/-- of(marks, kinds): it is made, or refused -/
def Made (K : PySem.W.Frag) (C : Addr) (H : Hp) (mv kv : V) (Q : V → Hp → Prop) (bad : Hp → Prop) : Prop :=
  (NoTup K H mv ∧ ∀ H', Same H H' → bad H') ∨
   ∃ (a : Addr) (ms : List V), mv = .ref a ∧ SqT K H a ms ∧
     Makes K H ms kv (fun ks => ∀ (x : Addr) (H' : Hp), Same H H' → H x = none → LangAt C H' x (canon (txts ms)) (canon ks) → Q (.ref x) H') (∀ H', Same H H' → bad H')
/-- Language.of(m, kv) -/
def spOf (K : PySem.W.Frag) (C CI : Addr) : Sp := fun vs H Q E => ∃ (mv kv : V), vs = [.ref C, mv, kv] ∧ Made K C H mv kv Q (fun H' => E (.ref CI) none H')
section
variable {P : Program} {w : World} {K : PySem.W.Frag} {mg : Str → Option Value} {base : Heap}
theorem FnA.imp {CX : CXT} {k : Nat} {f : Addr} {ks : List Str} {sp sp' : SpK} (F : FnA P w K mg base CX k f ks sp) (h : ∀ vs zs H Q E, sp' vs zs H Q E → sp vs zs H Q E) : FnA P w K mg base CX k f ks sp' :=
  fun A outer s H us ws vs zs Q E hr e0 r rz hs => F A outer s H us ws vs zs Q E hr e0 r rz (h _ _ _ _ _ hs)
theorem ok_init {f fD CI CT fI C : Addr} {fd fdD : FuncData} {k : Nat} {t8 t4 : Tok} (F : Fun K "__init__" "Language.__init__" sInit f fd) (L : LCls K C) (T : TreeTxt P K mg "InvalidLanguage" CI CT fI) (GD : FnOk P w K mg base (L2.CX P w) k fD fdD ["values"] (spDiff K CI)) (bD : Binds K fdD ["values"] []) (gD : mg "different_names" = some (.ref fD)) (kD : PySem.W.keepIn K (.ref fD) = true)
    (mL : mg "len" = none) (mA : mg "any" = none) (g8 : mg "MAX_MARKS" = some (.int 8 t8)) (g4 : mg "MAX_KINDS" = some (.int 4 t4)) : FnA P w K mg base (L2.CX P w) (k + 1) f ["kinds"] (spInit K C CI) := by
  obtain ⟨oc, od, kV, doc, pm, an, cdv, ct, osl, rfl, lk, hcd⟩ := F.ex
  refine FnA.imp (fn_starK (pa := "self") (pk := "kinds") (pv := "marks") (sp := spBody K C CI) lk hcd scInit StX.cxUp (fun a rest b => ?_) (fun A outer s H vs Q E hr h => body_init L T GD bD gD kD mL mA g8 g4 cdv A outer s H vs Q E hr h)) ?_
  · cases rest with
    | nil => rfl
    | cons r rs => rfl
  · rintro vs zs H Q E ⟨H0, x, dx, ms, kv, rfl, rfl, rfl, nx, nd, ne, mk⟩
    refine ⟨.ref x, ms, kv, rfl, rfl, Nat.le_trans mk.2.1 (by decide), fun p np => ?_⟩
    have sx : Same H0 (upd (upd H0 dx (.own x)) x (.ins C dx [])) := (same_new nd).mut nx
    have px : p ≠ x := fun e => by rw [e, upd_same] at np; cases np
    exact ⟨x, p, dx, kv, ms, H0, rfl, sx.new np, nx, by rw [upd_ne px.symm]; exact upd_same, upd_same, mk⟩
theorem ok_of {f fN CI CT fI C : Addr} {fd : FuncData} {k : Nat} (F : Fun K "of" "Language.of" sOf f fd) (M : Mk K C fN) (T : TreeTxt P K mg "InvalidLanguage" CI CT fI) (GI : FnA P w K mg base (L2.CX P w) k fN ["kinds"] (spInit K C CI))
    (mI : mg "isinstance" = none) (mT : mg "tuple" = none) : FnOk P w K mg base (L2.CX P w) (k + 2) f fd ["cls", "marks", "kinds"] (spOf K C CI) := by
  refine F.okX scOf (fun vs H Q E h => ?_) (fun cdv A outer s H vs Q E hr h => ?_)
  · obtain ⟨mv, kv, rfl, _⟩ := h
    rfl
  · obtain ⟨mv, kv, rfl, h⟩ := h
    refine ⟨_, pss_cons (ps_if (pt_not (pt_val (pe_callB call_isi (by rfl) mI (by decide +kernel) (pa_cons (pv 1) (pa_cons (pe_bltn (v := .ty "tuple") (by rfl) mT (by decide +kernel) rfl) pa_nil)))))
        (pss_one (ps_raise rfl (takes_of rfl rfl rfl rfl) (pmk_tree T hr (pa_cons pe_str pa_nil)))) pss_nil)
      (pss_one (ps_ret (pe_makeSK M GI hr (passes_call (takes_of rfl rfl rfl rfl) (fun _ _ _ _ h => h)) (pv 0) (pv 1) (pk_cons (pv 2) pk_nil)))), ?_⟩
    rcases h with ⟨⟨t, ht, kt⟩, hE⟩ | ⟨a, ms, rfl, hS, mk⟩
    · refine ⟨mv, rfl, mv, .ty "tuple", t, .type "tuple", false, rfl, .ty _, ht, kt, false, rfl, iteT ?_⟩
      exact ⟨_, rfl, hE H (Same.refl H)⟩
    · refine ⟨.ref a, rfl, .ref a, .ty "tuple", .type "tuple", .type "tuple", true, rfl, .ty _, ty_tup hS, kit_ty (by decide +kernel), true, rfl, iteF ?_⟩
      refine ⟨.ref C, rfl, rfl, .ref a, rfl, kv, rfl, a, ms, rfl, .inl hS, rfl, fun x dx nx nd ne => ?_⟩
      refine ⟨H, x, dx, ms, kv, rfl, rfl, rfl, nx, nd, ne, mk.1, mk.2.1, mk.2.2.1, fun ha => ?_⟩
      rcases mk.2.2.2 ha with h | ⟨a', ks, h1, h2, h3, h4, h5, h6, h7⟩
      · exact .inl h
      · exact .inr ⟨a', ks, h1, h2, h3, h4, h5, h6, fun c1 c2 H' s' l' => ⟨rfl, h7 c1 c2 x H' s' nx l'⟩⟩
/-- o.marks, o.kinds -/
def spMarks (C : Addr) (b : Bool) : Sp := fun vs H Q _ => ∃ (a : Addr) (ms ks : List Str), vs = [.ref a] ∧ LangAt C H a ms ks ∧ ∀ p, H p = some (.tup ((if b then ms else ks).map V.str)) → Q (.ref p) H
theorem ok_marks {f C : Addr} {fd : FuncData} {k : Nat} (F : Fun K "marks" "Language.marks" sMarks f fd) (L : LCls K C) : FnOk P w K mg base CX0 (k + 1) f fd ["self"] (spMarks C true) := by
  refine F.ok scMarks (fun vs H Q E h => ?_) (fun cdv A outer s H vs Q E hr h => ?_)
  · obtain ⟨a, ms, ks, rfl, _⟩ := h
    rfl
  · obtain ⟨a, ms, ks, rfl, ⟨dx, fs, pm, pk, h1, h2, h3, h4, h5, h6⟩, q⟩ := h
    exact ⟨_, pss_one (ps_ret (pe_fld (pv 0) rfl)), .ref a, rfl, a, C, dx, fs, .ref pm, rfl, h1, L.cl, L.nm, h2, q pm h4⟩
theorem ok_kinds {f C : Addr} {fd : FuncData} {k : Nat} (F : Fun K "kinds" "Language.kinds" sKinds f fd) (L : LCls K C) : FnOk P w K mg base CX0 (k + 1) f fd ["self"] (spMarks C false) := by
  refine F.ok scKinds (fun vs H Q E h => ?_) (fun cdv A outer s H vs Q E hr h => ?_)
  · obtain ⟨a, ms, ks, rfl, _⟩ := h
    rfl
  · obtain ⟨a, ms, ks, rfl, ⟨dx, fs, pm, pk, h1, h2, h3, h4, h5, h6⟩, q⟩ := h
    exact ⟨_, pss_one (ps_ret (pe_fld (pv 0) rfl)), .ref a, rfl, a, C, dx, fs, .ref pk, rfl, h1, L.cl, L.nk, h3, q pk h5⟩
end
end Tf

/-! the special methods of a language -/
namespace Tf
open PySem PySem.Spec PyProof.Rows L2
/-- what isinstance sees of languages -/
structure LIs (K : PySem.W.Frag) (C : Addr) : Prop where
  ha : PySem.W.findIn K (.ref C) "__class__" = some (some (.builtin "object.__class__"))
  hn : PySem.W.specialIn K (.builtin "object.__class__") "__get__" = some (some (.builtin "getset_descriptor.__get__"))
  ht : PySem.W.takesIn K (.builtin "object.__class__") = some true
  hm : PySem.W.mroIn K C (.type "object") = some true
  me : PySem.W.kitOne K (.ref C) (.ref C) = some true
  tu : PySem.W.kitOne K (.ref C) (.type "tuple") = some false
/-- a value of a type that is no language -/
def NoLang (K : PySem.W.Frag) (C : Addr) (H : Hp) (y : V) : Prop := ∃ t : String, TyX K H y (.type t) ∧ PySem.W.kitOne K (.type t) (.ref C) = some false
def Nms (zs : List Str) : Prop := ∀ z ∈ zs, nameB z = true
/-- x among the texts -/
def hasB (x : V) (zs : List Str) : Bool := match x with
  | .str z => decide (z ∈ zs)
  | _ => false
theorem inV_flat {x : V} (h : flatV x = true) (zs : List Str) : inV x (zs.map V.str) = hasB x zs := by
  cases x with
  | str z => exact inV_strs z zs
  | non => unfold inV; rw [List.any_map]; exact List.any_eq_false.mpr fun y _ e => by cases e
  | bl b => unfold inV; rw [List.any_map]; exact List.any_eq_false.mpr fun y _ e => by cases e
  | int i => unfold inV; rw [List.any_map]; exact List.any_eq_false.mpr fun y _ e => by cases e
  | _ => cases h
def spHas (K : PySem.W.Frag) (C : Addr) : Sp := fun vs H Q _ => ∃ (a : Addr) (x : V) (ms ks : List Str), vs = [.ref a, x] ∧ LangAt C H a ms ks ∧ (flatV x = true ∨ Box K H x) ∧ Q (.bl (hasB x ms || hasB x ks)) H
def spEq (K : PySem.W.Frag) (C : Addr) : Sp := fun vs H Q _ => ∃ (a : Addr) (y : V) (ms ks : List Str), vs = [.ref a, y] ∧ LangAt C H a ms ks ∧ Nms ms ∧ Nms ks ∧
  ((NoLang K C H y ∧ Q (.bl false) H) ∨ ∃ (b : Addr) (ms' ks' : List Str), y = .ref b ∧ LangAt C H b ms' ks' ∧ Nms ms' ∧ Nms ks' ∧ Q (.bl (decide (ms = ms') && decide (ks = ks'))) H)
def spLen (C : Addr) : Sp := fun vs H Q _ => ∃ (a : Addr) (ms ks : List Str), vs = [.ref a] ∧ LangAt C H a ms ks ∧ ms.length + ks.length ≤ 100 ∧ ∀ H', Same H H' → Q (.int ((ms.length + ks.length : Nat) : Int)) H'
def langText (m k : Nat) : Str := ((((Str.empty ++ ("language of " : Str)) ++ ((toString (m : Int) : String) : Str)) ++ (" marks, " : Str)) ++ ((toString (k : Int) : String) : Str)) ++ (" kinds" : Str)
theorem len2 (a b : Str) : (a ++ b).length ≤ a.length + b.length := by
  show (a.cps ++ b.cps).size ≤ a.cps.size + b.cps.size
  rw [Array.size_append]
  exact Nat.le_refl _
theorem fits2 {a b : Str} {m n : Nat} (ha : a.length ≤ m) (hb : b.length ≤ n) (h : m + n ≤ 1000 := by decide) : (a ++ b).length ≤ sizeLine := Nat.le_trans (len2 a b) (Nat.le_trans (Nat.add_le_add ha hb) (Nat.le_trans h (by decide)))
theorem ints_short : ((List.range 101).all fun n => decide ((((toString (n : Int) : String) : Str)).length ≤ 10)) = true := by decide +kernel
theorem int_short {n : Nat} (h : n ≤ 100) : (((toString (n : Int) : String) : Str)).length ≤ 10 := of_decide_eq_true (List.all_eq_true.mp ints_short n (List.mem_range.mpr (by omega)))
theorem ints_small : ((List.range 101).all fun n => decide ((n : Int).natAbs.log2 < 1920)) = true := by decide +kernel
theorem int_small {n : Nat} (h : n ≤ 100) : (n : Int).natAbs.log2 < 1920 := of_decide_eq_true (List.all_eq_true.mp ints_small n (List.mem_range.mpr (by omega)))
section
variable {P : Program} {w : World} {K : PySem.W.Frag} {mg : Str → Option Value} {base : Heap}
theorem ok_has {f C : Addr} {fd : FuncData} {k : Nat} (F : Fun K "__contains__" "Language.__contains__" sHas f fd) (L : LCls K C) : FnOk P w K mg base CX0 (k + 1) f fd ["self", "value"] (spHas K C) := by
  refine F.ok scHas (fun vs H Q E h => ?_) (fun cdv A outer s H vs Q E hr h => ?_)
  · obtain ⟨a, x, ms, ks, rfl, _⟩ := h
    rfl
  · obtain ⟨a, x, ms, ks, rfl, ⟨dx, fs, pm, pk, h1, h2, h3, h4, h5, h6⟩, hx, q⟩ := h
    have hu : (A.deeper (envOfC "Language.__contains__" (defScope sHas) s.heap.objs.size f cdv)).units + 1 < cLine := by have := hr.un; omega
    refine ⟨_, pss_one (ps_ret (pe_or (pe_cmpR (op_inX hu) (pv 1) (pe_fld (pv 0) (by rfl)) (by rfl)) (pe_one (pe_cmpR (op_inX hu) (pv 1) (pe_fld (pv 0) (by rfl)) (by rfl))))), ?_⟩
    have one : ∀ (p : Addr) (zs : List Str) (Q' : VK), H p = some (.tup (zs.map V.str)) → Q' (.bl (hasB x zs)) H → rInX K false x (.ref p) H Q' := fun p zs Q' hp q' => by
      rcases hx with hf | hb
      · refine .inl ⟨p, _, rfl, .inr (tup_of hp), hf, flat_strs zs, ?_⟩
        rw [if_neg Bool.false_ne_true, inV_flat hf]
        exact q'
      · refine .inr ⟨p, zs, rfl, .inr (tup_of hp), hb, ?_⟩
        obtain ⟨b, rfl, _⟩ := hb
        exact q'
    refine ⟨x, rfl, .ref a, rfl, a, C, dx, fs, .ref pm, rfl, h1, L.cl, L.nm, h2, one pm ms _ h4 ⟨_, rfl, ?_⟩⟩
    cases hm : hasB x ms with
    | true =>
      rw [hm] at q
      exact q
    | false =>
      rw [hm] at q
      exact ⟨x, rfl, .ref a, rfl, a, C, dx, fs, .ref pk, rfl, h1, L.cl, L.nk, h3, one pk ks _ h5 q⟩
theorem ok_eq {f C : Addr} {fd : FuncData} {k : Nat} (F : Fun K "__eq__" "Language.__eq__" sEq f fd) (L : LCls K C) (I : LIs K C) (gL : mg "Language" = some (.ref C)) (mI : mg "isinstance" = none) : FnOk P w K mg base CX0 (k + 1) f fd ["self", "other"] (spEq K C) := by
  refine F.ok scEq (fun vs H Q E h => ?_) (fun cdv A outer s H vs Q E hr h => ?_)
  · obtain ⟨a, y, ms, ks, rfl, _⟩ := h
    rfl
  · obtain ⟨a, y, ms, ks, rfl, ⟨dx, fs, pm, pk, h1, h2, h3, h4, h5, h6⟩, nm, nk, h⟩ := h
    have hu : (A.deeper (envOfC "Language.__eq__" (defScope sEq) s.heap.objs.size f cdv)).units + 64 < cLine := by have := hr.un; omega
    refine ⟨_, pss_cons (ps_if (pt_not (pt_val (pe_callB call_isi (by rfl) mI (by decide +kernel) (pa_cons (pv 1) (pa_cons (pe_glob (v := .ref C) rfl gL rfl) pa_nil))))) (pss_one (ps_ret pe_bl)) pss_nil)
      (pss_one (ps_ret (pe_and (pe_cmpR (op_eqD hu) (pe_fld (pv 0) (by rfl)) (pe_fld (pv 1) (by rfl)) (nomark _)) (pe_one (pe_cmpR (op_eqD hu) (pe_fld (pv 0) (by rfl)) (pe_fld (pv 1) (by rfl)) (nomark _)))))), ?_⟩
    rcases h with ⟨⟨t, ht, kt⟩, q⟩ | ⟨b, ms', ks', rfl, ⟨dx', fs', pm', pk', g1, g2, g3, g4, g5, g6⟩, nm', nk', q⟩
    · exact ⟨y, rfl, y, .ref C, .type t, .ref C, false, rfl, .own C, ht, kt, false, rfl, iteT q⟩
    · refine ⟨.ref b, rfl, .ref b, .ref C, .ref C, .ref C, true, rfl, .own C, .base (.ins g1 L.cl I.ha I.hn I.ht I.hm), I.me, true, rfl, iteF ?_⟩
      refine ⟨.ref a, rfl, a, C, dx, fs, .ref pm, rfl, h1, L.cl, L.nm, h2, .ref b, rfl, b, C, dx', fs', .ref pm', rfl, g1, L.cl, L.nm, g2, .tuple (dS ms), .tuple (dS ms'), dp_tuple (tup_of h4), dp_tuple (tup_of g4), shaped_tuple nm, shaped_tuple nm', _, rfl, ?_⟩
      rw [eqv_tuples]
      by_cases c : ms = ms'
      · rw [decide_eq_true c] at q ⊢
        refine ⟨.ref a, rfl, a, C, dx, fs, .ref pk, rfl, h1, L.cl, L.nk, h3, .ref b, rfl, b, C, dx', fs', .ref pk', rfl, g1, L.cl, L.nk, g3, .tuple (dS ks), .tuple (dS ks'), dp_tuple (tup_of h5), dp_tuple (tup_of g5), shaped_tuple nk, shaped_tuple nk', ?_⟩
        rw [eqv_tuples]
        exact q
      · rw [decide_eq_false c] at q ⊢
        exact q
theorem ok_len {f C : Addr} {fd : FuncData} {k : Nat} (F : Fun K "__len__" "Language.__len__" sLen f fd) (L : LCls K C) (mL : mg "len" = none) : FnOk P w K mg base CX0 (k + 1) f fd ["self"] (spLen C) := by
  refine F.ok scLen (fun vs H Q E h => ?_) (fun cdv A outer s H vs Q E hr h => ?_)
  · obtain ⟨a, ms, ks, rfl, _⟩ := h
    rfl
  · obtain ⟨a, ms, ks, rfl, ⟨dx, fs, pm, pk, h1, h2, h3, h4, h5, h6⟩, ll, q⟩ := h
    refine ⟨_, pss_one (ps_ret (pe_callB call_len_seq (by rfl) mL PySem.boot_len (pa_cons (pe_op op_catA (pe_fld (pv 0) (by rfl)) (pe_fld (pv 0) (by rfl))) pa_nil))), ?_⟩
    refine ⟨.ref a, rfl, a, C, dx, fs, .ref pm, rfl, h1, L.cl, L.nm, h2, .ref a, rfl, a, C, dx, fs, .ref pk, rfl, h1, L.cl, L.nk, h3, pm, pk, _, _, rfl, rfl, tup_of h4, tup_of h5, ?_, fun e => ?_, fun _ e => ?_, fun _ _ p np => ?_⟩
    · rw [List.length_map, List.length_map]
      exact Nat.le_trans ll (by decide)
    · refine ⟨pk, _, rfl, .inr (tup_of h5), ?_⟩
      have e' : ms = [] := List.map_eq_nil_iff.mp e
      have z := q H (Same.refl H)
      rw [e'] at z
      rw [List.length_map]
      simpa using z
    · refine ⟨pm, _, rfl, .inr (tup_of h4), ?_⟩
      have e' : ks = [] := List.map_eq_nil_iff.mp e
      have z := q H (Same.refl H)
      rw [e'] at z
      rw [List.length_map]
      simpa using z
    · refine ⟨p, _, rfl, .inr (tup_of upd_same), ?_⟩
      rw [List.length_append, List.length_map, List.length_map]
      exact q _ (same_new np)
def spStr (C : Addr) : Sp := fun vs H Q _ => ∃ (a : Addr) (ms ks : List Str), vs = [.ref a] ∧ LangAt C H a ms ks ∧ ms.length ≤ 100 ∧ ks.length ≤ 100 ∧ Q (.str (langText ms.length ks.length)) H
theorem ok_str {f C : Addr} {fd : FuncData} {k : Nat} (F : Fun K "__str__" "Language.__str__" sStr f fd) (L : LCls K C) (mL : mg "len" = none) : FnOk P w K mg base CX0 (k + 1) f fd ["self"] (spStr C) := by
  refine F.ok scStr (fun vs H Q E h => ?_) (fun cdv A outer s H vs Q E hr h => ?_)
  · obtain ⟨a, ms, ks, rfl, _⟩ := h
    rfl
  · obtain ⟨a, ms, ks, rfl, ⟨dx, fs, pm, pk, h1, h2, h3, h4, h5, h6⟩, l1, l2, q⟩ := h
    refine ⟨_, pss_one (ps_ret (pe_joined (.cons pe_str (.cons (pe_fmt (pe_callB call_len_seq (by rfl) mL PySem.boot_len (pa_cons (pe_fld (pv 0) (by rfl)) pa_nil))) (.cons pe_str (.cons (pe_fmt (pe_callB call_len_seq (by rfl) mL PySem.boot_len (pa_cons (pe_fld (pv 0) (by rfl)) pa_nil))) (.cons pe_str .nil))))))), ?_⟩
    have z1 := int_short (n := ms.length) l1
    have z2 := int_short (n := ks.length) l2
    refine ⟨_, rfl, by decide +kernel, .ref a, rfl, a, C, dx, fs, .ref pm, rfl, h1, L.cl, L.nm, h2, pm, _, rfl, .inr (tup_of h4), .inr ⟨_, rfl, by rw [List.length_map]; exact int_small l1, _, rfl, ?_, _, rfl, ?_, .ref a, rfl, a, C, dx, fs, .ref pk, rfl, h1, L.cl, L.nk, h3, pk, _, rfl, .inr (tup_of h5), .inr ⟨_, rfl, by rw [List.length_map]; exact int_small l2, _, rfl, ?_, _, rfl, ?_, ?_⟩⟩⟩
    · rw [List.length_map]
      exact fits2 (show _ ≤ 100 by decide +kernel) z1
    · rw [List.length_map]
      exact fits2 (Nat.le_trans (len2 _ _) (Nat.add_le_add (by decide +kernel : _ ≤ 100) z1)) (show _ ≤ 100 by decide +kernel)
    · rw [List.length_map, List.length_map]
      exact fits2 (Nat.le_trans (len2 _ _) (Nat.add_le_add (Nat.le_trans (len2 _ _) (Nat.add_le_add (by decide +kernel : _ ≤ 100) z1)) (by decide +kernel : _ ≤ 100))) z2
    · rw [List.length_map, List.length_map]
      exact fits2 (Nat.le_trans (len2 _ _) (Nat.add_le_add (Nat.le_trans (len2 _ _) (Nat.add_le_add (Nat.le_trans (len2 _ _) (Nat.add_le_add (by decide +kernel : _ ≤ 100) z1)) (by decide +kernel : _ ≤ 100))) z2)) (show _ ≤ 100 by decide +kernel)
    · rw [List.length_map, List.length_map]
      exact q
end
end Tf

/-! languages in plain words -/
namespace L2
open PySem PySem.Spec PyProof.Rows
theorem op_or2 {X : Cx} {op : Value → Value → Sem Value} {r r' : R2} (h : OpR X op r) (h' : OpR X op r') : OpR X op (fun x y H Q => r x y H Q ∨ r' x y H Q) := by
  intro pins s σ H x y v u Q I rx ry q
  rcases q with q | q
  · exact h pins s σ H x y v u Q I rx ry q
  · exact h' pins s σ H x y v u Q I rx ry q
end L2
namespace Tf
open PySem PySem.Spec PyProof.Rows L2
theorem item_str {K : PySem.W.Frag} {H : Hp} {z : Str} (h : nameB z = true) : Item K H (.str z) := ⟨.inl ⟨z, rfl, by have := nameB_len h; omega⟩, .inl ⟨z, rfl⟩⟩
theorem items_strs {K : PySem.W.Frag} {zs : List Str} (h : Nms zs) {H0 : Hp} : ∀ y ∈ zs.map V.str, ∀ H', Same H0 H' → Item K H' y := fun y hy H' _ => by
  obtain ⟨z, hz, rfl⟩ := List.mem_map.mp hy
  exact item_str (h z hz)
theorem txts_strs : ∀ zs : List Str, txts (zs.map V.str) = zs
  | [] => rfl
  | z :: zs => by
    show txts (.str z :: zs.map V.str) = z :: zs
    rw [txts_cons_str, txts_strs zs]
theorem all_strs {zs : List Str} (h : Nms zs) : (zs.map V.str).all isN = true := List.all_eq_true.mpr fun y hy => by
  obtain ⟨z, hz, rfl⟩ := List.mem_map.mp hy
  exact h z hz
theorem Nms.canon {zs : List Str} (h : Nms zs) : Nms (L2.canon zs) := fun z hz => h z (mem_canon.mp hz)
section
variable {K : PySem.W.Frag} {C : Addr} {H : Hp} {Q : V → Hp → Prop} {bad : Hp → Prop}
theorem made_names {a b : Addr} {ms ks : List Str} (ha : SqT K H a (ms.map V.str)) (hb : SqT K H b (ks.map V.str)) (nm : Nms ms) (nk : Nms ks) (lm : ms.length ≤ 60) (lk : ks.length ≤ 60) (h0 : langOk ms ks = false → ∀ H', Same H H' → bad H')
    (h1 : langOk ms ks = true → ∀ (x : Addr) (H' : Hp), Same H H' → H x = none → LangAt C H' x (canon ms) (canon ks) → Q (.ref x) H') : Made K C H (.ref a) (.ref b) Q bad := by
  refine .inr ⟨a, _, rfl, ha, items_strs nm, by rw [List.length_map]; exact lm, fun c => ?_, fun _ => .inr ⟨b, _, rfl, hb, items_strs nk, by rw [List.length_map]; exact lk, fun c => ?_, ?_, ?_⟩⟩
  · rw [all_strs nm] at c
    cases c
  · rw [all_strs nk] at c
    cases c
  · rw [txts_strs, txts_strs]
    exact fun _ c => h0 c
  · rw [txts_strs, txts_strs]
    exact fun _ c => h1 c
theorem made_noM {mv kv : V} (h : NoTup K H mv) (hb : ∀ H', Same H H' → bad H') : Made K C H mv kv Q bad := .inl ⟨h, hb⟩
theorem made_noK {a : Addr} {kv : V} {ms : List Str} (ha : SqT K H a (ms.map V.str)) (nm : Nms ms) (lm : ms.length ≤ 60) (h : ∀ H', Same H H' → NoTup K H' kv) (hb : ∀ H', Same H H' → bad H') : Made K C H (.ref a) kv Q bad :=
  .inr ⟨a, _, rfl, ha, items_strs nm, by rw [List.length_map]; exact lm, fun _ => hb, fun _ => .inl ⟨h, hb⟩⟩
end
theorem of_made {K : PySem.W.Frag} {C CI : Addr} {H : Hp} {mv kv : V} {Q : VK} {E : XK} (h : Made K C H mv kv Q (fun H' => E (.ref CI) none H')) : spOf K C CI [.ref C, mv, kv] H Q E := ⟨mv, kv, rfl, h⟩
theorem no_list {K : PySem.W.Frag} {H : Hp} {a : Addr} {xs : List V} (h : H a = some (.lst xs)) : NoTup K H (.ref a) := ⟨_, .base (.lst h), kit_ty (by decide +kernel)⟩
theorem no_non {K : PySem.W.Frag} {H : Hp} : NoTup K H .non := ⟨_, .base .non, kit_ty (by decide +kernel)⟩
theorem canon_rev (zs : List Str) : canon zs.reverse = canon zs := canon_congr fun z => by rw [List.mem_reverse]
theorem ok_rev (ms ks : List Str) : langOk ms.reverse ks.reverse = langOk ms ks := by unfold langOk; rw [canon_rev, canon_rev]
theorem ok_canon (ms ks : List Str) : langOk (canon ms) (canon ks) = langOk ms ks := by unfold langOk; rw [canon_canon, canon_canon]
theorem canon_drop (zs : List Str) : canon ((canon zs).drop 1) = (canon zs).drop 1 := canon_self ((nodup_canon zs).sublist (List.drop_sublist 1 _)) ((canon_pw zs).sublist (List.drop_sublist 1 _))
theorem ok_parts {ms ks : List Str} (h : langOk ms ks = true) : (canon ms).length ≤ 8 ∧ 1 ≤ (canon ks).length ∧ (canon ks).length ≤ 4 ∧ ∀ z ∈ canon ks, z ∉ canon ms := by
  unfold langOk at h
  rw [Bool.and_eq_true, Bool.and_eq_true, Bool.and_eq_true, Bool.not_eq_true'] at h
  refine ⟨of_decide_eq_true h.1.1, of_decide_eq_true h.1.2.1, of_decide_eq_true h.1.2.2, fun z hz hm => ?_⟩
  exact (List.any_eq_false.mp h.2 z hz) (decide_eq_true hm)
theorem ok_of_parts {ms ks : List Str} (h1 : (canon ms).length ≤ 8) (h2 : 1 ≤ (canon ks).length) (h3 : (canon ks).length ≤ 4) (h4 : ∀ z ∈ canon ks, z ∉ canon ms) : langOk ms ks = true := by
  unfold langOk
  rw [Bool.and_eq_true, Bool.and_eq_true, Bool.and_eq_true, Bool.not_eq_true']
  refine ⟨⟨decide_eq_true h1, decide_eq_true h2, decide_eq_true h3⟩, List.any_eq_false.mpr fun z hz c => h4 z hz (of_decide_eq_true c)⟩
theorem ok_drop {ms ks : List Str} (h : langOk ms ks = true) : langOk ((canon ms).drop 1) (canon ks) = true := by
  obtain ⟨h1, h2, h3, h4⟩ := ok_parts h
  refine ok_of_parts ?_ ?_ ?_ ?_
  · rw [canon_drop, List.length_drop]
    omega
  · rw [canon_canon]
    exact h2
  · rw [canon_canon]
    exact h3
  · rw [canon_canon, canon_drop]
    exact fun z hz hm => h4 z hz (List.mem_of_mem_drop hm)
theorem shaped3 {a b : List Str} {n : Int} (ha : Nms a) (hb : Nms b) : SeqAt.shaped (.list [.tuple (dS a), .tuple (dS b), .int n]) = true := by
  show (PyData.canLay0 (.list [.tuple (dS a), .tuple (dS b), .int n]) && decide (PyData.depth (.list [.tuple (dS a), .tuple (dS b), .int n]) ≤ 64)) = true
  rw [Bool.and_eq_true]
  refine ⟨by simp only [PyData.canLay0, PyData.canLayAll0, lay_strs ha, lay_strs hb, Bool.and_self], decide_eq_true ?_⟩
  simp only [PyData.depth, PyData.depthAll, depth_strs]
  decide
theorem eqv3 {a b : List Str} {n : Int} : PyData.eqv (.list [.tuple (dS a), .tuple (dS b), .int n]) (.list [.tuple (dS a), .tuple (dS b), .int n]) = true := by
  simp only [PyData.eqv, PyData.eqvAll, eqvAll_strs]
  simp
theorem eqv3' {a b : List Str} {n m : Int} (h : n = m) : PyData.eqv (.list [.tuple (dS a), .tuple (dS b), .int n]) (.list [.tuple (dS a), .tuple (dS b), .int m]) = true := by
  subst h
  exact eqv3
theorem lenA {a b : Str} {m n : Nat} (ha : a.length ≤ m) (hb : b.length ≤ n) : (a ++ b).length ≤ m + n := Nat.le_trans (len2 a b) (Nat.add_le_add ha hb)
theorem sumA {a b : Str} {m n : Nat} (ha : a.length ≤ m) (hb : b.length ≤ n) (h : m + n ≤ 1000 := by decide) : a.length + b.length ≤ sizeLine := Nat.le_trans (Nat.add_le_add ha hb) (Nat.le_trans h (by decide))
/-- Language(*ms, kinds = kv): made, or refused -/
def MakesL (K : PySem.W.Frag) (C CI : Addr) (H : Hp) (ms : List V) (kv : V) (Q : V → Hp → Prop) (E : XK) : Prop :=
  Makes K H ms kv (fun ks => ∀ (x : Addr) (H' : Hp), Same H H' → H x = none → LangAt C H' x (canon (txts ms)) (canon ks) → Q (.ref x) H') (∀ H', Same H H' → E (.ref CI) none H')
/-- .. of names -/
def LangR (C CI : Addr) (H : Hp) (ms ks : List Str) (Q : V → Hp → Prop) (E : XK) : Prop :=
  (langOk ms ks = true → ∀ (x : Addr) (H' : Hp), Same H H' → H x = none → LangAt C H' x (canon ms) (canon ks) → Q (.ref x) H') ∧ (langOk ms ks = false → ∀ H', Same H H' → E (.ref CI) none H')
theorem LangR.same {C CI : Addr} {H H1 : Hp} {ms ks : List Str} {Q : V → Hp → Prop} {E : XK} (h : LangR C CI H ms ks Q E) (s : Same H H1) : LangR C CI H1 ms ks Q E :=
  ⟨fun c x H' s' n l => h.1 c x H' (s.trans s') (s.free n) l, fun c H' s' => h.2 c H' (s.trans s')⟩
theorem LangR.makes {K : PySem.W.Frag} {C CI b : Addr} {H : Hp} {ms ks : List Str} {Q : V → Hp → Prop} {E : XK} (h : LangR C CI H ms ks Q E) (hb : SqT K H b (ks.map V.str)) (nm : Nms ms) (nk : Nms ks) (lm : ms.length ≤ 60) (lk : ks.length ≤ 60) : MakesL K C CI H (ms.map V.str) (.ref b) Q E := by
  refine ⟨items_strs nm, by rw [List.length_map]; exact lm, fun c => ?_, fun _ => .inr ⟨b, _, rfl, hb, items_strs nk, by rw [List.length_map]; exact lk, fun c => ?_, ?_, ?_⟩⟩
  · rw [all_strs nm] at c
    cases c
  · rw [all_strs nk] at c
    cases c
  · rw [txts_strs, txts_strs]
    exact fun _ c => h.2 c
  · rw [txts_strs, txts_strs]
    exact fun _ c => h.1 c
end Tf

/-! languages joined -/
namespace Tf
open PySem PySem.Spec PyProof.Rows L2
abbrev sLin : Stmt := top 13
abbrev sWm : Stmt := inClass sLang 4
abbrev sWk : Stmt := inClass sLang 5
abbrev sOr : Stmt := inClass sLang 8
abbrev sAnd : Stmt := inClass sLang 9
theorem scLin : FnScope ["marks", "kinds"] ["marks", "kinds"] (defScope sLin) := ⟨rfl, rfl, rfl, by decide +kernel, rfl, by decide +kernel, by decide +kernel⟩
theorem scWm : FnScope ["self", "marks"] ["self", "marks"] (defScope sWm) := ⟨rfl, rfl, rfl, by decide +kernel, rfl, by decide +kernel, by decide +kernel⟩
theorem scWk : FnScope ["self", "kinds"] ["self", "kinds"] (defScope sWk) := ⟨rfl, rfl, rfl, by decide +kernel, rfl, by decide +kernel, by decide +kernel⟩
theorem scOr : FnScope ["self", "other"] ["self", "other"] (defScope sOr) := ⟨rfl, rfl, rfl, by decide +kernel, rfl, by decide +kernel, by decide +kernel⟩
theorem scAnd : FnScope ["self", "other", "marks", "mark", "kind"] ["self", "other"] (defScope sAnd) := ⟨rfl, rfl, rfl, by decide +kernel, rfl, by decide +kernel, by decide +kernel⟩
def spLin (K : PySem.W.Frag) (C CI : Addr) : Sp := fun vs H Q E => ∃ (a : Addr) (ms : List V) (kv : V), vs = [.ref a, kv] ∧ SqT K H a ms ∧ MakesL K C CI H ms kv Q E
def spWm (K : PySem.W.Frag) (C CI : Addr) : Sp := fun vs H Q E => ∃ (a p : Addr) (xs : List V) (ms ks : List Str), vs = [.ref a, .ref p] ∧ SqT K H p xs ∧ LangAt C H a ms ks ∧ xs.length ≤ 20 ∧ ms.length ≤ 20 ∧ ∀ (H1 : Hp) (b : Addr), Same H H1 → SqT K H1 b (ks.map V.str) → MakesL K C CI H1 (ms.map V.str ++ xs) (.ref b) Q E
def spWk (K : PySem.W.Frag) (C CI : Addr) : Sp := fun vs H Q E => ∃ (a p : Addr) (xs : List V) (ms ks : List Str), vs = [.ref a, .ref p] ∧ SqT K H p xs ∧ LangAt C H a ms ks ∧ xs.length ≤ 20 ∧ ks.length ≤ 20 ∧ ∀ (H1 : Hp) (b : Addr), Same H H1 → SqT K H1 b (ks.map V.str ++ xs) → MakesL K C CI H1 (ms.map V.str) (.ref b) Q E
/-- both are languages -/
def spTwo (K : PySem.W.Frag) (C CI CO : Addr) (f : List Str → List Str → List Str) : Sp := fun vs H Q E => ∃ (a : Addr) (y : V) (ms ks : List Str), vs = [.ref a, y] ∧ LangAt C H a ms ks ∧ Nms ms ∧ Nms ks ∧ ms.length ≤ 20 ∧ ks.length ≤ 20 ∧
  ((NoLang K C H y ∧ E (.ref CO) none H) ∨ ∃ (b : Addr) (ms' ks' : List Str), y = .ref b ∧ LangAt C H b ms' ks' ∧ Nms ms' ∧ Nms ks' ∧ ms'.length ≤ 20 ∧ ks'.length ≤ 20 ∧ LangR C CI H (f ms ms') (f ks ks') Q E)
def inBoth (a b : List Str) : List Str := a.filter fun z => decide (z ∈ b)
section
variable {P : Program} {w : World} {K : PySem.W.Frag} {mg : Str → Option Value} {base : Heap}
theorem ok_lin {f fN CI C : Addr} {fd : FuncData} {k : Nat} (F : Fun K "language_in" "language_in" sLin f fd) (M : Mk K C fN) (GI : FnA P w K mg base (L2.CX P w) k fN ["kinds"] (spInit K C CI)) (gL : mg "Language" = some (.ref C)) : FnOk P w K mg base (L2.CX P w) (k + 2) f fd ["marks", "kinds"] (spLin K C CI) := by
  refine F.okX scLin (fun vs H Q E h => ?_) (fun cdv A outer s H vs Q E hr h => ?_)
  · obtain ⟨a, ms, kv, rfl, _⟩ := h
    rfl
  · obtain ⟨a, ms, kv, rfl, hS, mk⟩ := h
    refine ⟨_, pss_one (ps_ret (pe_makeSK M GI hr (passes_call (takes_of rfl rfl rfl rfl) (fun _ _ _ _ h => h)) (pe_glob (v := .ref C) rfl gL rfl) (pv 0) (pk_cons (pv 1) pk_nil))), ?_⟩
    refine ⟨rfl, .ref a, rfl, kv, rfl, a, ms, rfl, .inl hS, rfl, fun x dx nx ndx nxd => ⟨H, x, dx, ms, kv, rfl, rfl, rfl, nx, ndx, nxd, ?_⟩⟩
    obtain ⟨h1, h2, h3, h4⟩ := mk
    refine ⟨h1, h2, h3, fun c => ?_⟩
    rcases h4 c with h | ⟨b, ks, e1, e2, e3, e4, e5, e6, e7⟩
    · exact .inl h
    · exact .inr ⟨b, ks, e1, e2, e3, e4, e5, e6, fun c1 c2 H' s' la => ⟨rfl, e7 c1 c2 x H' s' nx la⟩⟩
/-- own tuple + a tuple -/
theorem cat_any {X : Cx} {H : Hp} {a b : Addr} {xs ys : List V} {Q : VK} (ha : SqT X.K H a xs) (hb : SqT X.K H b ys) (hl : xs.length + ys.length ≤ 100) (h : ∀ (p : Addr) (H1 : Hp), Same H H1 → SqT X.K H1 p (xs ++ ys) → Q (.ref p) H1) : rCatA X.K (.ref a) (.ref b) H Q := by
  refine ⟨a, b, xs, ys, rfl, rfl, ha, hb, Nat.le_trans hl (by decide), fun e => ?_, fun _ e => ?_, fun _ _ p np => h p _ (same_new np) (tup_of upd_same)⟩
  · subst e
    exact h b H (Same.refl H) hb
  · subst e
    refine h a H (Same.refl H) ?_
    rw [List.append_nil]
    exact ha
theorem ok_wm {f fL CI C : Addr} {fd fdL : FuncData} {k : Nat} (F : Fun K "with_marks" "Language.with_marks" sWm f fd) (L : LCls K C) (GL : FnOk P w K mg base (L2.CX P w) k fL fdL ["marks", "kinds"] (spLin K C CI)) (bL : Binds K fdL ["marks", "kinds"] []) (gL : mg "language_in" = some (.ref fL)) (kL : PySem.W.keepIn K (.ref fL) = true) :
    FnR P w K mg base (L2.CX P w) (k + 1) f (fun vs H Q E => ∃ ws rest, vs = ws ++ rest ∧ ws.length = ["self"].length ∧ rest.length ≤ sizeLine ∧ ∀ p, H p = Option.none → spWm K C CI (ws ++ [V.ref p]) (upd H p (.tup rest)) Q E) := by
  obtain ⟨oc, od, kV, doc, pm, an, cdv, ct, osl, rfl, lk, hcd⟩ := F.ex
  refine StX.fn_star (ps := ["self"]) (pv := "marks") lk hcd scWm StX.cxUp (StX.bind_star1 (B := fun us => bindArgs _ ⟨us, []⟩) (fun a => rfl) (fun a r rs => rfl)) (fun A outer s H vs Q E hr h => ?_)
  obtain ⟨a, p, xs, ms, ks, rfl, hp, ⟨dx, fs, pm', pk', h1, h2, h3, h4, h5, h6⟩, lx, lm, q⟩ := h
  refine ⟨_, pss_one (ps_ret (pe_call GL hr (by rfl) gL kL bL .nil (passes_call (takes_of rfl rfl rfl rfl) (fun _ _ _ _ h => h)) (pa_cons (pe_op op_catA (pe_fld (pv 0) (by rfl)) (pv 1)) (pa_cons (pe_fld (pv 0) (by rfl)) pa_nil)))), ?_⟩
  refine ⟨.ref a, rfl, a, C, dx, fs, .ref pm', rfl, h1, L.cl, L.nm, h2, .ref p, rfl, cat_any (tup_of h4) hp (by rw [List.length_map]; omega) fun p1 H1 s1 e1 => ?_⟩
  exact ⟨.ref a, rfl, a, C, dx, fs, .ref pk', rfl, s1 _ _ h1, L.cl, L.nk, h3, p1, _, .ref pk', rfl, e1, q H1 pk' s1 (tup_of (s1 _ _ h5))⟩
theorem ok_wk {f fL CI C : Addr} {fd fdL : FuncData} {k : Nat} (F : Fun K "with_kinds" "Language.with_kinds" sWk f fd) (L : LCls K C) (GL : FnOk P w K mg base (L2.CX P w) k fL fdL ["marks", "kinds"] (spLin K C CI)) (bL : Binds K fdL ["marks", "kinds"] []) (gL : mg "language_in" = some (.ref fL)) (kL : PySem.W.keepIn K (.ref fL) = true) :
    FnR P w K mg base (L2.CX P w) (k + 1) f (fun vs H Q E => ∃ ws rest, vs = ws ++ rest ∧ ws.length = ["self"].length ∧ rest.length ≤ sizeLine ∧ ∀ p, H p = Option.none → spWk K C CI (ws ++ [V.ref p]) (upd H p (.tup rest)) Q E) := by
  obtain ⟨oc, od, kV, doc, pm, an, cdv, ct, osl, rfl, lk, hcd⟩ := F.ex
  refine StX.fn_star (ps := ["self"]) (pv := "kinds") lk hcd scWk StX.cxUp (StX.bind_star1 (B := fun us => bindArgs _ ⟨us, []⟩) (fun a => rfl) (fun a r rs => rfl)) (fun A outer s H vs Q E hr h => ?_)
  obtain ⟨a, p, xs, ms, ks, rfl, hp, ⟨dx, fs, pm', pk', h1, h2, h3, h4, h5, h6⟩, lx, lm, q⟩ := h
  refine ⟨_, pss_one (ps_ret (pe_call GL hr (by rfl) gL kL bL .nil (passes_call (takes_of rfl rfl rfl rfl) (fun _ _ _ _ h => h)) (pa_cons (pe_fld (pv 0) (by rfl)) (pa_cons (pe_op op_catA (pe_fld (pv 0) (by rfl)) (pv 1)) pa_nil)))), ?_⟩
  refine ⟨.ref a, rfl, a, C, dx, fs, .ref pm', rfl, h1, L.cl, L.nm, h2, .ref a, rfl, a, C, dx, fs, .ref pk', rfl, h1, L.cl, L.nk, h3, .ref p, rfl, cat_any (tup_of h5) hp (by rw [List.length_map]; omega) fun p1 H1 s1 e1 => ?_⟩
  exact ⟨pm', _, .ref p1, rfl, tup_of (s1 _ _ h4), q H1 p1 s1 e1⟩
theorem ok_or {f fL CI CO CT fI C : Addr} {fd fdL : FuncData} {k : Nat} (F : Fun K "__or__" "Language.__or__" sOr f fd) (L : LCls K C) (I : LIs K C) (T : TreeTxt P K mg "InvalidOperation" CO CT fI) (GL : FnOk P w K mg base (L2.CX P w) k fL fdL ["marks", "kinds"] (spLin K C CI)) (bL : Binds K fdL ["marks", "kinds"] []) (gL : mg "language_in" = some (.ref fL)) (kL : PySem.W.keepIn K (.ref fL) = true) (gC : mg "Language" = some (.ref C)) (mI : mg "isinstance" = none) :
    FnOk P w K mg base (L2.CX P w) (k + 1) f fd ["self", "other"] (spTwo K C CI CO (· ++ ·)) := by
  refine F.okX scOr (fun vs H Q E h => ?_) (fun cdv A outer s H vs Q E hr h => ?_)
  · obtain ⟨a, y, ms, ks, rfl, _⟩ := h
    rfl
  · obtain ⟨a, y, ms, ks, rfl, ⟨dx, fs, pm, pk, h1, h2, h3, h4, h5, h6⟩, nm, nk, lm, lk, h⟩ := h
    refine ⟨_, pss_cons (ps_if (pt_not (pt_val (pe_callB call_isi (by rfl) mI (by decide +kernel) (pa_cons (pv 1) (pa_cons (pe_glob (v := .ref C) rfl gC rfl) pa_nil)))))
        (pss_one (ps_raise rfl (takes_of rfl rfl rfl rfl) (pmk_tree T hr (pa_cons pe_str pa_nil)))) pss_nil)
      (pss_one (ps_ret (pe_call GL hr (by rfl) gL kL bL .nil (passes_call (takes_of rfl rfl rfl rfl) (fun _ _ _ _ h => h)) (pa_cons (pe_op op_catA (pe_fld (pv 0) (by rfl)) (pe_fld (pv 1) (by rfl))) (pa_cons (pe_op op_catA (pe_fld (pv 0) (by rfl)) (pe_fld (pv 1) (by rfl))) pa_nil))))), ?_⟩
    rcases h with ⟨⟨t, ht, kt⟩, q⟩ | ⟨b, ms', ks', rfl, ⟨dx', fs', pm', pk', g1, g2, g3, g4, g5, g6⟩, nm', nk', lm', lk', q⟩
    · exact ⟨y, rfl, y, .ref C, .type t, .ref C, false, rfl, .own C, ht, kt, false, rfl, iteT ⟨_, rfl, q⟩⟩
    · refine ⟨.ref b, rfl, .ref b, .ref C, .ref C, .ref C, true, rfl, .own C, .base (.ins g1 L.cl I.ha I.hn I.ht I.hm), I.me, true, rfl, iteF ?_⟩
      refine ⟨.ref a, rfl, a, C, dx, fs, .ref pm, rfl, h1, L.cl, L.nm, h2, .ref b, rfl, b, C, dx', fs', .ref pm', rfl, g1, L.cl, L.nm, g2, cat_any (tup_of h4) (tup_of g4) (by rw [List.length_map, List.length_map]; omega) fun p1 H1 s1 e1 => ?_⟩
      refine ⟨.ref a, rfl, a, C, dx, fs, .ref pk, rfl, s1 _ _ h1, L.cl, L.nk, h3, .ref b, rfl, b, C, dx', fs', .ref pk', rfl, s1 _ _ g1, L.cl, L.nk, g3, cat_any (tup_of (s1 _ _ h5)) (tup_of (s1 _ _ g5)) (by rw [List.length_map, List.length_map]; omega) fun p2 H2 s2 e2 => ?_⟩
      rw [← List.map_append] at e1 e2
      have nA : Nms (ms ++ ms') := fun z hz => (List.mem_append.mp hz).elim (nm z) (nm' z)
      have nB : Nms (ks ++ ks') := fun z hz => (List.mem_append.mp hz).elim (nk z) (nk' z)
      exact ⟨p1, _, .ref p2, rfl, s2.tup e1, (q.same (s1.trans s2)).makes e2 nA nB (by rw [List.length_append]; omega) (by rw [List.length_append]; omega)⟩
end
end Tf

/-! what is common, what is left, what lies within -/
namespace Tf
open PySem PySem.Spec PyProof.Rows L2
abbrev sOut : Stmt := inClass sLang 6
theorem scOut : FnScope ["self", "names", "name", "marks", "mark", "kind"] ["self", "names"] (defScope sOut) := ⟨rfl, rfl, rfl, by decide +kernel, rfl, by decide +kernel, by decide +kernel⟩
def notIn (a b : List Str) : List Str := a.filter fun z => !decide (z ∈ b)
def spOut (K : PySem.W.Frag) (C CI : Addr) : Sp := fun vs H Q E => ∃ (a p : Addr) (zs ms ks : List Str), vs = [.ref a, .ref p] ∧ SqT K H p (zs.map V.str) ∧ LangAt C H a ms ks ∧ Nms ms ∧ Nms ks ∧ ms.length ≤ 20 ∧ ks.length ≤ 20 ∧ zs.length ≤ 20 ∧ (∀ z ∈ zs, z ∈ ms ∨ z ∈ ks) ∧ LangR C CI H (notIn ms zs) (notIn ks zs) Q E
theorem in_fun (ms : List Str) : (fun z => inV (.str z) (ms.map V.str)) = fun z => decide (z ∈ ms) := funext fun z => inV_strs z ms
theorem out_fun (ms : List Str) : (fun z => !inV (.str z) (ms.map V.str)) = fun z => !decide (z ∈ ms) := funext fun z => by rw [inV_strs]
section
variable {P : Program} {w : World} {K : PySem.W.Frag} {mg : Str → Option Value} {base : Heap}
theorem ok_and {f fL CI CO CT fI C : Addr} {fd fdL : FuncData} {k : Nat} (F : Fun K "__and__" "Language.__and__" sAnd f fd) (L : LCls K C) (I : LIs K C) (T : TreeTxt P K mg "InvalidOperation" CO CT fI) (GL : FnOk P w K mg base (L2.CX P w) k fL fdL ["marks", "kinds"] (spLin K C CI)) (bL : Binds K fdL ["marks", "kinds"] []) (gL : mg "language_in" = some (.ref fL)) (kL : PySem.W.keepIn K (.ref fL) = true) (gC : mg "Language" = some (.ref C)) (mI : mg "isinstance" = none) (mT : mg "tuple" = none) :
    FnOk P w K mg base (L2.CX P w) (k + 1) f fd ["self", "other"] (spTwo K C CI CO inBoth) := by
  refine F.okX scAnd (fun vs H Q E h => ?_) (fun cdv A outer s H vs Q E hr h => ?_)
  · obtain ⟨a, y, ms, ks, rfl, _⟩ := h
    rfl
  · obtain ⟨a, y, ms, ks, rfl, ⟨dx, fs, pm, pk, h1, h2, h3, h4, h5, h6⟩, nm, nk, lm, lk, h⟩ := h
    refine ⟨_, pss_cons (ps_if (pt_not (pt_val (pe_callB call_isi (by rfl) mI (by decide +kernel) (pa_cons (pv 1) (pa_cons (pe_glob (v := .ref C) rfl gC rfl) pa_nil)))))
        (pss_one (ps_raise rfl (takes_of rfl rfl rfl rfl) (pmk_tree T hr (pa_cons pe_str pa_nil)))) pss_nil)
      (pss_cons (ps_set (i := 2) scAnd.nd rfl (.inl rfl) (pe_callTy call_tuple_of (by rfl) mT (by decide +kernel) (pa_cons (pe_lc (own := [("mark", 3)]) (g := gName 3) (tt := tTest (tOp (rIn K false) (tVar 3) (tFld K (tVar 1) "own_marks"))) (te := tVar 3) (by rfl) scAnd.nd (pi_tup (pe_fld (pv 0) (by rfl))) (blkOk_by (own := [("mark", 3)]) (N := ["self", "other", "marks", "mark", "kind"]) (sc := defScope sAnd) (by decide +kernel)) (fun _ _ _ _ _ => pg_name (i := 3) scAnd.nd rfl (Or.inl rfl)) (fun _ _ _ _ _ => pts_one (pt_cmpR op_in_seq (pv 3) (pe_fld (pv 1) (by rfl)) (by rfl))) (fun _ _ _ _ _ => pv 3)) pa_nil)))
      (pss_one (ps_ret (pe_call GL hr (by rfl) gL kL bL .nil (passes_call (takes_of rfl rfl rfl rfl) (fun _ _ _ _ h => h)) (pa_cons (pv 2) (pa_cons (pe_callTy call_tuple_of (by rfl) mT (by decide +kernel) (pa_cons (pe_lc (own := [("kind", 4)]) (g := gName 4) (tt := tTest (tOp (rIn K false) (tVar 4) (tFld K (tVar 1) "own_kinds"))) (te := tVar 4) (by rfl) scAnd.nd (pi_tup (pe_fld (pv 0) (by rfl))) (blkOk_by (own := [("kind", 4)]) (N := ["self", "other", "marks", "mark", "kind"]) (sc := defScope sAnd) (by decide +kernel)) (fun _ _ _ _ _ => pg_name (i := 4) scAnd.nd rfl (Or.inl rfl)) (fun _ _ _ _ _ => pts_one (pt_cmpR op_in_seq (pv 4) (pe_fld (pv 1) (by rfl)) (by rfl))) (fun _ _ _ _ _ => pv 4)) pa_nil)) pa_nil)))))), ?_⟩
    rcases h with ⟨⟨t, ht, kt⟩, q⟩ | ⟨b, ms', ks', rfl, ⟨dx', fs', pm', pk', g1, g2, g3, g4, g5, g6⟩, nm', nk', lm', lk', q⟩
    · exact ⟨y, rfl, y, .ref C, .type t, .ref C, false, rfl, .own C, ht, kt, false, rfl, iteT ⟨_, rfl, q⟩⟩
    · refine ⟨.ref b, rfl, .ref b, .ref C, .ref C, .ref C, true, rfl, .own C, .base (.ins g1 L.cl I.ha I.hn I.ht I.hm), I.me, true, rfl, iteF ?_⟩
      refine ⟨.ref a, rfl, a, C, dx, fs, .ref pm, rfl, h1, L.cl, L.nm, h2, pm, rfl, ⟨_, tup_of h4⟩, fun D nD => lc_on (h := V.str) (xs := ms) (by have := walk_tup (K := K) (a := pm) (xs := ms.map V.str); rw [List.length_map] at this; exact this) rfl (fun z => inV (.str z) (ms'.map V.str)) V.str nD (fun H5 s5 => tup_of (s5 _ _ h4)) (by omega)
        (fun z hz H5 s5 Q' q' => ⟨_, rfl, .ref b, rfl, b, C, dx', fs', .ref pm', rfl, s5 _ _ g1, L.cl, L.nm, g2, pm', _, rfl, .inr (tup_of (s5 _ _ g4)), rfl, flat_strs _, _, rfl, q' H5 (Same.refl H5)⟩) (fun z hz _ H5 s5 Q' q' => ⟨_, rfl, q' H5 (Same.refl H5)⟩) fun H3 s3 e3 => ?_⟩
      rw [in_fun] at e3
      refine ⟨D, _, rfl, .inl ⟨lst_of e3, fun p4 n4 => ?_⟩⟩
      have e4 : (upd H3 p4 (.tup ((inBoth ms ms').map V.str))) p4 = some (.tup ((inBoth ms ms').map V.str)) := upd_same
      have s4 : Same H (upd H3 p4 (.tup ((inBoth ms ms').map V.str))) := s3.new n4
      refine ⟨.ref p4, rfl, .ref a, rfl, a, C, dx, fs, .ref pk, rfl, s4 _ _ h1, L.cl, L.nk, h3, pk, rfl, ⟨_, tup_of (s4 _ _ h5)⟩, fun D5 nD5 => lc_on (h := V.str) (xs := ks) (by have := walk_tup (K := K) (a := pk) (xs := ks.map V.str); rw [List.length_map] at this; exact this) rfl (fun z => inV (.str z) (ks'.map V.str)) V.str nD5 (fun H5 s5 => tup_of (s5 _ _ (s4 _ _ h5))) (by omega)
        (fun z hz H5 s5 Q' q' => ⟨_, rfl, .ref b, rfl, b, C, dx', fs', .ref pk', rfl, s5 _ _ (s4 _ _ g1), L.cl, L.nk, g3, pk', _, rfl, .inr (tup_of (s5 _ _ (s4 _ _ g5))), rfl, flat_strs _, _, rfl, q' H5 (Same.refl H5)⟩) (fun z hz _ H5 s5 Q' q' => ⟨_, rfl, q' H5 (Same.refl H5)⟩) fun H6 s6 e6 => ?_⟩
      rw [in_fun] at e6
      refine ⟨D5, _, rfl, .inl ⟨lst_of e6, fun p7 n7 => ?_⟩⟩
      have e7 : (upd H6 p7 (.tup ((inBoth ks ks').map V.str))) p7 = some (.tup ((inBoth ks ks').map V.str)) := upd_same
      have s7 : Same (upd H3 p4 (.tup ((inBoth ms ms').map V.str))) (upd H6 p7 (.tup ((inBoth ks ks').map V.str))) := s6.new n7
      have nA : Nms (inBoth ms ms') := fun z hz => nm z (List.mem_filter.mp hz).1
      have nB : Nms (inBoth ks ks') := fun z hz => nk z (List.mem_filter.mp hz).1
      have lA : (inBoth ms ms').length ≤ ms.length := List.length_filter_le _ _
      have lB : (inBoth ks ks').length ≤ ks.length := List.length_filter_le _ _
      exact ⟨p4, _, .ref p7, rfl, tup_of (s7 _ _ e4), (q.same (s4.trans s7)).makes (tup_of e7) nA nB (by omega) (by omega)⟩
end
end Tf

/-! without -/
namespace Tf
open PySem PySem.Spec PyProof.Rows L2
abbrev UnkTxt (P : Program) (K : PySem.W.Frag) (mg : Str → Option Value) (CU D fI : Addr) (r1 r2 r3 r4 : Pos) : Prop := PySem.TfS.SupTxt P K mg "LookupError" "LookupError.__new__" "KeyError" "KeyError.__init__" "UnknownName" "name" "UnknownName.__init__" [PySem.TfSF.fB "name" "name" r1 r2 r3 r4] CU D fI
theorem pmk_unk {X : Cx} {CU D fI : Addr} {r1 r2 r3 r4 : Pos} {a : Expr} {ta : TA} {p pos : Pos} {k : Nat} (T : UnkTxt X.prog X.K X.mg CU D fI r1 r2 r3 r4) (U : PySem.TfSF.FldTxt X.K CU "name") (hr : Room k X.A) (ha : PA X [a] ta) (hg : Gl X "UnknownName" := by rfl) (hdb : (("UnknownName" : Str) == ("__debug__" : Str)) = false := by decide)
    (he : starEach (a :: []) X.env = (false, eval a X.env) :: starEach [] X.env := by rfl) (hpl : (backTo pos (starEach [] X.env)).any (·.1) = false := by rfl) : PMk X (.Call (.Name "UnknownName" p) [a] [] pos) (tMkF CU "name" ta) :=
  pmk_field PySem.TfKE.kxs PySem.TfKE.initKE PySem.F.excBase_LookupError T U hr ha (by decide +kernel) (by decide +kernel) (by decide +kernel) (by decide +kernel) (by decide +kernel) (fun _ _ _ _ _ _ _ _ _ _ _ _ => rfl) hg hdb he hpl
/-- a value that self may or may not have -/
def Unk (ms ks : List Str) (x : V) : Prop := (hasB x ms || hasB x ks) = false
/-- without(*xs): all names known, or the first unknown one is told -/
def spOut3 (K : PySem.W.Frag) (C CI CU : Addr) : Sp := fun vs H Q E => ∃ (a p : Addr) (xs : List V) (ms ks : List Str), vs = [.ref a, .ref p] ∧ SqT K H p xs ∧ LangAt C H a ms ks ∧ Nms ms ∧ Nms ks ∧ ms.length ≤ 20 ∧ ks.length ≤ 20 ∧ xs.length ≤ 20 ∧ (∀ x ∈ xs, flatV x = true ∨ Box K H x) ∧
  ((∃ zs : List Str, xs = zs.map V.str ∧ (∀ z ∈ zs, z ∈ ms ∨ z ∈ ks) ∧ LangR C CI H (notIn ms zs) (notIn ks zs) Q E) ∨
   ∃ (i : Nat) (x : V), xs[i]? = some x ∧ Unk ms ks x ∧ (∀ j y, j < i → xs[j]? = some y → (hasB y ms || hasB y ks) = true) ∧ ∀ d, H d = none → E (.ref CU) (some d) (upd H d (.xd [(("name" : Str), x)])))
section
variable {P : Program} {w : World} {K : PySem.W.Frag} {mg : Str → Option Value} {base : Heap}
theorem ok_out3 {f fL fH CI C CU D fI : Addr} {r1 r2 r3 r4 : Pos} {fd fdL : FuncData} {k : Nat} (T : UnkTxt P K mg CU D fI r1 r2 r3 r4) (U : PySem.TfSF.FldTxt K CU "name") (F : Fun K "without" "Language.without" sOut f fd) (L : LCls K C) (oH : Own K C "__contains__" fH) (gH : FnR P w K mg base CX0 1 fH (spHas K C)) (k1 : 1 ≤ k) (GL : FnOk P w K mg base (L2.CX P w) k fL fdL ["marks", "kinds"] (spLin K C CI)) (bL : Binds K fdL ["marks", "kinds"] []) (gL : mg "language_in" = some (.ref fL)) (kL : PySem.W.keepIn K (.ref fL) = true) (mT : mg "tuple" = none) :
    FnR P w K mg base (L2.CX P w) (k + 1) f (fun vs H Q E => ∃ ws rest, vs = ws ++ rest ∧ ws.length = ["self"].length ∧ rest.length ≤ sizeLine ∧ ∀ p, H p = Option.none → spOut3 K C CI CU (ws ++ [V.ref p]) (upd H p (.tup rest)) Q E) := by
  obtain ⟨oc, od, kV, doc, pm, an, cdv, ct, osl, rfl, lk, hcd⟩ := F.ex
  refine StX.fn_star (ps := ["self"]) (pv := "names") lk hcd scOut StX.cxUp (StX.bind_star1 (B := fun us => bindArgs _ ⟨us, []⟩) (fun a => rfl) (fun a r rs => rfl)) (fun A outer s H vs Q E hr h => ?_)
  obtain ⟨a, p, xs, ms, ks, rfl, hp, la, nm, nk, lm, lk', lz, hbx, h⟩ := h
  have la0 := la
  obtain ⟨dx, fs, pm', pk', h1, h2, h3, h4, h5, h6⟩ := la0
  have hr1 : Room 1 (A.deeper (envOfC "Language.without" (defScope sOut) s.heap.objs.size f cdv)) := hr.mono k1
  refine ⟨_, pss_cons (ps_for (passes_of rfl) rfl (pi_tup (pv 1)) (pg_name (i := 2) scOut.nd rfl (Or.inl rfl)) (pss_one (ps_if (pt_cmpR (op_notInO oH gH hr1 pass0) (pv 2) (pv 0) (by rfl)) (pss_one (ps_raise rfl (takes_of rfl rfl rfl rfl) (pmk_unk T U hr (pa_cons (pv 2) pa_nil)))) pss_nil)))
    (pss_cons (ps_set (i := 3) scOut.nd rfl (.inl rfl) (pe_callTy call_tuple_of (by rfl) mT (by decide +kernel) (pa_cons (pe_lc (own := [("mark", 4)]) (g := gName 4) (tt := tTest (tOp (rIn K true) (tVar 4) (tVar 1))) (te := tVar 4) (by rfl) scOut.nd (pi_tup (pe_fld (pv 0) (by rfl))) (blkOk_by (own := [("mark", 4)]) (N := ["self", "names", "name", "marks", "mark", "kind"]) (sc := defScope sOut) (by decide +kernel)) (fun _ _ _ _ _ => pg_name (i := 4) scOut.nd rfl (Or.inl rfl)) (fun _ _ _ _ _ => pts_one (pt_cmpR op_notIn_seq (pv 4) (pv 1) (by rfl))) (fun _ _ _ _ _ => pv 4)) pa_nil)))
    (pss_one (ps_ret (pe_call GL hr (by rfl) gL kL bL .nil (passes_call (takes_of rfl rfl rfl rfl) (fun _ _ _ _ h => h)) (pa_cons (pv 3) (pa_cons (pe_callTy call_tuple_of (by rfl) mT (by decide +kernel) (pa_cons (pe_lc (own := [("kind", 5)]) (g := gName 5) (tt := tTest (tOp (rIn K true) (tVar 5) (tVar 1))) (te := tVar 5) (by rfl) scOut.nd (pi_tup (pe_fld (pv 0) (by rfl))) (blkOk_by (own := [("kind", 5)]) (N := ["self", "names", "name", "marks", "mark", "kind"]) (sc := defScope sOut) (by decide +kernel)) (fun _ _ _ _ _ => pg_name (i := 5) scOut.nd rfl (Or.inl rfl)) (fun _ _ _ _ _ => pts_one (pt_cmpR op_notIn_seq (pv 5) (pv 1) (by rfl))) (fun _ _ _ _ _ => pv 5)) pa_nil)) pa_nil)))))), ?_⟩
  rcases h with ⟨zs, rfl, hin, q⟩ | ⟨i0, x0, hx0, un, kn, q⟩
  rotate_left
  · refine ⟨.ref p, rfl, p, rfl, ⟨_, hp⟩, for_tup (xs := xs) (fun i σ H' => i ≤ i0 ∧ H' = H ∧ ∃ o : Option V, σ = [some (.ref a), some (.ref p), o, none, none, none]) ⟨Nat.zero_le _, rfl, none, rfl⟩ (fun i σ H' _ h => by obtain ⟨_, rfl, _⟩ := h; exact hp) ?_ ?_⟩
    · rintro i x σ H' hx ⟨hi, rfl, o, rfl⟩
      have bx := hbx x (List.mem_of_getElem? hx)
      by_cases e : i = i0
      · subst e
        obtain rfl : x = x0 := Option.some.inj (hx.symm.trans hx0)
        exact ⟨_, rfl, .ref a, rfl, a, dx, fs, rfl, h1, a, x, ms, ks, rfl, la, bx, _, rfl, true, by rw [show (hasB x ms || hasB x ks) = false from un]; rfl, iteT ⟨_, rfl, _, rfl, fun d nd => q d nd⟩⟩
      · exact ⟨_, rfl, .ref a, rfl, a, dx, fs, rfl, h1, a, x, ms, ks, rfl, la, bx, _, rfl, false, by rw [kn i x (by omega) hx]; rfl, iteF ⟨by omega, rfl, _, rfl⟩⟩
    · rintro σ H' ⟨hi, _⟩
      have := (List.getElem?_eq_some_iff.mp hx0).1
      omega
  refine ⟨.ref p, rfl, p, rfl, ⟨_, hp⟩, for_tup (xs := zs.map V.str) (fun i σ H' => H' = H ∧ ∃ o : Option V, σ = [some (.ref a), some (.ref p), o, none, none, none]) ⟨rfl, none, rfl⟩ (fun i σ H' _ h => by obtain ⟨rfl, _⟩ := h; exact hp) ?_ ?_⟩
  · rintro i x σ H' hx ⟨rfl, o, rfl⟩
    rw [List.getElem?_map] at hx
    cases hz : zs[i]? with
    | none => rw [hz] at hx; cases hx
    | some z =>
      rw [hz] at hx
      cases (Option.some.inj hx : V.str z = x)
      have mz : z ∈ zs := List.mem_of_getElem? hz
      have e : (hasB (.str z) ms || hasB (.str z) ks) = true := by
        rcases hin z mz with h | h
        · rw [show hasB (.str z) ms = true from decide_eq_true h]
          rfl
        · rw [show hasB (.str z) ks = true from decide_eq_true h, Bool.or_true]
      exact ⟨_, rfl, .ref a, rfl, a, dx, fs, rfl, h1, a, .str z, ms, ks, rfl, la, .inl rfl, _, rfl, false, by rw [e]; rfl, iteF ⟨rfl, _, rfl⟩⟩
  · rintro σ H' ⟨rfl, o, rfl⟩
    refine ⟨.ref a, rfl, a, C, dx, fs, .ref pm', rfl, h1, L.cl, L.nm, h2, pm', rfl, ⟨_, tup_of h4⟩, fun D nD => lc_on (h := V.str) (xs := ms) (by have := walk_tup (K := K) (a := pm') (xs := ms.map V.str); rw [List.length_map] at this; exact this) rfl (fun z => !inV (.str z) (zs.map V.str)) V.str nD (fun H5 s5 => tup_of (s5 _ _ h4)) (by omega)
      (fun z hz H5 s5 Q' q' => ⟨_, rfl, .ref p, rfl, p, _, rfl, .inr (s5.tup hp), rfl, flat_strs _, _, rfl, q' H5 (Same.refl H5)⟩) (fun z hz _ H5 s5 Q' q' => ⟨_, rfl, q' H5 (Same.refl H5)⟩) fun H3 s3 e3 => ?_⟩
    rw [out_fun] at e3
    refine ⟨D, _, rfl, .inl ⟨lst_of e3, fun p4 n4 => ?_⟩⟩
    have e4 : (upd H3 p4 (.tup ((notIn ms zs).map V.str))) p4 = some (.tup ((notIn ms zs).map V.str)) := upd_same
    have s4 : Same H' (upd H3 p4 (.tup ((notIn ms zs).map V.str))) := s3.new n4
    refine ⟨.ref p4, rfl, .ref a, rfl, a, C, dx, fs, .ref pk', rfl, s4 _ _ h1, L.cl, L.nk, h3, pk', rfl, ⟨_, tup_of (s4 _ _ h5)⟩, fun D5 nD5 => lc_on (h := V.str) (xs := ks) (by have := walk_tup (K := K) (a := pk') (xs := ks.map V.str); rw [List.length_map] at this; exact this) rfl (fun z => !inV (.str z) (zs.map V.str)) V.str nD5 (fun H5 s5 => tup_of (s5 _ _ (s4 _ _ h5))) (by omega)
      (fun z hz H5 s5 Q' q' => ⟨_, rfl, .ref p, rfl, p, _, rfl, .inr (s5.tup (s4.tup hp)), rfl, flat_strs _, _, rfl, q' H5 (Same.refl H5)⟩) (fun z hz _ H5 s5 Q' q' => ⟨_, rfl, q' H5 (Same.refl H5)⟩) fun H6 s6 e6 => ?_⟩
    rw [out_fun] at e6
    refine ⟨D5, _, rfl, .inl ⟨lst_of e6, fun p7 n7 => ?_⟩⟩
    have e7 : (upd H6 p7 (.tup ((notIn ks zs).map V.str))) p7 = some (.tup ((notIn ks zs).map V.str)) := upd_same
    have s7 : Same (upd H3 p4 (.tup ((notIn ms zs).map V.str))) (upd H6 p7 (.tup ((notIn ks zs).map V.str))) := s6.new n7
    have nA : Nms (notIn ms zs) := fun z hz => nm z (List.mem_filter.mp hz).1
    have nB : Nms (notIn ks zs) := fun z hz => nk z (List.mem_filter.mp hz).1
    have lA : (notIn ms zs).length ≤ ms.length := List.length_filter_le _ _
    have lB : (notIn ks zs).length ≤ ks.length := List.length_filter_le _ _
    exact ⟨p4, _, .ref p7, rfl, tup_of (s7 _ _ e4), (q.same (s4.trans s7)).makes (tup_of e7) nA nB (by omega) (by omega)⟩
end
end Tf

/-! _law_odd: values that are no names -/
namespace Tf
open PySem PySem.Spec PyProof.Rows L2
abbrev sOdd : Stmt := top 20
theorem scOdd : FnScope ["_law_dice_here", "_law_some"] ["_law_dice_here"] (defScope sOdd) := ⟨rfl, rfl, rfl, by decide +kernel, rfl, by decide +kernel, by decide +kernel⟩
/-- a value that is no name -/
inductive OddV (H : Hp) : V → Prop
  | non : OddV H .non
  | bl (b : Bool) : OddV H (.bl b)
  | int (i : Int) : OddV H (.int i)
  | str (z : Str) (h : nameB z = false) (l : z.length ≤ 1000) : OddV H (.str z)
  | lst {a : Addr} {xs : List V} (h : H a = some (.lst xs)) : OddV H (.ref a)
  | tup {a : Addr} {xs : List V} (h : H a = some (.tup xs)) : OddV H (.ref a)
  | dct {a : Addr} {kvs : List (Key × V)} (h : H a = some (.dK kvs)) : OddV H (.ref a)
theorem OddV.same {H H' : Hp} {x : V} (o : OddV H x) (s : Same H H') : OddV H' x := by
  cases o with
  | non => exact .non
  | bl b => exact .bl b
  | int i => exact .int i
  | str z h l => exact .str z h l
  | lst h => exact .lst (s _ _ h)
  | tup h => exact .tup (s _ _ h)
  | dct h => exact .dct (s _ _ h)
theorem OddV.isN {H : Hp} {x : V} (o : OddV H x) : isN x = false := by
  cases o with
  | str z h l => exact h
  | _ => rfl
theorem OddV.some1 {K : PySem.W.Frag} {H : Hp} {x : V} (o : OddV H x) : Some1 K H x := by
  cases o with
  | non => exact .inr ⟨_, .base .non, by decide +kernel⟩
  | bl b => exact .inr ⟨_, .base (.bl b), by decide +kernel⟩
  | int i => exact .inr ⟨_, .base (.int i), by decide +kernel⟩
  | str z h l => exact .inl ⟨z, rfl, l⟩
  | lst h => exact .inr ⟨_, .base (.lst h), by decide +kernel⟩
  | tup h => exact .inr ⟨_, .base (.tup h), by decide +kernel⟩
  | dct h => exact .inr ⟨_, .base (.dK h), by decide +kernel⟩
theorem OddV.item {K : PySem.W.Frag} {H : Hp} {x : V} (o : OddV H x) : Item K H x := ⟨o.some1, .inr o.isN⟩
theorem OddV.box {K : PySem.W.Frag} {H : Hp} {x : V} (o : OddV H x) : flatV x = true ∨ Box K H x := by
  cases o with
  | lst h => exact .inr ⟨_, rfl, .inl ⟨_, lst_of h⟩⟩
  | tup h => exact .inr ⟨_, rfl, .inr (.inl ⟨_, tup_of h⟩)⟩
  | dct h => exact .inr ⟨_, rfl, .inr (.inr ⟨_, h⟩)⟩
  | _ => exact .inl rfl
/-- the built-in types are no languages -/
structure TyNo (K : PySem.W.Frag) (C : Addr) : Prop where
  k0 : PySem.W.kitOne K (.type "NoneType") (.ref C) = some false
  k1 : PySem.W.kitOne K (.type "bool") (.ref C) = some false
  k2 : PySem.W.kitOne K (.type "int") (.ref C) = some false
  k3 : PySem.W.kitOne K (.type "str") (.ref C) = some false
  k4 : PySem.W.kitOne K (.type "list") (.ref C) = some false
  k5 : PySem.W.kitOne K (.type "tuple") (.ref C) = some false
  k6 : PySem.W.kitOne K (.type "dict") (.ref C) = some false
  n0 : PySem.W.notFirst K C (.type "NoneType") = true
  n1 : PySem.W.notFirst K C (.type "bool") = true
  n2 : PySem.W.notFirst K C (.type "int") = true
  n3 : PySem.W.notFirst K C (.type "str") = true
  n4 : PySem.W.notFirst K C (.type "list") = true
  n5 : PySem.W.notFirst K C (.type "tuple") = true
  n6 : PySem.W.notFirst K C (.type "dict") = true
  nC : PySem.W.notFirst K C (.ref C) = true
theorem TyL.of {X : Cx} {H : Hp} {x : V} {t : Value} (h : TyX X.K H x t) : TyL X H x t := fun pins σ s u I r => by
  obtain ⟨P, kx, p, _⟩ := kit_of I r h
  exact kx.ty _ _ I.kIn p
theorem OddV.ty {X : Cx} {C : Addr} {H : Hp} {x : V} (o : OddV H x) (T : TyNo X.K C) : ∃ t : String, TyX X.K H x (.type t) ∧ PySem.W.kitOne X.K (.type t) (.ref C) = some false ∧ PySem.W.notFirst X.K C (.type t) = true := by
  cases o with
  | non => exact ⟨_, .base .non, T.k0, T.n0⟩
  | bl b => exact ⟨_, .base (.bl b), T.k1, T.n1⟩
  | int i => exact ⟨_, .base (.int i), T.k2, T.n2⟩
  | str z h l => exact ⟨_, .base (.str z), T.k3, T.n3⟩
  | lst h => exact ⟨_, .base (.lst h), T.k4, T.n4⟩
  | tup h => exact ⟨_, .base (.tup h), T.k5, T.n5⟩
  | dct h => exact ⟨_, .base (.dK h), T.k6, T.n6⟩
/-- an odd value and what it reads as -/
inductive OddD (H : Hp) : V → PyData → Prop
  | non : OddD H .non .none
  | bl (b : Bool) : OddD H (.bl b) (.bool b)
  | int (i : Int) : OddD H (.int i) (.int i)
  | str (z : Str) (h : nameB z = false) (l : z.length ≤ 1000) : OddD H (.str z) (.str z)
  | lst {a : Addr} (h : H a = some (.lst [.str "a"])) : OddD H (.ref a) (.list [.str "a"])
  | tup {a : Addr} (zs : List Str) (h : H a = some (.tup (zs.map V.str))) : OddD H (.ref a) (.tuple (dS zs))
  | dct {a : Addr} (h : H a = some (.dK [])) : OddD H (.ref a) (.dict [])
  | tl {a b : Addr} (h : H a = some (.tup [.ref b])) (h2 : H b = some (.lst [.str "a"])) : OddD H (.ref a) (.tuple [.list [.str "a"]])
  | td {a b : Addr} (h : H a = some (.tup [.ref b])) (h2 : H b = some (.dK [(Sum.inr ("a" : Str), .int 1)])) : OddD H (.ref a) (.tuple [.dict [(.str "a", .int 1)]])
theorem solid_tup (xs : List V) : Solid (.tup xs) := ⟨fun ps z => (by cases z), fun x y z e => (by cases e)⟩
theorem solid_dK (xs : List (Key × V)) : Solid (.dK xs) := ⟨fun ps z => (by cases z), fun x y z e => (by cases e)⟩
theorem solid_a (z : Str) (zs : List V) : Solid (.lst (.str z :: zs)) := ⟨fun ps z => (by cases z), fun x y z e => (by cases e)⟩
theorem solid_ref (a : Addr) (zs : List V) : Solid (.lst (.ref a :: zs)) := ⟨fun ps z => (by cases z), fun x y z e => (by cases e)⟩
theorem solid_ins (C d : Addr) (fs : List (Str × V)) : Solid (.ins C d fs) := ⟨fun ps z => (by cases z), fun x y z e => (by cases e)⟩
theorem OddD.kept {H H' : Hp} {x : V} {d : PyData} (o : OddD H x d) (k : Kept H H') : OddD H' x d := by
  cases o with
  | non => exact .non
  | bl b => exact .bl b
  | int i => exact .int i
  | str z h l => exact .str z h l
  | lst h => exact .lst (k _ _ h (solid_a _ _))
  | tup zs h => exact .tup zs (k _ _ h (solid_tup _))
  | dct h => exact .dct (k _ _ h (solid_dK _))
  | tl h h2 => exact .tl (k _ _ h (solid_tup _)) (k _ _ h2 (solid_a _ _))
  | td h h2 => exact .td (k _ _ h (solid_tup _)) (k _ _ h2 (solid_dK _))
theorem OddD.v {H : Hp} {x : V} {d : PyData} (o : OddD H x d) : OddV H x := by
  cases o with
  | non => exact .non
  | bl b => exact .bl b
  | int i => exact .int i
  | str z h l => exact .str z h l
  | lst h => exact .lst h
  | tup zs h => exact .tup h
  | dct h => exact .dct h
  | tl h h2 => exact .tup h
  | td h h2 => exact .tup h
theorem rp_strs {H : Hp} : ∀ zs : List Str, TfR.RpAll H (zs.map V.str) (dS zs)
  | [] => .nil
  | z :: zs => .cons (.str z) (rp_strs zs)
theorem OddD.rp {H : Hp} {x : V} {d : PyData} (o : OddD H x d) : TfR.Rp H x d := by
  cases o with
  | non => exact .non
  | bl b => exact .bl b
  | int i => exact .int i
  | str z h l => exact .str z
  | lst h => exact .lst h (rp_strs ["a"])
  | tup zs h => exact .tup h (rp_strs zs)
  | dct h => exact .dct h .nil
  | tl h h2 => exact .tup h (.cons (.lst h2 (rp_strs ["a"])) .nil)
  | td h h2 => exact .tup h (.cons (.dct h2 (.cons (k := Sum.inr ("a" : Str)) (.int 1) .nil)) .nil)
/-- the data of the odd values -/
def oddDs : List PyData := [.none, .bool true, .int 0, .int (-1), .int (10 ^ 30), .str "", .str "A", .str "ninesigns", .str "a b", .str "a1", .str "a\n", .tuple (dS ["a"]), .list [.str "a"], .dict [], .tuple (dS []), .tuple (dS ["a", "b"]), .tuple [.list [.str "a"]], .tuple [.dict [(.str "a", .int 1)]]]
def spOdd : Sp := fun vs H Q _ => ∃ d : Addr, vs = [.ref d] ∧ Dice H d ∧ ∀ (x : V) (dt : PyData) (H' : Hp), Nr d H H' → Dice H' d → OddD H' x dt → dt ∈ oddDs → Q x H'
section
variable {P : Program} {w : World} {K : PySem.W.Frag} {mg : Str → Option Value} {base : Heap}
theorem ok_odd {f fP : Addr} {fd fdP : FuncData} {k : Nat} (F : Fun K "_law_odd" "_law_odd" sOdd f fd) (FP : Fun K "_law_pick" "_law_pick" sPick fP fdP) (GP : FnOk P w K mg base CX0 k fP fdP ["_law_dice_here", "_law_items"] (spPick K)) (bP : Binds K fdP ["_law_dice_here", "_law_items"] []) (gP : mg "_law_pick" = some (.ref fP)) : FnOk P w K mg base CX0 (k + 1) f fd ["_law_dice_here"] spOdd := by
  refine F.ok scOdd (fun vs H Q E h => ?_) (fun cdv A outer s H vs Q E hr h => ?_)
  · obtain ⟨d, rfl, _⟩ := h
    rfl
  · obtain ⟨d, rfl, hd, q⟩ := h
    refine ⟨_, pss_cons (ps_set (i := 1) scOdd.nd rfl (.inl rfl) (pe_lst (pa_cons pe_non (pa_cons pe_bl (pa_cons pe_int (pa_cons (pe_un un_neg pe_int) (pa_cons (pe_op op_pow pe_int pe_int) (pa_cons pe_str (pa_cons pe_str (pa_cons pe_str (pa_cons pe_str (pa_cons pe_str (pa_cons pe_str (pa_cons (pe_tup (pa_cons pe_str pa_nil)) (pa_cons (pe_lst (pa_cons pe_str pa_nil)) (pa_cons pe_dnewK (pa_cons (pe_tup pa_nil) (pa_cons (pe_tup (pa_cons pe_str (pa_cons pe_str pa_nil))) pa_nil))))))))))))))))))
      (pss_one (ps_ret (pe_call GP hr (by rfl) gP FP.kp bP .nil pass0 (pa_cons (pv 0) (pa_cons (pe_op op_cat (pv 1) (pe_lst (pa_cons (pe_tup (pa_cons (pe_lst (pa_cons pe_str pa_nil)) pa_nil)) (pa_cons (pe_tup (pa_cons (pe_disp (pps_cons pe_str pe_int pps_nil) (by rfl) (by rfl) (fun z => by cases z) (by decide)) pa_nil)) pa_nil)))) pa_nil))))), ?_⟩
    obtain ⟨a0, b0, c0, ha0, hd0⟩ := hd
    refine ⟨1, rfl, 10, 30, rfl, rfl, ⟨by decide, by decide, by decide⟩, (by show 1 ≤ sizeLine; decide), fun p1 n1 => ?_⟩
    have d1 := ne_of_none hd0 n1
    have e1 : (upd H p1 (.tup [.str ("a" : Str)])) p1 = some (.tup [.str ("a" : Str)]) := upd_same
    have s1 : Same H (upd H p1 (.tup [.str ("a" : Str)])) := same_new n1
    generalize upd H p1 (.tup [.str ("a" : Str)]) = H1 at *
    refine ⟨(by show 1 ≤ sizeLine; decide), fun p2 n2 => ?_⟩
    have d2 := ne_of_none (s1 _ _ hd0) n2
    have e2 : (upd H1 p2 (.lst [.str ("a" : Str)])) p2 = some (.lst [.str ("a" : Str)]) := upd_same
    have s2 : Same H1 (upd H1 p2 (.lst [.str ("a" : Str)])) := same_new n2
    generalize upd H1 p2 (.lst [.str ("a" : Str)]) = H2 at *
    intro p3 n3
    have d3 := ne_of_none (s2 _ _ (s1 _ _ hd0)) n3
    have e3 : (upd H2 p3 (.dK [])) p3 = some (.dK []) := upd_same
    have s3 : Same H2 (upd H2 p3 (.dK [])) := same_new n3
    generalize upd H2 p3 (.dK []) = H3 at *
    have S3 := s1.trans (s2.trans s3)
    refine ⟨(by show 0 ≤ sizeLine; decide), fun p4 n4 => ?_⟩
    have d4 := ne_of_none (S3 _ _ hd0) n4
    have e4 : (upd H3 p4 (.tup [])) p4 = some (.tup []) := upd_same
    have s4 : Same H3 (upd H3 p4 (.tup [])) := same_new n4
    generalize upd H3 p4 (.tup []) = H4 at *
    refine ⟨(by show 2 ≤ sizeLine; decide), fun p5 n5 => ?_⟩
    have d5 := ne_of_none (s4 _ _ (S3 _ _ hd0)) n5
    have e5 : (upd H4 p5 (.tup [.str ("a" : Str), .str ("b" : Str)])) p5 = some (.tup [.str ("a" : Str), .str ("b" : Str)]) := upd_same
    have s5 : Same H4 (upd H4 p5 (.tup [.str ("a" : Str), .str ("b" : Str)])) := same_new n5
    generalize upd H4 p5 (.tup [.str ("a" : Str), .str ("b" : Str)]) = H5 at *
    have S5 := S3.trans (s4.trans s5)
    refine ⟨(by show 16 ≤ sizeLine; decide), fun l nl => ?_⟩
    obtain ⟨vs, evs⟩ : ∃ vs : List V, vs = [V.non, V.bl true, V.int 0, (fun i => V.int (-i)) 1, (fun i j : Int => V.int (i ^ j.toNat)) 10 30, V.str "", V.str "A", V.str "ninesigns", V.str "a b", V.str "a1", V.str "a\n", V.ref p1, V.ref p2, V.ref p3, V.ref p4, V.ref p5] := ⟨_, rfl⟩
    rw [← evs]
    have el : (upd H5 l (.lst vs)) l = some (.lst vs) := upd_same
    have sl : Same H5 (upd H5 l (.lst vs)) := same_new nl
    generalize upd H5 l (.lst vs) = H6 at *
    have S6 := S5.trans sl
    refine ⟨.ref d, rfl, _, rfl, (by show 1 ≤ sizeLine; decide), fun q1 m1 => ?_⟩
    have g1 := ne_of_none (S6 _ _ hd0) m1
    have e7 : (upd H6 q1 (.lst [.str ("a" : Str)])) q1 = some (.lst [.str ("a" : Str)]) := upd_same
    have s7 : Same H6 (upd H6 q1 (.lst [.str ("a" : Str)])) := same_new m1
    generalize upd H6 q1 (.lst [.str ("a" : Str)]) = H7 at *
    refine ⟨(by show 1 ≤ sizeLine; decide), fun q2 m2 => ?_⟩
    have g2 := ne_of_none (s7 _ _ (S6 _ _ hd0)) m2
    have e8 : (upd H7 q2 (.tup [.ref q1])) q2 = some (.tup [.ref q1]) := upd_same
    have s8 : Same H7 (upd H7 q2 (.tup [.ref q1])) := same_new m2
    generalize upd H7 q2 (.tup [.ref q1]) = H8 at *
    intro q3 m3
    have S8 := S6.trans (s7.trans s8)
    have g3 := ne_of_none (S8 _ _ hd0) m3
    refine ⟨upd_same, [(Sum.inr ("a" : Str), .int 1)], rfl, by decide, ?_⟩
    rw [show mergeK ([] : List (Key × V)) [(Sum.inr ("a" : Str), V.int 1)] = [(Sum.inr ("a" : Str), V.int 1)] from rfl]
    have e9 : (upd (upd H8 q3 (.dK [])) q3 (.dK [(Sum.inr ("a" : Str), .int 1)])) q3 = some (.dK [(Sum.inr ("a" : Str), .int 1)]) := upd_same
    have s9 : Same H8 (upd (upd H8 q3 (.dK [])) q3 (.dK [(Sum.inr ("a" : Str), .int 1)])) := (same_new m3).mut m3
    generalize upd (upd H8 q3 (.dK [])) q3 (.dK [(Sum.inr ("a" : Str), .int 1)]) = H9 at *
    refine ⟨(by show 1 ≤ sizeLine; decide), fun q4 m4 => ?_⟩
    have S9 := S8.trans s9
    have g4 := ne_of_none (S9 _ _ hd0) m4
    have e10 : (upd H9 q4 (.tup [.ref q3])) q4 = some (.tup [.ref q3]) := upd_same
    have s10 : Same H9 (upd H9 q4 (.tup [.ref q3])) := same_new m4
    generalize upd H9 q4 (.tup [.ref q3]) = H10 at *
    refine ⟨(by show 2 ≤ sizeLine; decide), fun l2 k2 => ?_⟩
    have e11 : (upd H10 l2 (.lst [.ref q2, .ref q4])) l2 = some (.lst [.ref q2, .ref q4]) := upd_same
    have s11 : Same H10 (upd H10 l2 (.lst [.ref q2, .ref q4])) := same_new k2
    generalize upd H10 l2 (.lst [.ref q2, .ref q4]) = H11 at *
    have T6 : Same H6 H11 := s7.trans (s8.trans (s9.trans (s10.trans s11)))
    refine ⟨l, l2, vs, _, rfl, rfl, T6 _ _ el, e11, (by rw [evs]; show 16 + 2 ≤ sizeLine; decide), fun l3 n3' => ?_⟩
    have e12 : (upd H11 l3 (.lst (vs ++ [.ref q2, .ref q4]))) l3 = some (.lst (vs ++ [.ref q2, .ref q4])) := upd_same
    have s12 : Same H11 (upd H11 l3 (.lst (vs ++ [.ref q2, .ref q4]))) := same_new n3'
    have S11 := S6.trans T6
    have dl := ne_of_none (S11 _ _ hd0) n3'
    generalize upd H11 l3 (.lst (vs ++ [.ref q2, .ref q4])) = H12 at *
    have S12 := S11.trans s12
    refine ⟨d, l3, _, rfl, ⟨a0, b0, c0, ha0, S12 _ _ hd0⟩, e12, dl, by rw [evs]; exact List.cons_ne_nil _ _, by rw [evs]; show 18 < 1000; decide, fun v H' hv nr dc => ?_⟩
    have T5 : Same H5 H12 := sl.trans (T6.trans s12)
    have U1 := nr _ _ d1.symm (T5 _ _ (s5 _ _ (s4 _ _ (s3 _ _ (s2 _ _ e1)))))
    have U2 := nr _ _ d2.symm (T5 _ _ (s5 _ _ (s4 _ _ (s3 _ _ e2))))
    have U3 := nr _ _ d3.symm (T5 _ _ (s5 _ _ (s4 _ _ e3)))
    have U4 := nr _ _ d4.symm (T5 _ _ (s5 _ _ e4))
    have U5 := nr _ _ d5.symm (T5 _ _ e5)
    have V1 := nr _ _ g1.symm (s12 _ _ (s11 _ _ (s10 _ _ (s9 _ _ (s8 _ _ e7)))))
    have V2 := nr _ _ g2.symm (s12 _ _ (s11 _ _ (s10 _ _ (s9 _ _ e8))))
    have V3 := nr _ _ g3.symm (s12 _ _ (s11 _ _ (s10 _ _ e9)))
    have V4 := nr _ _ g4.symm (s12 _ _ (s11 _ _ e10))
    have NR : Nr d H H' := fun b o nb e => nr b o nb (S12 _ _ e)
    have al : ∀ v ∈ vs ++ [.ref q2, .ref q4], ∃ dt, OddD H' v dt ∧ dt ∈ oddDs := by
      rw [evs]
      simp only [List.cons_append, List.nil_append, List.forall_mem_cons]
      refine ⟨⟨_, .non, by simp [oddDs]⟩, ⟨_, .bl _, by simp [oddDs]⟩, ⟨_, .int _, by simp [oddDs]⟩, ⟨_, .int _, by simp [oddDs]⟩, ⟨_, .int _, by simp [oddDs]⟩, ⟨_, .str _ (by decide +kernel) (by decide +kernel), by simp [oddDs]⟩, ⟨_, .str _ (by decide +kernel) (by decide +kernel), by simp [oddDs]⟩, ⟨_, .str _ (by decide +kernel) (by decide +kernel), by simp [oddDs]⟩, ⟨_, .str _ (by decide +kernel) (by decide +kernel), by simp [oddDs]⟩, ⟨_, .str _ (by decide +kernel) (by decide +kernel), by simp [oddDs]⟩, ⟨_, .str _ (by decide +kernel) (by decide +kernel), by simp [oddDs]⟩,
        ⟨_, .tup ["a"] U1, by simp [oddDs]⟩, ⟨_, .lst U2, by simp [oddDs]⟩, ⟨_, .dct U3, by simp [oddDs]⟩, ⟨_, .tup [] U4, by simp [oddDs]⟩, ⟨_, .tup ["a", "b"] U5, by simp [oddDs]⟩, ⟨_, .tl V2 V1, by simp [oddDs]⟩, ⟨_, .td V4 V3, by simp [oddDs]⟩, fun v hv => by cases hv⟩
    obtain ⟨dt, o, m⟩ := al v hv
    exact q v dt H' NR dc o m
end
end Tf

/-! _law_fault: the error of a call, told -/
namespace Tf
open PySem PySem.Spec PyProof.Rows L2 LamX TfT
abbrev sFault : Stmt := top 19
theorem scFault : FnScope ["_law_call", "e"] ["_law_call"] (defScope sFault) := ⟨rfl, rfl, rfl, by decide +kernel, rfl, by decide +kernel, by decide +kernel⟩
/-- which clause takes which class -/
structure Errs (K : PySem.W.Frag) (CI CO CU : Addr) : Prop where
  ii : PySem.W.exmOne K (.ref CI) (.ref CI) = some true
  oi : PySem.W.exmOne K (.ref CO) (.ref CI) = some false
  oo : PySem.W.exmOne K (.ref CO) (.ref CO) = some true
  ui : PySem.W.exmOne K (.ref CU) (.ref CI) = some false
  uo : PySem.W.exmOne K (.ref CU) (.ref CO) = some false
  uu : PySem.W.exmOne K (.ref CU) (.ref CU) = some true
  fg : FldGet K CU "name"
/-- what is told of an error -/
def eTold (CI CO CU : Addr) (Q : VK) : XK := fun cls d H =>
  (cls = .ref CI ∧ Q (.str "language") H) ∨ (cls = .ref CO ∧ Q (.str "operation") H) ∨
  (cls = .ref CU ∧ ∃ (dd : Addr) (v : V), d = some dd ∧ H dd = some (.xd [(("name" : Str), v)]) ∧ ∀ l, H l = none → Q (.ref l) (upd H l (.lst [.str "name", v])))
def TTf (CI CO CU : Addr) : (XK → Hp → VK → Prop) → Hp → VK → Prop := fun tl H Q => tl (eTold CI CO CU Q) H (fun _ H' => Q (.str "returned") H')
theorem fault_gives {X : Cx} {g CI CO CU : Addr} {cdg : Value} {q : Str} (R : Errs X.K CI CO CU) (n1 : X.mg "InvalidLanguage" = some (.ref CI)) (n2 : X.mg "InvalidOperation" = some (.ref CO)) (n3 : X.mg "UnknownName" = some (.ref CU)) :
    GivesTo X ["_law_call", "e"] "_law_fault" (defScope sFault) g cdg (defBody sFault) "_law_call" q (TTf CI CO CU) := by
  intro f c' s H Q tl act hc h
  refine ⟨_, pss_cons (ps_try_cls (tb := fun W D σ H => ∃ Ech : XK, (∀ cls d σ' H', σ'.length = 2 → Ech cls d H' → W cls d σ' H') ∧ σ[0]? = some (some (.ref f)) ∧ H c' = some (CodeO c' q) ∧ tl Ech H (fun _ H' => D.nx σ H')) rfl rfl LamX.takes0 (fun W pn xe tk _ => ?_)
      (.cons (does_plain rfl ⟨rfl, by decide, .inl n1⟩ (fun a oe cls d pn _ _ => pss_one (ps_ret pe_str)))
      (.cons (does_plain rfl ⟨rfl, by decide, .inl n2⟩ (fun a oe cls d pn _ _ => pss_one (ps_ret pe_str)))
      (.cons (does_as (l := 1) rfl scFault.nd rfl rfl ⟨rfl, by decide, .inl n3⟩ (fun a oe cls d pn hz hf => pss_one (ps_ret (pe_lst (pa_cons pe_str (pa_cons (pe_errF R.fg hz hf (pv 1)) pa_nil)))))) .nil))))
    (pss_one (ps_ret pe_str)), ?_⟩
  · refine ⟨fun pins s' σ H' D I h' => ?_⟩
    obtain ⟨Ech, hW, h1, h2, h3⟩ := h'
    have hp := fun p1 p2 => act (fun cls d _ H => Ech cls d H) pn xe Ech p1 p2 (fun u s' ⟨a, B, sI, pins, σ, H, cls, d, e, I, nb, up, sky, na, os, ag, w⟩ => tk u s' ⟨a, B, sI, pins, σ, H, cls, d, e, I, nb, up, sky, na, os, ag, hW cls d σ H I.len w⟩) (fun _ _ _ _ h => h)
    exact (pss_one (ps_expr (hp _ _))).run pins s' σ H' D I ⟨h1, h2, h3⟩
  · refine ⟨eTold CI CO CU Q, fun cls d σ' H' hl e => ?_, rfl, hc, h⟩
    match σ', hl with
    | [s0, s1], _ =>
      rcases e with ⟨rfl, q⟩ | ⟨rfl, q⟩ | ⟨rfl, dd, v, rfl, hd, q⟩
      · exact ⟨true, R.ii, fun _ a na => q, fun z => Bool.noConfusion z⟩
      · exact ⟨false, R.oi, fun z => Bool.noConfusion z, fun _ => ⟨true, R.oo, fun _ a na => q, fun z => Bool.noConfusion z⟩⟩
      · refine ⟨false, R.ui, fun z => Bool.noConfusion z, fun _ => ⟨false, R.uo, fun z => Bool.noConfusion z, fun _ => ⟨true, R.uu, fun _ a na => ?_, fun z => Bool.noConfusion z⟩⟩⟩
        exact ⟨.ref a, rfl, rfl, rfl, dd, v, rfl, hd, (by show 2 ≤ sizeLine; decide), fun l nl => q l nl⟩
end Tf

/-! _law_fault(lambda: ..) and the wrong values -/
namespace Tf
open PySem PySem.Spec PyProof.Rows L2 LamX TfT
theorem look_none {fs : List (Str × V)} {m : Str} : ∀ {ns : List Str}, fs.map (·.1) = ns → m ∉ ns → fs.lookup m = none := by
  induction fs with
  | nil => intro ns _ _; rfl
  | cons p fs ih =>
    intro ns e h
    obtain ⟨k, v⟩ := p
    subst e
    rw [List.map_cons, List.mem_cons, not_or] at h
    rw [List.lookup_cons, beq_eq_false_iff_ne.mpr h.1]
    exact ih rfl h.2
theorem LangAt.kept {C : Addr} {H H' : Hp} {a : Addr} {ms ks : List Str} (h : LangAt C H a ms ks) (s : Kept H H') : LangAt C H' a ms ks := by
  obtain ⟨dx, fs, pm, pk, h1, h2, h3, h4, h5, h6⟩ := h
  exact ⟨dx, fs, pm, pk, s _ _ h1 (solid_ins _ _ _), h2, h3, s _ _ h4 (solid_tup _), s _ _ h5 (solid_tup _), h6⟩
/-- what the call of _law_fault asks of the written part -/
structure Flt (K : PySem.W.Frag) (mg : Str → Option Value) (CI CO CU g : Addr) (fd : FuncData) : Prop where
  F : Fun K "_law_fault" "_law_fault" sFault g fd
  b : Binds K fd ["_law_call"] []
  gF : mg "_law_fault" = some (.ref g)
  R : Errs K CI CO CU
  n1 : mg "InvalidLanguage" = some (.ref CI)
  n2 : mg "InvalidOperation" = some (.ref CO)
  n3 : mg "UnknownName" = some (.ref CU)
theorem pe_flt {X : Cx} {T : List (Addr × Str)} {CI CO CU g c P : Addr} {fd : FuncData} {k : Nat} {params : Arguments} {body : Expr} {scope sc : Scope} {t : XK → TE} {p lpos pos : Pos} (FL : Flt X.K X.mg CI CO CU g fd) (TB : TabB X.base X.mg c P) (hcode : X.env.code = .ref c)
    (hmT : (P, X.env.qual ++ "<lambda>") ∈ T) (hu : ∀ p ∈ T, p.1 = P → p.2 = X.env.qual ++ "<lambda>") (hr : Room (k + 2) X.A)
    (hbody : ∀ (A : Around) (outer : List Env) (s : Shared) (H : Hp) (E : XK) (f c' : Addr), Room k (A.deeper (lamEnv X scope s.heap.objs.size f c')) → PE (lamCx X A outer s H E scope f c') body (t E))
    (L : lamSB sc scope = true := by decide +kernel) (hsc : X.env.scope = sc := by rfl) (hg : Gl X "_law_fault" := by rfl) (hdef : defaultsOf params X.env = ([], []) := by rfl)
    (hbind : ∀ (q : Str) (cl : List (Str × Addr)) (pm cv ctv : Value), bindArgs (PySem.W.kla_fn "<lambda>" q params body scope cl pm cv ctv) ⟨[], []⟩ = pure [] := by intros; rfl) :
    PE X (.Call (.Name "_law_fault" p) [.Lambda params body scope lpos] [] pos) (tLam T (TTf CI CO CU) t) := by
  obtain ⟨oc, od, kV, doc, pm, an, cdv, ct, osl, rfl, lk, hcd⟩ := FL.F.ex
  subst hsc
  exact pe_lamcall hg FL.gF FL.F.kp lk hcd FL.b scFault rfl (.inl rfl) (fault_gives FL.R FL.n1 FL.n2 FL.n3) TB hcode hmT hu hr (lamS_by L) hdef hbind hbody
/-- a value that is no tuple of kinds beside the marks a and b -/
inductive SomeV (H : Hp) : V → Prop
  | non : SomeV H .non
  | int (i : Int) : SomeV H (.int i)
  | str (z : Str) : SomeV H (.str z)
  | lst {a : Addr} {z : Str} {xs : List V} (h : H a = some (.lst (.str z :: xs))) : SomeV H (.ref a)
  | dct {a : Addr} {kvs : List (Key × V)} (h : H a = some (.dK kvs)) : SomeV H (.ref a)
  | tup {a : Addr} {xs : List V} (h : H a = some (.tup xs)) (it : ∀ y ∈ xs, (∃ d, OddD H y d) ∨ ∃ z, y = .str z ∧ nameB z = true) (l : xs.length ≤ 60) (b : xs.all isN = false ∨ langOk ["a", "b"] (txts xs) = false) : SomeV H (.ref a)
theorem SomeV.kept {H H' : Hp} {x : V} (o : SomeV H x) (k : Kept H H') : SomeV H' x := by
  cases o with
  | non => exact .non
  | int i => exact .int i
  | str z => exact .str z
  | lst h => exact .lst (k _ _ h (solid_a _ _))
  | dct h => exact .dct (k _ _ h (solid_dK _))
  | tup h it l b => exact .tup (k _ _ h (solid_tup _)) (fun y hy => (it y hy).imp (fun ⟨d, o⟩ => ⟨d, o.kept k⟩) id) l b
theorem nmsAB : Nms ["a", "b"] := by unfold Nms; decide +kernel
section
variable {K : PySem.W.Frag} {H : Hp} {good : List Str → Prop} {bad : Prop}
/-- a mark is no name -/
theorem bad_mark {ms : List V} {kv : V} (hi : ∀ y ∈ ms, (∃ d, OddD H y d) ∨ ∃ z, y = .str z ∧ nameB z = true) (hl : ms.length ≤ 60) (hm : ms.all isN = false) (hb : bad) : Makes K H ms kv good bad :=
  ⟨fun y hy H' s' => by
    rcases hi y hy with ⟨d, o⟩ | ⟨z, rfl, n⟩
    · exact (o.kept s'.kept).v.item
    · exact item_str n, hl, fun _ => hb, fun c => by rw [hm] at c; cases c⟩
/-- these kinds don't do -/
theorem bad_kind {kv : V} (o : SomeV H kv) (hb : bad) : Makes K H ((["a", "b"] : List Str).map V.str) kv good bad := by
  have e : txts ((["a", "b"] : List Str).map V.str) = (["a", "b"] : List Str) := txts_strs _
  refine ⟨items_strs nmsAB, by show 2 ≤ 60; decide, fun _ => hb, fun _ => ?_⟩
  cases o with
  | non => exact .inl ⟨fun H' s' => no_non, hb⟩
  | int i => exact .inl ⟨fun H' s' => ⟨_, .base (.int i), kit_ty (by decide +kernel)⟩, hb⟩
  | str z => exact .inl ⟨fun H' s' => ⟨_, .base (.str z), kit_ty (by decide +kernel)⟩, hb⟩
  | lst h => exact .inl ⟨fun H' s' => no_list (s' _ _ h), hb⟩
  | dct h => exact .inl ⟨fun H' s' => ⟨_, .base (.dK (s' _ _ h)), kit_ty (by decide +kernel)⟩, hb⟩
  | tup h it l b =>
    refine .inr ⟨_, _, rfl, tup_of h, fun y hy H' s' => ?_, l, fun _ => hb, fun _ _ => hb, fun c1 c2 => ?_⟩
    · rcases it y hy with ⟨d, o⟩ | ⟨z, rfl, n⟩
      · exact (o.kept s'.kept).v.item
      · exact item_str n
    · rw [e] at c2
      rcases b with b | b
      · rw [b] at c1
        cases c1
      · rw [b] at c2
        cases c2
end
/-- the types of what is no language -/
def tys : List String := ["NoneType", "bool", "int", "str", "list", "tuple", "dict"]
theorem odd_ty {K : PySem.W.Frag} {H : Hp} {x : V} (o : OddV H x ∨ ∃ z, x = .str z) : ∃ t ∈ tys, TyX K H x (.type t) := by
  rcases o with o | ⟨z, rfl⟩
  · cases o with
    | non => exact ⟨_, by simp [tys], .base .non⟩
    | bl b => exact ⟨_, by simp [tys], .base (.bl b)⟩
    | int i => exact ⟨_, by simp [tys], .base (.int i)⟩
    | str z h l => exact ⟨_, by simp [tys], .base (.str z)⟩
    | lst h => exact ⟨_, by simp [tys], .base (.lst h)⟩
    | tup h => exact ⟨_, by simp [tys], .base (.tup h)⟩
    | dct h => exact ⟨_, by simp [tys], .base (.dK h)⟩
  · exact ⟨_, by simp [tys], .base (.str z)⟩
theorem TyNo.kit {K : PySem.W.Frag} {C : Addr} (T : TyNo K C) : ∀ t ∈ tys, PySem.W.kitOne K (.type t) (.ref C) = some false := by
  simp only [tys, List.forall_mem_cons]
  exact ⟨T.k0, T.k1, T.k2, T.k3, T.k4, T.k5, T.k6, fun t h => by cases h⟩
end Tf

/-! k03: _law_right -/
namespace Tf
open PySem PySem.Spec PyProof.Rows L2 LamX TfG
theorem makes_names {K : PySem.W.Frag} {H : Hp} {b : Addr} {ms ks : List Str} {good : List Str → Prop} {bad : Prop} (hb : SqT K H b (ks.map V.str)) (nm : ∀ z ∈ ms, nameB z = true) (nk : ∀ z ∈ ks, nameB z = true) (lm : ms.length ≤ 60) (lk : ks.length ≤ 60) (ok : langOk ms ks = true) (h : good ks) : Makes K H (ms.map V.str) (.ref b) good bad := by
  refine ⟨items_strs nm, by rw [List.length_map]; exact lm, fun c => ?_, fun _ => .inr ⟨b, _, rfl, hb, items_strs nk, by rw [List.length_map]; exact lk, fun c => ?_, ?_, ?_⟩⟩
  · rw [all_strs nm] at c
    cases c
  · rw [all_strs nk] at c
    cases c
  · rw [txts_strs, txts_strs, ok]
    intro _ c
    cases c
  · rw [txts_strs, txts_strs]
    exact fun _ _ => h
theorem ok_small {ms ks : List Str} (h1 : ms.length ≤ 8) (h2 : ks ≠ []) (h3 : ks.length ≤ 4) (h4 : ∀ z ∈ ks, z ∉ ms) : langOk ms ks = true := by
  refine ok_of_parts (Nat.le_trans (canon_len _) h1) ?_ (Nat.le_trans (canon_len _) h3) fun z hz hm => h4 z (mem_canon.mp hz) (mem_canon.mp hm)
  obtain ⟨z, r, rfl⟩ := List.exists_cons_of_ne_nil h2
  exact List.length_pos_of_mem (mem_canon.mpr List.mem_cons_self)
/-- the addresses of the class Language and its methods -/
structure Ad where
  C : Addr
  CI : Addr
  CO : Addr
  CU : Addr
  fN : Addr
  fO : Addr
  pO : Addr
  fWm : Addr
  fWk : Addr
  fOu : Addr
  fOr : Addr
  fAn : Addr
  fMk : Addr
  pM : Addr
  fE : Addr
  fH : Addr
  mc : Value
  fdO : FuncData
  fdMk : FuncData
/-- a promise for a method with *rest -/
def stSp (sp : Sp) : Sp := fun vs H Q E => ∃ ws rest, vs = ws ++ rest ∧ ws.length = ["self"].length ∧ rest.length ≤ sizeLine ∧ ∀ p, H p = Option.none → sp (ws ++ [V.ref p]) (upd H p (.tup rest)) Q E
/-- the class Language and its methods -/
structure Lg (P : Program) (w : World) (K : PySem.W.Frag) (mg : Str → Option Value) (base : Heap) (k kI : Nat) (D : Ad) : Prop where
  Mm : Mk K D.C D.fN
  GI : FnA P w K mg base (L2.CX P w) kI D.fN ["kinds"] (spInit K D.C D.CI)
  hI : kI + 1 ≤ k
  gLa : mg "Language" = some (.ref D.C)
  L : LCls K D.C
  T : TyNo K D.C
  GO : FnOk P w K mg base (L2.CX P w) k D.fO D.fdO ["cls", "marks", "kinds"] (spOf K D.C D.CI)
  bO : Binds K D.fdO ["cls", "marks", "kinds"] []
  cr : ClX.CRead K D.C D.mc
  cm : ClX.CMet K D.C D.mc "of" D.pO D.fO
  mWm : Meth K D.C "with_marks" D.fWm
  gWm : FnR P w K mg base (L2.CX P w) k D.fWm (stSp (spWm K D.C D.CI))
  mWk : Meth K D.C "with_kinds" D.fWk
  gWk : FnR P w K mg base (L2.CX P w) k D.fWk (stSp (spWk K D.C D.CI))
  mOu : Meth K D.C "without" D.fOu
  gOu : FnR P w K mg base (L2.CX P w) k D.fOu (stSp (spOut3 K D.C D.CI D.CU))
  oS : PySem.W.findIn K (.ref D.C) (PySem.dunder Operator.BitOr.info.2) = some (some (.ref D.fOr))
  oR : PySem.W.findIn K (.ref D.C) (PySem.dunderR Operator.BitOr.info.2) = some none
  oF : PySem.W.isFn K (.ref D.fOr) = true
  gOr : FnR P w K mg base (L2.CX P w) k D.fOr (spTwo K D.C D.CI D.CO (· ++ ·))
  aS : PySem.W.findIn K (.ref D.C) (PySem.dunder Operator.BitAnd.info.2) = some (some (.ref D.fAn))
  aR : PySem.W.findIn K (.ref D.C) (PySem.dunderR Operator.BitAnd.info.2) = some none
  aF : PySem.W.isFn K (.ref D.fAn) = true
  gAn : FnR P w K mg base (L2.CX P w) k D.fAn (spTwo K D.C D.CI D.CO inBoth)
  sf : PySem.W.selfFirst K D.C = true
  bnO : ∀ t ∈ tys, BinNo K D.C .BitOr t
  bnA : ∀ t ∈ tys, BinNo K D.C .BitAnd t
  GMk : FnOk P w K mg base CX0 1 D.fMk D.fdMk ["self"] (spMarks D.C true)
  bMk : Binds K D.fdMk ["self"] []
  pMk : PropOf K D.C "marks" D.pM D.fMk
  oE : Own K D.C "__eq__" D.fE
  gE : FnR P w K mg base CX0 1 D.fE (spEq K D.C)
  oH : Own K D.C "__contains__" D.fH
  gH : FnR P w K mg base CX0 1 D.fH (spHas K D.C)
theorem cAB : canon (["a", "b"] : List Str) = (["a", "b"] : List Str) := canon_self (by decide +kernel) (by decide +kernel)
theorem cBO : canon (["by", "of"] : List Str) = (["by", "of"] : List Str) := canon_self (by decide +kernel) (by decide +kernel)
theorem cBA : canon (["b", "a"] : List Str) = (["a", "b"] : List Str) := (canon_congr (ys := ["a", "b"]) fun z => ⟨fun h => (by decide +kernel : ∀ z ∈ (["b", "a"] : List Str), z ∈ (["a", "b"] : List Str)) z h, fun h => (by decide +kernel : ∀ z ∈ (["a", "b"] : List Str), z ∈ (["b", "a"] : List Str)) z h⟩).trans cAB
theorem cOB : canon (["of", "by"] : List Str) = (["by", "of"] : List Str) := (canon_congr (ys := ["by", "of"]) fun z => ⟨fun h => (by decide +kernel : ∀ z ∈ (["of", "by"] : List Str), z ∈ (["by", "of"] : List Str)) z h, fun h => (by decide +kernel : ∀ z ∈ (["by", "of"] : List Str), z ∈ (["of", "by"] : List Str)) z h⟩).trans cBO
theorem canon0 : canon [] = [] := canon_self (by decide +kernel) (by decide +kernel)
theorem no_lang {ms ks : List Str} {z : Str} (h1 : z ∈ ms) (h2 : z ∈ ks) : langOk ms ks = false := by
  cases h : langOk ms ks with
  | false => rfl
  | true => exact ((ok_parts h).2.2.2 z (mem_canon.mpr h2) (mem_canon.mpr h1)).elim
theorem no_kinds {ms : List Str} : langOk ms [] = false := by
  cases h : langOk ms [] with
  | false => rfl
  | true =>
    have := (ok_parts h).2.1
    rw [canon0] at this
    exact absurd this (by decide)
theorem noK0 : langOk ["a", "b"] (txts []) = false := no_kinds
theorem noK1 : langOk ["a", "b"] (txts [.str "a"]) = false := no_lang (z := "a") (by decide +kernel) (by show ("a" : Str) ∈ (["a"] : List Str); decide +kernel)
theorem noK2 : langOk ["a", "b"] (txts [.str "by", .str "a"]) = false := no_lang (z := "a") (by decide +kernel) (by show ("a" : Str) ∈ (["by", "a"] : List Str); decide +kernel)
theorem no_many {ms ks : List Str} (nd : ks.Nodup) (h : 4 < ks.length) : langOk ms ks = false := by
  cases e : langOk ms ks with
  | false => rfl
  | true =>
    have l := (ok_parts e).2.2.1
    have p : (canon ks).length = ks.length := ((List.perm_ext_iff_of_nodup (nodup_canon ks) nd).mpr fun z => mem_canon).length_eq
    omega
section
variable {K : PySem.W.Frag} {H : Hp} {good : List Str → Prop} {bad : Prop}
/-- a kind is no name -/
theorem bad_kinds {zs : List Str} {b : Addr} {ks : List V} (nm : Nms zs) (lm : zs.length ≤ 60) (hb : SqT K H b ks) (hi : ∀ y ∈ ks, (∃ d, OddD H y d) ∨ ∃ z, y = .str z ∧ nameB z = true) (lk : ks.length ≤ 60) (hk : ks.all isN = false) (h : bad) : Makes K H (zs.map V.str) (.ref b) good bad := by
  refine ⟨items_strs nm, by rw [List.length_map]; exact lm, fun _ => h, fun _ => .inr ⟨b, ks, rfl, hb, fun y hy H' s' => ?_, lk, fun _ => h, fun _ _ => h, fun c => by rw [hk] at c; cases c⟩⟩
  rcases hi y hy with ⟨d, o⟩ | ⟨z, rfl, n⟩
  · exact (o.kept s'.kept).v.item
  · exact item_str n
/-- names, but no language -/
theorem bad_names {ms ks : List Str} {b : Addr} (hb : SqT K H b (ks.map V.str)) (nm : Nms ms) (nk : Nms ks) (lm : ms.length ≤ 60) (lk : ks.length ≤ 60) (no : langOk ms ks = false) (h : bad) : Makes K H (ms.map V.str) (.ref b) good bad := by
  refine ⟨items_strs nm, by rw [List.length_map]; exact lm, fun _ => h, fun _ => .inr ⟨b, _, rfl, hb, items_strs nk, by rw [List.length_map]; exact lk, fun _ => h, fun _ _ => h, fun _ c => ?_⟩⟩
  rw [txts_strs, txts_strs, no] at c
  cases c
end
/-- a list that grows while all else stays -/
structure Ph (d : Addr) (T : List (Addr × Str)) (Hb : Hp) (l : Addr) (xs : List V) (H : Hp) : Prop where
  kp : KpD d Hb H
  tb : Tabs T H
  nl : ∀ o, Hb l = some o → (∀ ps, o ≠ .tbl ps) → False
  el : H l = some (.lst xs)
  dc : Dice H d
  nd : d ≠ l
theorem dice_ext {H G : Hp} {d : Addr} (h : Dice H d) (ex : ExtN H G) : Dice G d := by
  obtain ⟨a, b, c, n, e⟩ := h
  exact ⟨a, b, c, n, ex _ _ e fun ps z => by cases z⟩
theorem dice_upd {H : Hp} {d l : Addr} {o : HO} (h : Dice H d) (n : d ≠ l) : Dice (upd H l o) d := by
  obtain ⟨a, b, c, n', e⟩ := h
  exact ⟨a, b, c, n', by rw [upd_ne n]; exact e⟩
theorem Ph.step {d l : Addr} {T : List (Addr × Str)} {Hb H G H' : Hp} {xs : List V} (p : Ph d T Hb l xs H) (ex : ExtN H G) (tg : Tabs T G) (s : Same G H') (v : V) : H' l = some (.lst xs) ∧ Ph d T Hb l (xs ++ [v]) (upd H' l (.lst (xs ++ [v]))) := by
  have e : H' l = some (.lst xs) := s _ _ (ex _ _ p.el fun ps z => by cases z)
  refine ⟨e, fun b o n h t => ?_, (tg.same s).lst e, p.nl, upd_same, dice_upd ((dice_ext p.dc ex).same s) p.nd, p.nd⟩
  have nb : b ≠ l := fun z => p.nl o (by rw [← z]; exact h) t
  rw [upd_ne nb]
  exact s _ _ (ex _ _ (p.kp b o n h t) t)
theorem Ph.first {d l : Addr} {T : List (Addr × Str)} {Hb G H' : Hp} {xs : List V} (dc : Dice Hb d) (ex : ExtN Hb G) (tg : Tabs T G) (s : Same G H') (n : H' l = none) : Ph d T Hb l xs (upd H' l (.lst xs)) := by
  have dH := (dice_ext dc ex).same s
  have nd : d ≠ l := by
    obtain ⟨_, _, _, _, e⟩ := dH
    exact ne_of_none e n
  refine ⟨fun b o _ h t => ?_, tg.same (s.new n), fun o h t => ?_, upd_same, dice_upd dH nd, nd⟩
  · have e := s _ _ (ex _ _ h t)
    rw [upd_ne (ne_of_none e n)]
    exact e
  · rw [s _ _ (ex _ _ h t)] at n
    cases n
theorem Ph.app {d l : Addr} {T : List (Addr × Str)} {Hb H G H' : Hp} {xs : List V} {v : V} {R : Hp → Prop} (p : Ph d T Hb l xs H) (ex : ExtN H G) (tg : Tabs T G) (s : Same G H') (hl : xs.length < sizeLine) (k : ∀ H3, Ph d T Hb l (xs ++ [v]) H3 → R H3) : rAppend (.ref l) [v] H' (fun _ H4 => R H4) :=
  ⟨l, xs, v, rfl, rfl, (p.step ex tg s v).1, hl, k _ (p.step ex tg s v).2⟩
theorem Ph.new {d : Addr} {T : List (Addr × Str)} {Hb G H' : Hp} {xs : List V} {R : Addr → Hp → Prop} (dc : Dice Hb d) (ex : ExtN Hb G) (tg : Tabs T G) (s : Same G H') (hl : xs.length ≤ sizeLine) (k : ∀ l H3, Ph d T Hb l xs H3 → R l H3) : xs.length ≤ sizeLine ∧ ∀ p, H' p = none → R p (upd H' p (.lst xs)) :=
  ⟨hl, fun p n => k p _ (Ph.first dc ex tg s n)⟩
/-- .. and other objects are kept in mind -/
theorem Ph.app2 {d l : Addr} {T : List (Addr × Str)} {Hb H G H' : Hp} {xs : List V} {v : V} {R : Hp → Prop} (p : Ph d T Hb l xs H) (ex : ExtN H G) (tg : Tabs T G) (s : Same G H') (hl : xs.length < sizeLine) (k : ∀ H3, Ph d T Hb l (xs ++ [v]) H3 → (∀ b o, b ≠ l → H' b = some o → H3 b = some o) → R H3) : rAppend (.ref l) [v] H' (fun _ H4 => R H4) :=
  ⟨l, xs, v, rfl, rfl, (p.step ex tg s v).1, hl, k _ (p.step ex tg s v).2 fun b o nb hb => by rw [upd_ne nb]; exact hb⟩
theorem items1 {H : Hp} {v : V} {dt : PyData} {z : Str} (o : OddD H v dt) (n : nameB z = true := by decide +kernel) : ∀ y ∈ [V.str z, v], (∃ d, OddD H y d) ∨ ∃ z, y = .str z ∧ nameB z = true := by
  simp only [List.forall_mem_cons]
  exact ⟨.inr ⟨_, rfl, n⟩, .inl ⟨_, o⟩, fun v hv => by cases hv⟩
theorem items2 {H : Hp} {v : V} {dt : PyData} {z : Str} (o : OddD H v dt) (n : nameB z = true := by decide +kernel) : ∀ y ∈ [v, V.str z], (∃ d, OddD H y d) ∨ ∃ z, y = .str z ∧ nameB z = true := by
  simp only [List.forall_mem_cons]
  exact ⟨.inl ⟨_, o⟩, .inr ⟨_, rfl, n⟩, fun v hv => by cases hv⟩
theorem itemsM {H : Hp} {xs : List V} {zs : List Str} (nz : Nms zs) (h : ∀ y ∈ xs, (∃ d, OddD H y d) ∨ ∃ z, y = .str z ∧ nameB z = true) : ∀ y ∈ zs.map V.str ++ xs, (∃ d, OddD H y d) ∨ ∃ z, y = .str z ∧ nameB z = true := fun y hy => by
  rcases List.mem_append.mp hy with hy | hy
  · obtain ⟨z, hz, rfl⟩ := List.mem_map.mp hy
    exact .inr ⟨z, rfl, nz z hz⟩
  · exact h y hy
theorem not1 {H : Hp} {v : V} {dt : PyData} (o : OddD H v dt) (xs ys : List V) : (xs ++ v :: ys).all isN = false := by
  rw [List.all_append, List.all_cons, o.v.isN, Bool.false_and, Bool.and_false]
inductive OthV (H : Hp) : V → Prop
  | odd {x : V} {d : PyData} (o : OddD H x d) : OthV H x
  | str (z : Str) : OthV H (.str z)
  | tup {a : Addr} {xs : List V} (h : H a = some (.tup xs)) : OthV H (.ref a)
  | lst {a b : Addr} {xs : List V} (h : H a = some (.lst (.ref b :: xs))) : OthV H (.ref a)
  | dct {a : Addr} {kvs : List (Key × V)} (h : H a = some (.dK kvs)) : OthV H (.ref a)
theorem OthV.kept {H H' : Hp} {x : V} (o : OthV H x) (k : Kept H H') : OthV H' x := by
  cases o with
  | odd o => exact .odd (o.kept k)
  | str z => exact .str z
  | tup h => exact .tup (k _ _ h (solid_tup _))
  | lst h => exact .lst (k _ _ h (solid_ref _ _))
  | dct h => exact .dct (k _ _ h (solid_dK _))
theorem OthV.ty {K : PySem.W.Frag} {H : Hp} {x : V} (o : OthV H x) : ∃ t ∈ tys, TyX K H x (.type t) := by
  cases o with
  | odd o => exact odd_ty (.inl o.v)
  | str z => exact odd_ty (.inr ⟨z, rfl⟩)
  | tup h => exact odd_ty (.inl (.tup h))
  | lst h => exact odd_ty (.inl (.lst h))
  | dct h => exact odd_ty (.inl (.dct h))
theorem odd_has {H : Hp} {x : V} (o : OddV H x) {zs : List Str} (n : Nms zs) : hasB x zs = false := by
  cases o with
  | str z h l =>
    refine decide_eq_false fun c => ?_
    rw [n z c] at h
    cases h
  | _ => rfl
/-- the texts of all odd values are short -/
def dN (d : PyData) : PyData := .list [.str "name", d]
def shortB (d : PyData) : Bool := PyData.showableAll [dN d, dN d, dN d] && (decide ((PyData.shown (.list [dN d, dN d, dN d])).length ≤ 1000) && decide (PyData.depth (.list [dN d, dN d, dN d]) ≤ 100))
theorem odds_short : oddDs.all shortB = true := by decide +kernel
theorem odd_short {d : PyData} (h : d ∈ oddDs) : PyData.showableAll [dN d, dN d, dN d] = true ∧ (PyData.shown (.list [dN d, dN d, dN d])).length ≤ sizeLine ∧ PyData.depth (.list [dN d, dN d, dN d]) ≤ 100 := by
  have e := List.all_eq_true.mp odds_short d h
  unfold shortB at e
  rw [Bool.and_eq_true, Bool.and_eq_true] at e
  exact ⟨e.1, Nat.le_trans (of_decide_eq_true e.2.1) (by decide), of_decide_eq_true e.2.2⟩
abbrev sRight : Stmt := top 21
abbrev nRight : List Str := ["_law_dice_here", "_law_found", "_law_named", "_law_bad", "_law_first", "_law_odd_here", "_law_other", "_law_some"]
theorem scRight : FnScope nRight ["_law_dice_here"] (defScope sRight) := ⟨rfl, rfl, rfl, by decide +kernel, rfl, by decide +kernel, by decide +kernel⟩
def spRight (T : List (Addr × Str)) : Sp := fun vs H Q _ => ∃ d : Addr, vs = [.ref d] ∧ Dice H d ∧ Tabs T H ∧ ∀ H' : Hp, KpD d H H' → Dice H' d → Tabs T H' → Q (.bl true) H'
section
variable {P : Program} {w : World} {K : PySem.W.Frag} {mg : Str → Option Value} {base : Heap}
theorem ok_right {D : Ad} {T : List (Addr × Str)} {f fOd fP g c PT : Addr} {fd fdOd fdP fdF : FuncData} {k kI : Nat} (F : FunC K "_law_right" "_law_right" sRight f fd c) (G : Lg P w K mg base k kI D) (k1 : 1 ≤ k) (FL : Flt K mg D.CI D.CO D.CU g fdF) (TB : TabB base mg c PT) (hT : (PT, (("_law_right" : Str) ++ ".<locals>.") ++ "<lambda>") ∈ T) (hU : ∀ p ∈ T, p.1 = PT → p.2 = (("_law_right" : Str) ++ ".<locals>.") ++ "<lambda>")
    (GOd : FnOk P w K mg base CX0 (k + 2) fOd fdOd ["_law_dice_here"] spOdd) (bOd : Binds K fdOd ["_law_dice_here"] []) (gOd : mg "_law_odd" = some (.ref fOd)) (kOd : PySem.W.keepIn K (.ref fOd) = true)
    (GP : FnOk P w K mg base CX0 (k + 2) fP fdP ["_law_dice_here", "_law_items"] (spPick K)) (bP : Binds K fdP ["_law_dice_here", "_law_items"] []) (gP : mg "_law_pick" = some (.ref fP)) (kP : PySem.W.keepIn K (.ref fP) = true) (mRe : mg "repr" = none) : FnG P w K mg base CX0 (k + 3) f fd ["_law_dice_here"] (spRight T) := by
  refine F.okG scRight (fun vs H Q E h => ?_) (fun A outer s H vs Q E hgu hr h => ?_)
  · obtain ⟨d, rfl, _⟩ := h
    rfl
  · obtain ⟨d, rfl, hd, tb, q⟩ := h
    have gu : (A.deeper (envOfC "_law_right" (defScope sRight) s.heap.objs.size f (.ref c))).guards = some [] := hgu
    have hu : (A.deeper (envOfC "_law_right" (defScope sRight) s.heap.objs.size f (.ref c))).units + 64 < cLine := by have := hr.un; omega
    have hu' : (A.deeper (envOfC "_law_right" (defScope sRight) s.heap.objs.size f (.ref c))).units + 110 < cLine := by have := hr.un; omega
    have hr1 : Room 1 (A.deeper (envOfC "_law_right" (defScope sRight) s.heap.objs.size f (.ref c))) := hr.mono (by omega)
    have hr2 : Room 2 (A.deeper (envOfC "_law_right" (defScope sRight) s.heap.objs.size f (.ref c))) := hr.mono (by omega)
    have G0 := G
    refine ⟨_, (pss_cons (ps_asg (pe_tup (pa_cons (pe_makeAK (E := E0) G.Mm G.GI (hr.mono (by have := G.hI; omega)) (by rfl) G.gLa (passes_call L2.takes0 (fun _ _ _ _ h => h)) (pa_cons pe_str (pa_cons pe_str pa_nil)) (pk_cons (pe_tup (pa_cons pe_str (pa_cons pe_str pa_nil))) pk_nil)) (pa_cons (pe_call GOd hr (by rfl) gOd kOd bOd .nil pass0 (pa_cons (pv 0) pa_nil)) (pa_cons (pe_call GOd hr (by rfl) gOd kOd bOd .nil pass0 (pa_cons (pv 0) pa_nil)) pa_nil)))) (pg_tup (by rfl) (pgs_cons (pg_name (i := 4) scRight.nd rfl (.inr rfl)) (pgs_cons (pg_name (i := 5) scRight.nd rfl (.inr rfl)) (pgs_cons (pg_name (i := 3) scRight.nd rfl (.inr rfl)) pgs_nil)))))
      (pss_cons (ps_set (i := 7) scRight.nd rfl (.inr rfl) (pe_call GP hr (by rfl) gP kP bP .nil pass0 (pa_cons (pv 0) (pa_cons (pe_lst (pa_cons pe_non (pa_cons pe_str (pa_cons (pe_lst (pa_cons pe_str pa_nil)) (pa_cons (pe_disp (pps_cons pe_str pe_int pps_nil) (by rfl) (by rfl) (fun z => by cases z) (by decide)) (pa_cons pe_int (pa_cons (pe_tup pa_nil) (pa_cons (pe_tup (pa_cons pe_str (pa_cons (pv 5) pa_nil))) (pa_cons (pe_tup (pa_cons pe_str (pa_cons pe_str pa_nil))) (pa_cons (pe_tup (pa_cons pe_str pa_nil)) (pa_cons (pe_tup (pa_cons (pv 5) pa_nil)) pa_nil))))))))))) pa_nil))))
      (pss_cons (ps_set (i := 1) scRight.nd rfl (.inl rfl) (pe_lst (pa_cons (pe_flt (k := k) (sc := defScope sRight) FL TB rfl hT hU hr (fun A' outer' s' H' E' f' c' hr' => pe_makeAK G.Mm G.GI (hr'.mono G.hI) (by rfl) G.gLa (passes_call (takes_of rfl rfl rfl rfl) (fun _ _ _ _ h => h)) (pa_cons pe_str (pa_cons (pv 5) pa_nil)) (pk_cons (pe_tup (pa_cons pe_str pa_nil)) pk_nil))) pa_nil)))
      (pss_cons (ps_expr (pe_bm PySem.F.plainAttrs_list PySem.F.slot_list_append PySem.F.type_list_append mt_append (pv 1) (pa_cons (pe_flt (k := k) (sc := defScope sRight) FL TB rfl hT hU hr (fun A' outer' s' H' E' f' c' hr' => pe_makeAK G.Mm G.GI (hr'.mono G.hI) (by rfl) G.gLa (passes_call (takes_of rfl rfl rfl rfl) (fun _ _ _ _ h => h)) (pa_cons pe_str (pa_cons (pv 5) pa_nil)) (pk_cons (pv 7) pk_nil))) pa_nil)))
      (pss_cons (ps_expr (pe_bm PySem.F.plainAttrs_list PySem.F.slot_list_append PySem.F.type_list_append mt_append (pv 1) (pa_cons (pe_flt (k := k) (sc := defScope sRight) FL TB rfl hT hU hr (fun A' outer' s' H' E' f' c' hr' => pe_makeAK G.Mm G.GI (hr'.mono G.hI) (by rfl) G.gLa (passes_call (takes_of rfl rfl rfl rfl) (fun _ _ _ _ h => h)) (pa_cons pe_str (pa_cons pe_str pa_nil)) (pk_cons (pv 7) pk_nil))) pa_nil)))
      (pss_cons (ps_expr (pe_bm PySem.F.plainAttrs_list PySem.F.slot_list_append PySem.F.type_list_append mt_append (pv 1) (pa_cons (pe_flt (k := k) (sc := defScope sRight) FL TB rfl hT hU hr (fun A' outer' s' H' E' f' c' hr' => ClX.pe_cmeth (pe_glob (v := .ref D.C) rfl G.gLa rfl) G.cr G.cm (G.GO.raw G.bO .nil) hr' (passes_call (takes_of rfl rfl rfl rfl) (fun _ _ _ _ h => h)) (pa_cons (pe_tup (pa_cons pe_str (pa_cons (pv 5) pa_nil))) (pa_cons (pe_tup (pa_cons pe_str pa_nil)) pa_nil)))) pa_nil)))
      (pss_cons (ps_expr (pe_bm PySem.F.plainAttrs_list PySem.F.slot_list_append PySem.F.type_list_append mt_append (pv 1) (pa_cons (pe_flt (k := k) (sc := defScope sRight) FL TB rfl hT hU hr (fun A' outer' s' H' E' f' c' hr' => ClX.pe_cmeth (pe_glob (v := .ref D.C) rfl G.gLa rfl) G.cr G.cm (G.GO.raw G.bO .nil) hr' (passes_call (takes_of rfl rfl rfl rfl) (fun _ _ _ _ h => h)) (pa_cons (pe_tup (pa_cons pe_str (pa_cons pe_str pa_nil))) (pa_cons (pv 7) pa_nil)))) pa_nil)))
      (pss_cons (ps_expr (pe_bm PySem.F.plainAttrs_list PySem.F.slot_list_append PySem.F.type_list_append mt_append (pv 1) (pa_cons (pe_flt (k := k) (sc := defScope sRight) FL TB rfl hT hU hr (fun A' outer' s' H' E' f' c' hr' => pe_methR (pv 4) G.L.cl G.mWm G.gWm hr' (passes_call (takes_of rfl rfl rfl rfl) (fun _ _ _ _ h => h)) (pa_cons pe_str (pa_cons (pv 5) pa_nil)))) pa_nil)))
      (pss_cons (ps_expr (pe_bm PySem.F.plainAttrs_list PySem.F.slot_list_append PySem.F.type_list_append mt_append (pv 1) (pa_cons (pe_flt (k := k) (sc := defScope sRight) FL TB rfl hT hU hr (fun A' outer' s' H' E' f' c' hr' => pe_methR (pv 4) G.L.cl G.mWk G.gWk hr' (passes_call (takes_of rfl rfl rfl rfl) (fun _ _ _ _ h => h)) (pa_cons (pv 5) (pa_cons pe_str pa_nil)))) pa_nil)))
      (pss_cons (ps_expr (pe_bm PySem.F.plainAttrs_list PySem.F.slot_list_append PySem.F.type_list_append mt_append (pv 1) (pa_cons (pe_flt (k := k) (sc := defScope sRight) FL TB rfl hT hU hr (fun A' outer' s' H' E' f' c' hr' => pe_methR (pv 4) G.L.cl G.mWm G.gWm hr' (passes_call (takes_of rfl rfl rfl rfl) (fun _ _ _ _ h => h)) (pa_cons pe_str pa_nil))) pa_nil)))
      (pss_cons (ps_expr (pe_bm PySem.F.plainAttrs_list PySem.F.slot_list_append PySem.F.type_list_append mt_append (pv 1) (pa_cons (pe_flt (k := k) (sc := defScope sRight) FL TB rfl hT hU hr (fun A' outer' s' H' E' f' c' hr' => pe_methR (pv 4) G.L.cl G.mWk G.gWk hr' (passes_call (takes_of rfl rfl rfl rfl) (fun _ _ _ _ h => h)) (pa_cons pe_str (pa_cons pe_str pa_nil)))) pa_nil)))
      (pss_cons (ps_expr (pe_bm PySem.F.plainAttrs_list PySem.F.slot_list_append PySem.F.type_list_append mt_append (pv 1) (pa_cons (pe_flt (k := k) (sc := defScope sRight) FL TB rfl hT hU hr (fun A' outer' s' H' E' f' c' hr' => pe_methR (pv 4) G.L.cl G.mWk G.gWk hr' (passes_call (takes_of rfl rfl rfl rfl) (fun _ _ _ _ h => h)) (pa_cons pe_str (pa_cons pe_str (pa_cons pe_str pa_nil))))) pa_nil)))
      (pss_cons (ps_expr (pe_bm PySem.F.plainAttrs_list PySem.F.slot_list_append PySem.F.type_list_append mt_append (pv 1) (pa_cons (pe_flt (k := k) (sc := defScope sRight) FL TB rfl hT hU hr (fun A' outer' s' H' E' f' c' hr' => pe_methR (pv 4) G.L.cl G.mOu G.gOu hr' (passes_call (takes_of rfl rfl rfl rfl) (fun _ _ _ _ h => h)) (pa_cons pe_str (pa_cons pe_str (pa_cons pe_str pa_nil))))) pa_nil)))
      (pss_cons (ps_if (pt_cmpR (op_neD hu) (pv 1) (pe_op op_rep (pe_lst (pa_cons pe_str pa_nil)) pe_int) (nomark _)) (pss_one (ps_ret pe_bl)) pss_nil)
      (pss_cons (ps_set (i := 6) scRight.nd rfl (.inr rfl) (pe_call GP hr (by rfl) gP kP bP .nil pass0 (pa_cons (pv 0) (pa_cons (pe_lst (pa_cons pe_non (pa_cons pe_int (pa_cons pe_str (pa_cons (pe_tup (pa_cons pe_str pa_nil)) (pa_cons (pe_lst (pa_cons (pv 4) pa_nil)) (pa_cons pe_dnewK (pa_cons (pe_tup pa_nil) (pa_cons (pe_prop (pv 4) G.L.cl G.pMk G.GMk hr2 G.bMk .nil pass0 (by rfl)) (pa_cons (pv 5) pa_nil)))))))))) pa_nil))))
      (pss_cons (ps_set (i := 1) scRight.nd rfl (.inl rfl) (pe_lst (pa_cons (pe_flt (k := k) (sc := defScope sRight) FL TB rfl hT hU hr (fun A' outer' s' H' E' f' c' hr' => pe_op (show OpR _ (binaryOp .BitOr) (rBinR K D.C .BitOr (spTwo K D.C D.CI D.CO (· ++ ·)) E') from op_binR G.oS G.oR G.oF G.sf G.gOr hr' (passes_call (takes_of rfl rfl rfl rfl) (fun _ _ _ _ h => h))) (pv 4) (pv 6))) pa_nil)))
      (pss_cons (ps_expr (pe_bm PySem.F.plainAttrs_list PySem.F.slot_list_append PySem.F.type_list_append mt_append (pv 1) (pa_cons (pe_flt (k := k) (sc := defScope sRight) FL TB rfl hT hU hr (fun A' outer' s' H' E' f' c' hr' => pe_op (show OpR _ (binaryOp .BitAnd) (rBinR K D.C .BitAnd (spTwo K D.C D.CI D.CO inBoth) E') from op_binR G.aS G.aR G.aF G.sf G.gAn hr' (passes_call (takes_of rfl rfl rfl rfl) (fun _ _ _ _ h => h))) (pv 4) (pv 6))) pa_nil)))
      (pss_cons (ps_if (pt_cmpR (op_neD hu) (pv 1) (pe_op op_rep (pe_lst (pa_cons pe_str pa_nil)) pe_int) (nomark _)) (pss_one (ps_ret pe_bl)) pss_nil)
      (pss_cons (ps_set (i := 2) scRight.nd rfl (.inl rfl) (pe_lst (pa_cons (pe_flt (k := k) (sc := defScope sRight) FL TB rfl hT hU hr (fun A' outer' s' H' E' f' c' hr' => pe_methR (pv 4) G.L.cl G.mOu G.gOu hr' (passes_call (takes_of rfl rfl rfl rfl) (fun _ _ _ _ h => h)) (pa_cons (pv 5) pa_nil))) pa_nil)))
      (pss_cons (ps_expr (pe_bm PySem.F.plainAttrs_list PySem.F.slot_list_append PySem.F.type_list_append mt_append (pv 2) (pa_cons (pe_flt (k := k) (sc := defScope sRight) FL TB rfl hT hU hr (fun A' outer' s' H' E' f' c' hr' => pe_methR (pv 4) G.L.cl G.mOu G.gOu hr' (passes_call (takes_of rfl rfl rfl rfl) (fun _ _ _ _ h => h)) (pa_cons pe_str (pa_cons (pv 5) (pa_cons (pv 3) pa_nil))))) pa_nil)))
      (pss_cons (ps_expr (pe_bm PySem.F.plainAttrs_list PySem.F.slot_list_append PySem.F.type_list_append mt_append (pv 2) (pa_cons (pe_flt (k := k) (sc := defScope sRight) FL TB rfl hT hU hr (fun A' outer' s' H' E' f' c' hr' => pe_methR (pv 4) G.L.cl G.mOu G.gOu hr' (passes_call (takes_of rfl rfl rfl rfl) (fun _ _ _ _ h => h)) (pa_cons pe_str (pa_cons pe_str (pa_cons (pv 5) pa_nil))))) pa_nil)))
      (pss_cons (ps_if (pt_cmpR op_ne (pe_callB (TfR.call_repr_lst gu hu') (by rfl) mRe (by decide +kernel) (pa_cons (pv 2) pa_nil)) (pe_callB (TfR.call_repr_lst gu hu') (by rfl) mRe (by decide +kernel) (pa_cons (pe_op op_rep (pe_lst (pa_cons (pe_lst (pa_cons pe_str (pa_cons (pv 5) pa_nil))) pa_nil)) pe_int) pa_nil)) (nomark _)) (pss_one (ps_ret pe_bl)) pss_nil)
      (pss_one (ps_ret (pe_and (pe_cmpR (op_eqO G.oE G.gE hr1 pass0) (pv 4) (pe_makeAK (E := E0) G.Mm G.GI (hr.mono (by have := G.hI; omega)) (by rfl) G.gLa (passes_call L2.takes0 (fun _ _ _ _ h => h)) (pa_cons pe_str (pa_cons pe_str pa_nil)) (pk_cons (pe_tup (pa_cons pe_str (pa_cons pe_str pa_nil))) pk_nil)) (nomark _)) (pe_and (pe_cmpR (op_notInO G.oH G.gH hr1 pass0) (pv 5) (pv 4) (by rfl)) (pe_one (pe_cmpR op_isBl (pe_cmpR (op_eqO G.oE G.gE hr1 pass0) (pv 4) (pv 5) (nomark _)) pe_bl (nomark _))))))))))))))))))))))))))))), ?_⟩
    -- the values
    refine ⟨by show 2 ≤ sizeLine; decide, fun t1 m1 => ?_⟩
    have e1 : (upd H t1 (.tup [.str "by", .str "of"])) t1 = some (.tup [.str "by", .str "of"]) := upd_same
    have s1 : Same H (upd H t1 (.tup [.str "by", .str "of"])) := same_new m1
    generalize upd H t1 (.tup [.str "by", .str "of"]) = H1 at *
    refine ⟨rfl, fun x dx nx ndx nxd => ⟨H1, x, dx, _, _, rfl, rfl, rfl, nx, ndx, nxd, makes_names (ms := ["a", "b"]) (ks := ["by", "of"]) (tup_of e1) (by decide +kernel) (by decide +kernel) (by decide) (by decide) (ok_small (by decide) (by decide) (by decide) (by decide +kernel)) ?_⟩⟩
    intro H2 s2 la
    refine ⟨rfl, ?_⟩
    have la2 : LangAt D.C H2 x (canon ["a", "b"]) (canon ["by", "of"]) := la
    rw [cAB, cBO] at la2
    clear la nx ndx nxd
    refine ⟨.ref d, rfl, d, rfl, hd.same (s1.trans s2), fun v1 dt1 H3 n3 d3 o1 i1 => ?_⟩
    refine ⟨.ref d, rfl, d, rfl, d3, fun v2 dt2 H4 n4 d4 o2 i2 => ?_⟩
    refine ⟨by show 3 ≤ sizeLine; decide, fun tp n5 => ⟨tp, _, rfl, tup_of upd_same, rfl, _, _, rfl, _, _, rfl, _, _, rfl, rfl, ?_⟩⟩
    have e5 : (upd H4 tp (.tup [.ref x, v1, v2])) tp = some (.tup [.ref x, v1, v2]) := upd_same
    have s5 : Same H4 (upd H4 tp (.tup [.ref x, v1, v2])) := same_new n5
    generalize upd H4 tp (.tup [.ref x, v1, v2]) = H5 at *
    have kp5 : KpD d H H5 := (s1.kpd.trans s2.kpd).trans (n3.kpd.trans (n4.kpd.trans s5.kpd))
    have la5 : LangAt D.C H5 x ["a", "b"] ["by", "of"] := la2.kept (((n3.kpd.kept (hd.same (s1.trans s2))).trans (n4.kpd.kept d3)).trans s5.kept)
    have p1 : OddD H5 v1 dt1 := o1.kept ((n4.kpd.kept d3).trans s5.kept)
    have p2 : OddD H5 v2 dt2 := o2.kept s5.kept
    have d5 : Dice H5 d := d4.same s5
    have tb5 : Tabs T H5 := (((tb.same (s1.trans s2)).nr n3 (hd.same (s1.trans s2))).nr n4 d3).same s5
    clear la2 o1 o2 d4 n3 n4 s5 e5 n5 e1 m1 d3 s1 s2 tb
    -- a value in the place of the kinds
    refine ⟨.ref d, rfl, ?_⟩
    refine ⟨by show 1 ≤ sizeLine; decide, fun q1 m1 => ?_⟩
    have e6 : (upd H5 q1 (.lst [.str "by"])) q1 = some (.lst [.str "by"]) := upd_same
    have s6 : Same H5 (upd H5 q1 (.lst [.str "by"])) := same_new m1
    generalize upd H5 q1 (.lst [.str "by"]) = H6 at *
    intro q2 m2
    refine ⟨upd_same, [(Sum.inr ("by" : Str), .int 1)], rfl, by decide, ?_⟩
    rw [show mergeK ([] : List (Key × V)) [(Sum.inr ("by" : Str), V.int 1)] = [(Sum.inr ("by" : Str), V.int 1)] from rfl]
    have e7 : (upd (upd H6 q2 (.dK [])) q2 (.dK [(Sum.inr ("by" : Str), .int 1)])) q2 = some (.dK [(Sum.inr ("by" : Str), .int 1)]) := upd_same
    have s7 : Same H6 (upd (upd H6 q2 (.dK [])) q2 (.dK [(Sum.inr ("by" : Str), .int 1)])) := (same_new m2).mut m2
    generalize upd (upd H6 q2 (.dK [])) q2 (.dK [(Sum.inr ("by" : Str), .int 1)]) = H7 at *
    refine ⟨by show 0 ≤ sizeLine; decide, fun q3 m3 => ?_⟩
    have e8 : (upd H7 q3 (.tup [])) q3 = some (.tup []) := upd_same
    have s8 : Same H7 (upd H7 q3 (.tup [])) := same_new m3
    generalize upd H7 q3 (.tup []) = H8 at *
    refine ⟨v1, rfl, by show 2 ≤ sizeLine; decide, fun q4 m4 => ?_⟩
    have e9 : (upd H8 q4 (.tup [.str "by", v1])) q4 = some (.tup [.str "by", v1]) := upd_same
    have s9 : Same H8 (upd H8 q4 (.tup [.str "by", v1])) := same_new m4
    generalize upd H8 q4 (.tup [.str "by", v1]) = H9 at *
    refine ⟨by show 2 ≤ sizeLine; decide, fun q5 m5 => ?_⟩
    have e10 : (upd H9 q5 (.tup [.str "by", .str "a"])) q5 = some (.tup [.str "by", .str "a"]) := upd_same
    have s10 : Same H9 (upd H9 q5 (.tup [.str "by", .str "a"])) := same_new m5
    generalize upd H9 q5 (.tup [.str "by", .str "a"]) = H10 at *
    refine ⟨by show 1 ≤ sizeLine; decide, fun q6 m6 => ?_⟩
    have e11 : (upd H10 q6 (.tup [.str "a"])) q6 = some (.tup [.str "a"]) := upd_same
    have s11 : Same H10 (upd H10 q6 (.tup [.str "a"])) := same_new m6
    generalize upd H10 q6 (.tup [.str "a"]) = H11 at *
    refine ⟨v1, rfl, by show 1 ≤ sizeLine; decide, fun q7 m7 => ?_⟩
    have e12 : (upd H11 q7 (.tup [v1])) q7 = some (.tup [v1]) := upd_same
    have s12 : Same H11 (upd H11 q7 (.tup [v1])) := same_new m7
    generalize upd H11 q7 (.tup [v1]) = H12 at *
    refine ⟨by show 10 ≤ sizeLine; decide, fun l nl => ?_⟩
    have e13 : (upd H12 l (.lst [.non, .str "by", .ref q1, .ref q2, .int 0, .ref q3, .ref q4, .ref q5, .ref q6, .ref q7])) l = some (.lst [.non, .str "by", .ref q1, .ref q2, .int 0, .ref q3, .ref q4, .ref q5, .ref q6, .ref q7]) := upd_same
    have s13 : Same H12 (upd H12 l (.lst [.non, .str "by", .ref q1, .ref q2, .int 0, .ref q3, .ref q4, .ref q5, .ref q6, .ref q7])) := same_new nl
    generalize upd H12 l (.lst [.non, .str "by", .ref q1, .ref q2, .int 0, .ref q3, .ref q4, .ref q5, .ref q6, .ref q7]) = H13 at *
    have S : Same H5 H13 := s6.trans (s7.trans (s8.trans (s9.trans (s10.trans (s11.trans (s12.trans s13))))))
    have dl : d ≠ l := by
      obtain ⟨i, j, k', e⟩ := dice_is (d5.same (s6.trans (s7.trans (s8.trans (s9.trans (s10.trans (s11.trans s12)))))))
      exact ne_of_none e nl
    refine ⟨d, l, _, rfl, d5.same S, e13, dl, List.cons_ne_nil _ _, by show 10 < 1000; decide, fun v3 H14 hv3 n14 d14 => ?_⟩
    have k14 : Kept H13 H14 := n14.kpd.kept (d5.same S)
    have sv : SomeV H14 v3 := by
      have al : ∀ v ∈ [V.non, .str "by", .ref q1, .ref q2, .int 0, .ref q3, .ref q4, .ref q5, .ref q6, .ref q7], SomeV H13 v := by
        have g1 : OddD H13 v1 dt1 := p1.kept S.kept
        simp only [List.forall_mem_cons]
        refine ⟨.non, .str _, .lst (s13 _ _ (s12 _ _ (s11 _ _ (s10 _ _ (s9 _ _ (s8 _ _ (s7 _ _ e6))))))), .dct (s13 _ _ (s12 _ _ (s11 _ _ (s10 _ _ (s9 _ _ (s8 _ _ e7)))))), .int _,
          .tup (s13 _ _ (s12 _ _ (s11 _ _ (s10 _ _ (s9 _ _ e8))))) (fun y hy => by cases hy) (by decide) (.inr noK0),
          .tup (s13 _ _ (s12 _ _ (s11 _ _ (s10 _ _ e9)))) ?_ (by show 2 ≤ 60; decide) (.inl ?_),
          .tup (s13 _ _ (s12 _ _ (s11 _ _ e10))) ?_ (by show 2 ≤ 60; decide) (.inr noK2),
          .tup (s13 _ _ (s12 _ _ e11)) ?_ (by show 1 ≤ 60; decide) (.inr noK1),
          .tup (s13 _ _ e12) ?_ (by show 1 ≤ 60; decide) (.inl ?_), fun v hv => by cases hv⟩
        · simp only [List.forall_mem_cons]
          exact ⟨.inr ⟨_, rfl, by decide +kernel⟩, .inl ⟨_, g1⟩, fun v hv => by cases hv⟩
        · simp only [List.all_cons, g1.v.isN, Bool.false_and, Bool.and_false]
        · simp only [List.forall_mem_cons]
          exact ⟨.inr ⟨_, rfl, by decide +kernel⟩, .inr ⟨_, rfl, by decide +kernel⟩, fun v hv => by cases hv⟩
        · simp only [List.forall_mem_cons]
          exact ⟨.inr ⟨_, rfl, by decide +kernel⟩, fun v hv => by cases hv⟩
        · simp only [List.forall_mem_cons]
          exact ⟨.inl ⟨_, g1⟩, fun v hv => by cases hv⟩
        · simp only [List.all_cons, g1.v.isN, Bool.false_and]
      exact (al v3 hv3).kept k14
    have kp : KpD d H H14 := (kp5.trans S.kpd).trans n14.kpd
    have kk : Kept H5 H14 := S.kept.trans k14
    have la : LangAt D.C H14 x ["a", "b"] ["by", "of"] := la5.kept kk
    have r1 : OddD H14 v1 dt1 := p1.kept kk
    have r2 : OddD H14 v2 dt2 := p2.kept kk
    have tb : Tabs T H14 := (tb5.same S).nr n14 (d5.same S)
    clear kp5 la5 p1 p2 d5 tb5 S dl k14 kk n14 hv3 e13 s13 s12 s11 s10 s9 s8 s7 s6 e12 e11 e10 e9 e8 e7 e6 m1 m2 m3 m4 m5 m6 m7 nl hd
    clear q1 q2 q3 q4 q5 q6 q7 l
    generalize H14 = H1 at *
    have dc : Dice H1 d := d14
    have nAB : Nms ["a", "b"] := nmsAB
    have nBO : Nms ["by", "of"] := by unfold Nms; decide +kernel
    -- language, one by one
    refine ⟨tb, fun G ex tg => ?_⟩
    refine ⟨v1, rfl, by show 1 ≤ sizeLine; decide, fun t1 m1 => ?_⟩
    have e2 : (upd G t1 (.tup [.str "by"])) t1 = some (.tup [.str "by"]) := upd_same
    have s2 : Same G (upd G t1 (.tup [.str "by"])) := same_new m1
    generalize upd G t1 (.tup [.str "by"]) = G2 at *
    refine ⟨rfl, fun y dy ny ndy nyd => ⟨G2, y, dy, _, _, rfl, rfl, rfl, ny, ndy, nyd, bad_mark (items1 (r1.kept (ex.kept.trans s2.kept))) (by show 2 ≤ 60; decide) (not1 r1 [.str "a"] []) fun H' s' => .inl ⟨rfl, Ph.new (d := d) dc ex tg (s2.trans s') (by show 1 ≤ sizeLine; decide) fun l H3 ph => ?_⟩⟩⟩
    clear ex tg m1 s2 e2 ny ndy nyd s'
    refine ⟨.ref l, rfl, .inl ⟨rfl, _, lst_of ph.el⟩, ph.tb, fun G ex tg => ?_⟩
    have kG := (ph.kp.kept dc).trans ex.kept
    refine ⟨v1, rfl, v3, rfl, rfl, fun y dy ny ndy nyd => ⟨G, y, dy, _, _, rfl, rfl, rfl, ny, ndy, nyd, bad_mark (items1 (r1.kept kG)) (by show 2 ≤ 60; decide) (not1 r1 [.str "a"] []) fun H' s' => .inl ⟨rfl, ph.app ex tg s' (by decide) fun H3 ph' => ?_⟩⟩⟩
    clear ny ndy nyd s'
    clear ph ex tg kG
    have ph := ph'
    clear ph'
    refine ⟨.ref l, rfl, .inl ⟨rfl, _, lst_of ph.el⟩, ph.tb, fun G ex tg => ?_⟩
    have kG := (ph.kp.kept dc).trans ex.kept
    refine ⟨v3, rfl, rfl, fun y dy ny ndy nyd => ⟨G, y, dy, _, _, rfl, rfl, rfl, ny, ndy, nyd, bad_kind (sv.kept kG) fun H' s' => .inl ⟨rfl, ph.app ex tg s' (by decide) fun H3 ph' => ?_⟩⟩⟩
    clear ny ndy nyd s'
    clear ph ex tg kG
    have ph := ph'
    clear ph'
    refine ⟨.ref l, rfl, .inl ⟨rfl, _, lst_of ph.el⟩, ph.tb, fun G ex tg => ?_⟩
    have kG := (ph.kp.kept dc).trans ex.kept
    refine ⟨rfl, v1, rfl, by show 2 ≤ sizeLine; decide, fun t1 m1 => ?_⟩
    have e2 : (upd G t1 (.tup [.str "a", v1])) t1 = some (.tup [.str "a", v1]) := upd_same
    have s2 : Same G (upd G t1 (.tup [.str "a", v1])) := same_new m1
    generalize upd G t1 (.tup [.str "a", v1]) = G2 at *
    refine ⟨by show 1 ≤ sizeLine; decide, fun t2 m2 => ?_⟩
    have e3 : (upd G2 t2 (.tup [.str "by"])) t2 = some (.tup [.str "by"]) := upd_same
    have s3 : Same G2 (upd G2 t2 (.tup [.str "by"])) := same_new m2
    generalize upd G2 t2 (.tup [.str "by"]) = G3 at *
    refine ⟨_, _, rfl, .inr ⟨t1, _, rfl, tup_of (s3 _ _ e2), bad_mark (items1 (r1.kept (kG.trans (s2.trans s3).kept))) (by show 2 ≤ 60; decide) (not1 r1 [.str "a"] []) fun H' s' => .inl ⟨rfl, ph.app ex tg (s2.trans (s3.trans s')) (by decide) fun H3 ph' => ?_⟩⟩⟩
    clear m1 m2 s2 s3 e2 e3 s'
    clear ph ex tg kG
    have ph := ph'
    clear ph'
    refine ⟨.ref l, rfl, .inl ⟨rfl, _, lst_of ph.el⟩, ph.tb, fun G ex tg => ?_⟩
    have kG := (ph.kp.kept dc).trans ex.kept
    refine ⟨rfl, by show 2 ≤ sizeLine; decide, fun t1 m1 => ?_⟩
    have e2 : (upd G t1 (.tup [.str "a", .str "b"])) t1 = some (.tup [.str "a", .str "b"]) := upd_same
    have s2 : Same G (upd G t1 (.tup [.str "a", .str "b"])) := same_new m1
    generalize upd G t1 (.tup [.str "a", .str "b"]) = G2 at *
    refine ⟨v3, rfl, _, _, rfl, .inr ⟨t1, _, rfl, tup_of e2, bad_kind (sv.kept (kG.trans s2.kept)) fun H' s' => .inl ⟨rfl, ph.app ex tg (s2.trans s') (by decide) fun H3 ph' => ?_⟩⟩⟩
    clear m1 s2 e2 s'
    clear ph ex tg kG
    have ph := ph'
    clear ph'
    refine ⟨.ref l, rfl, .inl ⟨rfl, _, lst_of ph.el⟩, ph.tb, fun G ex tg => ?_⟩
    have kG := (ph.kp.kept dc).trans ex.kept
    obtain ⟨dx, fs, pm, pk, h1, h2, h3, h4, h5, h6⟩ := la.kept kG
    refine ⟨.ref x, rfl, x, dx, fs, rfl, h1, look_none h6 (by decide +kernel), v1, rfl, ⟨[.ref x], [.str "c", v1], rfl, rfl, by show 2 ≤ sizeLine; decide, fun p np => ?_⟩⟩
    clear h1 h2 h3 h4 h5 h6
    have e2 : (upd G p (.tup [.str "c", v1])) p = some (.tup [.str "c", v1]) := upd_same
    have s2 : Same G (upd G p (.tup [.str "c", v1])) := same_new np
    generalize upd G p (.tup [.str "c", v1]) = G2 at *
    have la2 := la.kept (kG.trans s2.kept)
    refine ⟨x, p, _, _, _, rfl, tup_of e2, la2, by show 2 ≤ 20; decide, by show 2 ≤ 20; decide, fun G3 b s3 hb => bad_mark (itemsM nAB (items1 (r1.kept (kG.trans (s2.trans s3).kept)))) (by show 4 ≤ 60; decide) (not1 r1 [.str "a", .str "b", .str "c"] []) fun H' s' => .inl ⟨rfl, ph.app ex tg (s2.trans (s3.trans s')) (by decide) fun H3 ph' => ?_⟩⟩
    clear s3 hb s'
    clear np s2 e2 la2
    clear ph ex tg kG
    have ph := ph'
    clear ph'
    refine ⟨.ref l, rfl, .inl ⟨rfl, _, lst_of ph.el⟩, ph.tb, fun G ex tg => ?_⟩
    have kG := (ph.kp.kept dc).trans ex.kept
    obtain ⟨dx, fs, pm, pk, h1, h2, h3, h4, h5, h6⟩ := la.kept kG
    refine ⟨.ref x, rfl, x, dx, fs, rfl, h1, look_none h6 (by decide +kernel), v1, rfl, ⟨[.ref x], [v1, .str "to"], rfl, rfl, by show 2 ≤ sizeLine; decide, fun p np => ?_⟩⟩
    clear h1 h2 h3 h4 h5 h6
    have e2 : (upd G p (.tup [v1, .str "to"])) p = some (.tup [v1, .str "to"]) := upd_same
    have s2 : Same G (upd G p (.tup [v1, .str "to"])) := same_new np
    generalize upd G p (.tup [v1, .str "to"]) = G2 at *
    have la2 := la.kept (kG.trans s2.kept)
    refine ⟨x, p, _, _, _, rfl, tup_of e2, la2, by show 2 ≤ 20; decide, by show 2 ≤ 20; decide, fun G3 b s3 hb => bad_kinds nAB (by decide) hb (itemsM nBO (items2 (r1.kept (kG.trans (s2.trans s3).kept)))) (by show 4 ≤ 60; decide) (not1 r1 [.str "by", .str "of"] [.str "to"]) fun H' s' => .inl ⟨rfl, ph.app ex tg (s2.trans (s3.trans s')) (by decide) fun H3 ph' => ?_⟩⟩
    clear s3 hb s'
    clear np s2 e2 la2
    clear ph ex tg kG
    have ph := ph'
    clear ph'
    refine ⟨.ref l, rfl, .inl ⟨rfl, _, lst_of ph.el⟩, ph.tb, fun G ex tg => ?_⟩
    have kG := (ph.kp.kept dc).trans ex.kept
    obtain ⟨dx, fs, pm, pk, h1, h2, h3, h4, h5, h6⟩ := la.kept kG
    refine ⟨.ref x, rfl, x, dx, fs, rfl, h1, look_none h6 (by decide +kernel), ⟨[.ref x], [.str "by"], rfl, rfl, by show 1 ≤ sizeLine; decide, fun p np => ?_⟩⟩
    clear h1 h2 h3 h4 h5 h6
    have e2 : (upd G p (.tup [.str "by"])) p = some (.tup [.str "by"]) := upd_same
    have s2 : Same G (upd G p (.tup [.str "by"])) := same_new np
    generalize upd G p (.tup [.str "by"]) = G2 at *
    have la2 := la.kept (kG.trans s2.kept)
    refine ⟨x, p, _, _, _, rfl, tup_of e2, la2, by show 1 ≤ 20; decide, by show 2 ≤ 20; decide, fun G3 b s3 hb => bad_names (ms := ["a", "b", "by"]) (ks := ["by", "of"]) hb (by unfold Nms; decide +kernel) (by unfold Nms; decide +kernel) (by decide) (by decide) (no_lang (z := "by") (by decide +kernel) (by decide +kernel)) fun H' s' => .inl ⟨rfl, ph.app ex tg (s2.trans (s3.trans s')) (by decide) fun H3 ph' => ?_⟩⟩
    clear s3 hb s'
    clear np s2 e2 la2
    clear ph ex tg kG
    have ph := ph'
    clear ph'
    refine ⟨.ref l, rfl, .inl ⟨rfl, _, lst_of ph.el⟩, ph.tb, fun G ex tg => ?_⟩
    have kG := (ph.kp.kept dc).trans ex.kept
    obtain ⟨dx, fs, pm, pk, h1, h2, h3, h4, h5, h6⟩ := la.kept kG
    refine ⟨.ref x, rfl, x, dx, fs, rfl, h1, look_none h6 (by decide +kernel), ⟨[.ref x], [.str "to", .str "a"], rfl, rfl, by show 2 ≤ sizeLine; decide, fun p np => ?_⟩⟩
    clear h1 h2 h3 h4 h5 h6
    have e2 : (upd G p (.tup [.str "to", .str "a"])) p = some (.tup [.str "to", .str "a"]) := upd_same
    have s2 : Same G (upd G p (.tup [.str "to", .str "a"])) := same_new np
    generalize upd G p (.tup [.str "to", .str "a"]) = G2 at *
    have la2 := la.kept (kG.trans s2.kept)
    refine ⟨x, p, _, _, _, rfl, tup_of e2, la2, by show 2 ≤ 20; decide, by show 2 ≤ 20; decide, fun G3 b s3 hb => bad_names (ms := ["a", "b"]) (ks := ["by", "of", "to", "a"]) hb (by unfold Nms; decide +kernel) (by unfold Nms; decide +kernel) (by decide) (by decide) (no_lang (z := "a") (by decide +kernel) (by decide +kernel)) fun H' s' => .inl ⟨rfl, ph.app ex tg (s2.trans (s3.trans s')) (by decide) fun H3 ph' => ?_⟩⟩
    clear s3 hb s'
    clear np s2 e2 la2
    clear ph ex tg kG
    have ph := ph'
    clear ph'
    refine ⟨.ref l, rfl, .inl ⟨rfl, _, lst_of ph.el⟩, ph.tb, fun G ex tg => ?_⟩
    have kG := (ph.kp.kept dc).trans ex.kept
    obtain ⟨dx, fs, pm, pk, h1, h2, h3, h4, h5, h6⟩ := la.kept kG
    refine ⟨.ref x, rfl, x, dx, fs, rfl, h1, look_none h6 (by decide +kernel), ⟨[.ref x], [.str "to", .str "in", .str "at"], rfl, rfl, by show 3 ≤ sizeLine; decide, fun p np => ?_⟩⟩
    clear h1 h2 h3 h4 h5 h6
    have e2 : (upd G p (.tup [.str "to", .str "in", .str "at"])) p = some (.tup [.str "to", .str "in", .str "at"]) := upd_same
    have s2 : Same G (upd G p (.tup [.str "to", .str "in", .str "at"])) := same_new np
    generalize upd G p (.tup [.str "to", .str "in", .str "at"]) = G2 at *
    have la2 := la.kept (kG.trans s2.kept)
    refine ⟨x, p, _, _, _, rfl, tup_of e2, la2, by show 3 ≤ 20; decide, by show 2 ≤ 20; decide, fun G3 b s3 hb => bad_names (ms := ["a", "b"]) (ks := ["by", "of", "to", "in", "at"]) hb (by unfold Nms; decide +kernel) (by unfold Nms; decide +kernel) (by decide) (by decide) (no_many (by decide +kernel) (by decide)) fun H' s' => .inl ⟨rfl, ph.app ex tg (s2.trans (s3.trans s')) (by decide) fun H3 ph' => ?_⟩⟩
    clear s3 hb s'
    clear np s2 e2 la2
    clear ph ex tg kG
    have ph := ph'
    clear ph'
    refine ⟨.ref l, rfl, .inl ⟨rfl, _, lst_of ph.el⟩, ph.tb, fun G ex tg => ?_⟩
    have kG := (ph.kp.kept dc).trans ex.kept
    obtain ⟨dx, fs, pm, pk, h1, h2, h3, h4, h5, h6⟩ := la.kept kG
    refine ⟨.ref x, rfl, x, dx, fs, rfl, h1, look_none h6 (by decide +kernel), ⟨[.ref x], [.str "by", .str "a", .str "of"], rfl, rfl, by show 3 ≤ sizeLine; decide, fun p np => ?_⟩⟩
    clear h1 h2 h3 h4 h5 h6
    have e2 : (upd G p (.tup [.str "by", .str "a", .str "of"])) p = some (.tup [.str "by", .str "a", .str "of"]) := upd_same
    have s2 : Same G (upd G p (.tup [.str "by", .str "a", .str "of"])) := same_new np
    generalize upd G p (.tup [.str "by", .str "a", .str "of"]) = G2 at *
    have la2 := la.kept (kG.trans s2.kept)
    refine ⟨x, p, _, _, _, rfl, tup_of e2, la2, nAB, nBO, by decide, by decide, by show 3 ≤ 20; decide, ?_, .inl ⟨["by", "a", "of"], rfl, by decide +kernel, fun c => ?_, fun _ H' s' => .inl ⟨rfl, ph.app ex tg (s2.trans s') (by decide) fun H3 ph' => ?_⟩⟩⟩
    · simp only [List.forall_mem_cons]
      exact ⟨.inl rfl, .inl rfl, .inl rfl, fun v hv => by cases hv⟩
    · rw [show notIn (["by", "of"] : List Str) ["by", "a", "of"] = [] by decide +kernel, no_kinds] at c
      cases c
    clear s'
    clear np s2 e2 la2
    clear ph ex tg kG
    have ph := ph'
    clear ph'
    -- eleven of them
    refine ⟨.ref l, rfl, by show 1 ≤ sizeLine; decide, fun l2 n2 => ?_⟩
    have e4 : (upd H3 l2 (.lst [.str "language"])) l2 = some (.lst [.str "language"]) := upd_same
    have s4 : Same H3 (upd H3 l2 (.lst [.str "language"])) := same_new n2
    generalize upd H3 l2 (.lst [.str "language"]) = H4 at *
    refine ⟨l2, 11, _, rfl, rfl, e4, by decide, by decide, by show 1 * 11 ≤ sizeLine; decide, fun l3 n3 => ?_⟩
    have e5 : (upd H4 l3 (.lst (List.replicate (11 : Int).toNat [V.str "language"]).flatten)) l3 = some (.lst (List.replicate (11 : Int).toNat [V.str "language"]).flatten) := upd_same
    have s5 : Same H4 (upd H4 l3 (.lst (List.replicate (11 : Int).toNat [V.str "language"]).flatten)) := same_new n3
    generalize upd H4 l3 (.lst (List.replicate (11 : Int).toNat [V.str "language"]).flatten) = H5 at *
    refine ⟨.list (dS (List.replicate 11 "language")), .list (dS (List.replicate 11 "language")), dp_list (zs := List.replicate 11 "language") (lst_of (s5 _ _ (s4 _ _ ph.el))), dp_list (zs := List.replicate 11 "language") (lst_of e5), by decide +kernel, by decide +kernel, false, by rw [eqv_lists, decide_eq_true rfl]; rfl, iteF ?_⟩
    have kp5 : KpD d H H5 := kp.trans (ph.kp.trans (s4.trans s5).kpd)
    have kk := (ph.kp.trans (s4.trans s5).kpd).kept dc
    have la5 := la.kept kk
    have p1 := r1.kept kk
    have p2 := r2.kept kk
    have d5 : Dice H5 d := ph.dc.same (s4.trans s5)
    have tb5 : Tabs T H5 := ph.tb.same (s4.trans s5)
    clear kp la r1 r2 dc tb ph kk sv e4 e5 n2 n3 s4 s5
    -- another value
    obtain ⟨dx5, fs5, pm5, pk5, h1, h2, h3, h4, h5, h6⟩ := id la5
    refine ⟨.ref d, rfl, by show 1 ≤ sizeLine; decide, fun q1 m1 => ?_⟩
    have e6 : (upd H5 q1 (.tup [.str "a"])) q1 = some (.tup [.str "a"]) := upd_same
    have s6 : Same H5 (upd H5 q1 (.tup [.str "a"])) := same_new m1
    generalize upd H5 q1 (.tup [.str "a"]) = H6 at *
    refine ⟨.ref x, rfl, by show 1 ≤ sizeLine; decide, fun q2 m2 => ?_⟩
    have e7 : (upd H6 q2 (.lst [.ref x])) q2 = some (.lst [.ref x]) := upd_same
    have s7 : Same H6 (upd H6 q2 (.lst [.ref x])) := same_new m2
    generalize upd H6 q2 (.lst [.ref x]) = H7 at *
    intro q3 m3
    have e8 : (upd H7 q3 (.dK [])) q3 = some (.dK []) := upd_same
    have s8 : Same H7 (upd H7 q3 (.dK [])) := same_new m3
    generalize upd H7 q3 (.dK []) = H8 at *
    refine ⟨by show 0 ≤ sizeLine; decide, fun q4 m4 => ?_⟩
    have e9 : (upd H8 q4 (.tup [])) q4 = some (.tup []) := upd_same
    have s9 : Same H8 (upd H8 q4 (.tup [])) := same_new m4
    generalize upd H8 q4 (.tup []) = H9 at *
    have S9 := s6.trans (s7.trans (s8.trans s9))
    refine ⟨.ref x, rfl, x, dx5, fs5, rfl, S9 _ _ h1, x, _, _, rfl, la5.same S9, fun pw hpw => ?_⟩
    refine ⟨v1, rfl, by show 9 ≤ sizeLine; decide, fun l nl => ?_⟩
    have e10 : (upd H9 l (.lst [.non, .int 0, .str "a", .ref q1, .ref q2, .ref q3, .ref q4, .ref pw, v1])) l = some (.lst [.non, .int 0, .str "a", .ref q1, .ref q2, .ref q3, .ref q4, .ref pw, v1]) := upd_same
    have s10 : Same H9 (upd H9 l (.lst [.non, .int 0, .str "a", .ref q1, .ref q2, .ref q3, .ref q4, .ref pw, v1])) := same_new nl
    generalize upd H9 l (.lst [.non, .int 0, .str "a", .ref q1, .ref q2, .ref q3, .ref q4, .ref pw, v1]) = H10 at *
    have S := S9.trans s10
    have dl : d ≠ l := by
      obtain ⟨i, j, k', e⟩ := dice_is (d5.same S9)
      exact ne_of_none e nl
    refine ⟨d, l, _, rfl, d5.same S, e10, dl, List.cons_ne_nil _ _, by show 9 < 1000; decide, fun v4 H14 hv4 n14 dc => ?_⟩
    have k14 : Kept H10 H14 := n14.kpd.kept (d5.same S)
    have ov : OthV H14 v4 := by
      have al : ∀ v ∈ [V.non, .int 0, .str "a", .ref q1, .ref q2, .ref q3, .ref q4, .ref pw, v1], OthV H10 v := by
        simp only [List.forall_mem_cons]
        exact ⟨.odd .non, .odd (.int _), .str _, .tup (s10 _ _ (s9 _ _ (s8 _ _ (s7 _ _ e6)))), .lst (s10 _ _ (s9 _ _ (s8 _ _ e7))), .dct (s10 _ _ (s9 _ _ e8)), .tup (s10 _ _ e9), .tup (s10 _ _ hpw), .odd (p1.kept S.kept), fun v hv => by cases hv⟩
      exact (al v4 hv4).kept k14
    have kp : KpD d H H14 := (kp5.trans S.kpd).trans n14.kpd
    have kk : Kept H5 H14 := S.kept.trans k14
    have la : LangAt D.C H14 x ["a", "b"] ["by", "of"] := la5.kept kk
    have r1 : OddD H14 v1 dt1 := p1.kept kk
    have r2 : OddD H14 v2 dt2 := p2.kept kk
    have tb : Tabs T H14 := (tb5.same S).nr n14 (d5.same S)
    clear kp5 la5 p1 p2 d5 tb5 S dl k14 kk n14 hv4 e10 S9 s10 s9 s8 s7 s6 e9 e8 e7 e6 m1 m2 m3 m4 nl h1 h2 h3 h4 h5 h6 hpw
    clear q1 q2 q3 q4 l dx5 fs5 pm5 pk5 pw
    generalize H14 = H2 at *
    -- operation, twice
    refine ⟨tb, fun G ex tg => ?_⟩
    obtain ⟨dx, fs, pm, pk, h1, h2, h3, h4, h5, h6⟩ := la.kept ex.kept
    obtain ⟨t, ht, ty⟩ := (ov.kept ex.kept).ty (K := K)
    refine ⟨.ref x, rfl, v4, rfl, x, dx, fs, t, rfl, h1, ty, G0.bnO t ht, x, v4, _, _, rfl, la.kept ex.kept, nAB, nBO, by decide, by decide, .inl ⟨⟨t, ty, G0.T.kit t ht⟩, .inr (.inl ⟨rfl, Ph.new (d := d) dc ex tg (Same.refl G) (by show 1 ≤ sizeLine; decide) fun l H3 ph => ?_⟩)⟩⟩
    clear ex tg h1 h2 h3 h4 h5 h6 ht ty
    refine ⟨.ref l, rfl, .inl ⟨rfl, _, lst_of ph.el⟩, ph.tb, fun G ex tg => ?_⟩
    have kG := (ph.kp.kept dc).trans ex.kept
    obtain ⟨dx, fs, pm, pk, h1, h2, h3, h4, h5, h6⟩ := la.kept kG
    obtain ⟨t, ht, ty⟩ := (ov.kept kG).ty (K := K)
    refine ⟨.ref x, rfl, v4, rfl, x, dx, fs, t, rfl, h1, ty, G0.bnA t ht, x, v4, _, _, rfl, la.kept kG, nAB, nBO, by decide, by decide, .inl ⟨⟨t, ty, G0.T.kit t ht⟩, .inr (.inl ⟨rfl, ph.app ex tg (Same.refl G) (by decide) fun H3 ph' => ?_⟩)⟩⟩
    clear ex tg h1 h2 h3 h4 h5 h6 ht ty ph kG
    have ph := ph'
    clear ph'
    refine ⟨.ref l, rfl, by show 1 ≤ sizeLine; decide, fun l2 n2 => ?_⟩
    have e4 : (upd H3 l2 (.lst [.str "operation"])) l2 = some (.lst [.str "operation"]) := upd_same
    have s4 : Same H3 (upd H3 l2 (.lst [.str "operation"])) := same_new n2
    generalize upd H3 l2 (.lst [.str "operation"]) = H4 at *
    refine ⟨l2, 2, _, rfl, rfl, e4, by decide, by decide, by show 1 * 2 ≤ sizeLine; decide, fun l3 n3 => ?_⟩
    have e5 : (upd H4 l3 (.lst (List.replicate (2 : Int).toNat [V.str "operation"]).flatten)) l3 = some (.lst (List.replicate (2 : Int).toNat [V.str "operation"]).flatten) := upd_same
    have s5 : Same H4 (upd H4 l3 (.lst (List.replicate (2 : Int).toNat [V.str "operation"]).flatten)) := same_new n3
    generalize upd H4 l3 (.lst (List.replicate (2 : Int).toNat [V.str "operation"]).flatten) = H5 at *
    refine ⟨.list (dS ["operation", "operation"]), .list (dS ["operation", "operation"]), dp_list (zs := ["operation", "operation"]) (lst_of (s5 _ _ (s4 _ _ ph.el))), dp_list (zs := ["operation", "operation"]) (lst_of e5), by decide +kernel, by decide +kernel, false, by rw [eqv_lists, decide_eq_true rfl]; rfl, iteF ?_⟩
    have kp5 : KpD d H H5 := kp.trans (ph.kp.trans (s4.trans s5).kpd)
    have kk := (ph.kp.trans (s4.trans s5).kpd).kept dc
    have la5 := la.kept kk
    have p1 := r1.kept kk
    have p2 := r2.kept kk
    have d5 : Dice H5 d := ph.dc.same (s4.trans s5)
    have tb5 : Tabs T H5 := ph.tb.same (s4.trans s5)
    clear kp la r1 r2 dc tb ph kk ov e4 e5 n2 n3 s4 s5
    -- names
    refine ⟨tb5, fun G ex tg => ?_⟩
    obtain ⟨dx, fs, pm, pk, h1, h2, h3, h4, h5, h6⟩ := la5.kept ex.kept
    refine ⟨.ref x, rfl, x, dx, fs, rfl, h1, look_none h6 (by decide +kernel), v1, rfl, ⟨[.ref x], [v1], rfl, rfl, by show 1 ≤ sizeLine; decide, fun p np => ?_⟩⟩
    clear h1 h2 h3 h4 h5 h6
    have e2 : (upd G p (.tup [v1])) p = some (.tup [v1]) := upd_same
    have s2 : Same G (upd G p (.tup [v1])) := same_new np
    generalize upd G p (.tup [v1]) = G2 at *
    have o1 := p1.kept (ex.kept.trans s2.kept)
    refine ⟨x, p, _, _, _, rfl, tup_of e2, la5.kept (ex.kept.trans s2.kept), nAB, nBO, by decide, by decide, by show 1 ≤ 20; decide, ?_, .inr ⟨0, v1, rfl, by unfold Unk; rw [odd_has o1.v nAB, odd_has o1.v nBO]; rfl, fun j y hj => absurd hj (Nat.not_lt_zero _), fun dd ndd => .inr (.inr ⟨rfl, dd, v1, rfl, upd_same, fun l1 nl1 => ?_⟩)⟩⟩
    · simp only [List.forall_mem_cons]
      exact ⟨o1.v.box, fun v hv => by cases hv⟩
    have e3 : (upd G2 dd (.xd [(("name" : Str), v1)])) dd = some (.xd [(("name" : Str), v1)]) := upd_same
    have s3 : Same G2 (upd G2 dd (.xd [(("name" : Str), v1)])) := same_new ndd
    generalize upd G2 dd (.xd [(("name" : Str), v1)]) = G3 at *
    have e4 : (upd G3 l1 (.lst [.str "name", v1])) l1 = some (.lst [.str "name", v1]) := upd_same
    have s4 : Same G3 (upd G3 l1 (.lst [.str "name", v1])) := same_new nl1
    generalize upd G3 l1 (.lst [.str "name", v1]) = G4 at *
    have kG := ex.kept.trans (s2.trans (s3.trans s4)).kept
    have kpG : KpD d H G4 := kp5.trans (ex.kpd.trans (s2.trans (s3.trans s4)).kpd)
    have laG := la5.kept kG
    have g1 := p1.kept kG
    have g2 := p2.kept kG
    have dG : Dice G4 d := (dice_ext d5 ex).same (s2.trans (s3.trans s4))
    have tbG : Tabs T G4 := tg.same (s2.trans (s3.trans s4))
    clear kp5 la5 p1 p2 d5 tb5 ex tg np s2 e2 o1 ndd nl1 s3 e3 s4 kG
    refine Ph.new (d := d) dG (ExtN.refl G4) tbG (Same.refl G4) (by show 1 ≤ sizeLine; decide) fun l H3 ph => ?_
    refine ⟨.ref l, rfl, .inl ⟨rfl, _, lst_of ph.el⟩, ph.tb, fun G ex tg => ?_⟩
    have kG := (ph.kp.kept dG).trans ex.kept
    obtain ⟨dx, fs, pm, pk, h1, h2, h3, h4, h5, h6⟩ := laG.kept kG
    refine ⟨.ref x, rfl, x, dx, fs, rfl, h1, look_none h6 (by decide +kernel), v1, rfl, v2, rfl, ⟨[.ref x], [.str "a", v1, v2], rfl, rfl, by show 3 ≤ sizeLine; decide, fun p np => ?_⟩⟩
    clear h1 h2 h3 h4 h5 h6
    have e2 : (upd G p (.tup [.str "a", v1, v2])) p = some (.tup [.str "a", v1, v2]) := upd_same
    have s2 : Same G (upd G p (.tup [.str "a", v1, v2])) := same_new np
    generalize upd G p (.tup [.str "a", v1, v2]) = G2 at *
    have o1 := g1.kept (kG.trans s2.kept)
    have o2 := g2.kept (kG.trans s2.kept)
    refine ⟨x, p, _, _, _, rfl, tup_of e2, laG.kept (kG.trans s2.kept), nAB, nBO, by decide, by decide, by show 3 ≤ 20; decide, ?_, .inr ⟨1, v1, rfl, by unfold Unk; rw [odd_has o1.v nAB, odd_has o1.v nBO]; rfl, ?_, fun dd ndd => .inr (.inr ⟨rfl, dd, v1, rfl, upd_same, fun l2 nl2 => ?_⟩)⟩⟩
    · simp only [List.forall_mem_cons]
      exact ⟨.inl rfl, o1.v.box, o2.v.box, fun v hv => by cases hv⟩
    · intro j y hj e
      obtain rfl : j = 0 := by omega
      cases e
      decide +kernel
    have e3 : (upd G2 dd (.xd [(("name" : Str), v1)])) dd = some (.xd [(("name" : Str), v1)]) := upd_same
    have s3 : Same G2 (upd G2 dd (.xd [(("name" : Str), v1)])) := same_new ndd
    generalize upd G2 dd (.xd [(("name" : Str), v1)]) = G3 at *
    have el3 := s3 _ _ (s2 _ _ (ex _ _ ph.el fun ps z => by cases z))
    have nel : l2 ≠ l := (ne_of_none el3 nl2).symm
    have e5 : (upd G3 l2 (.lst [.str "name", v1])) l2 = some (.lst [.str "name", v1]) := upd_same
    have s5 : Same G3 (upd G3 l2 (.lst [.str "name", v1])) := same_new nl2
    generalize upd G3 l2 (.lst [.str "name", v1]) = G5 at *
    refine ph.app2 ex tg (s2.trans (s3.trans s5)) (by show _ < sizeLine; simp [sizeLine]) fun H3 ph' kb => ?_
    have b_l2 := kb _ _ nel e5
    have nel_l2 := nel
    clear ex tg np s2 e2 o1 o2 ndd nl2 s3 e3 s5 kG el3 e5 ph kb
    have ph := ph'
    clear ph'
    refine ⟨.ref l, rfl, .inl ⟨rfl, _, lst_of ph.el⟩, ph.tb, fun G ex tg => ?_⟩
    have kG := (ph.kp.kept dG).trans ex.kept
    obtain ⟨dx, fs, pm, pk, h1, h2, h3, h4, h5, h6⟩ := laG.kept kG
    refine ⟨.ref x, rfl, x, dx, fs, rfl, h1, look_none h6 (by decide +kernel), v1, rfl, ⟨[.ref x], [.str "by", .str "of", v1], rfl, rfl, by show 3 ≤ sizeLine; decide, fun p np => ?_⟩⟩
    clear h1 h2 h3 h4 h5 h6
    have e2 : (upd G p (.tup [.str "by", .str "of", v1])) p = some (.tup [.str "by", .str "of", v1]) := upd_same
    have s2 : Same G (upd G p (.tup [.str "by", .str "of", v1])) := same_new np
    generalize upd G p (.tup [.str "by", .str "of", v1]) = G2 at *
    have o1 := g1.kept (kG.trans s2.kept)
    have o2 := g2.kept (kG.trans s2.kept)
    refine ⟨x, p, _, _, _, rfl, tup_of e2, laG.kept (kG.trans s2.kept), nAB, nBO, by decide, by decide, by show 3 ≤ 20; decide, ?_, .inr ⟨2, v1, rfl, by unfold Unk; rw [odd_has o1.v nAB, odd_has o1.v nBO]; rfl, ?_, fun dd ndd => .inr (.inr ⟨rfl, dd, v1, rfl, upd_same, fun l3 nl2 => ?_⟩)⟩⟩
    · simp only [List.forall_mem_cons]
      exact ⟨.inl rfl, .inl rfl, o1.v.box, fun v hv => by cases hv⟩
    · intro j y hj e
      obtain rfl | rfl : j = 0 ∨ j = 1 := by omega
      · cases e
        decide +kernel
      · cases e
        decide +kernel
    have e3 : (upd G2 dd (.xd [(("name" : Str), v1)])) dd = some (.xd [(("name" : Str), v1)]) := upd_same
    have s3 : Same G2 (upd G2 dd (.xd [(("name" : Str), v1)])) := same_new ndd
    generalize upd G2 dd (.xd [(("name" : Str), v1)]) = G3 at *
    have el3 := s3 _ _ (s2 _ _ (ex _ _ ph.el fun ps z => by cases z))
    have nel : l3 ≠ l := (ne_of_none el3 nl2).symm
    have e5 : (upd G3 l3 (.lst [.str "name", v1])) l3 = some (.lst [.str "name", v1]) := upd_same
    have s5 : Same G3 (upd G3 l3 (.lst [.str "name", v1])) := same_new nl2
    generalize upd G3 l3 (.lst [.str "name", v1]) = G5 at *
    have b2' := s5 _ _ (s3 _ _ (s2 _ _ (ex _ _ b_l2 fun ps z => by cases z)))
    have n2 := nel_l2
    refine ph.app2 ex tg (s2.trans (s3.trans s5)) (by show _ < sizeLine; simp [sizeLine]) fun H3 ph' kb => ?_
    have b_l3 := kb _ _ nel e5
    have b_l2 := kb _ _ n2 b2'
    clear b2'
    clear ex tg np s2 e2 o1 o2 ndd nl2 s3 e3 s5 kG el3 e5 ph kb
    have ph := ph'
    clear ph'
    -- their texts
    obtain ⟨hs, hz, hdp⟩ := odd_short i1
    have kH := ph.kp.kept dG
    have q1 := g1.kept kH
    have rp : ∀ {H : Hp} {a : Addr}, OddD H v1 dt1 → H a = some (.lst [.str "name", v1]) → TfR.Rp H (.ref a) (dN dt1) := fun o h => .lst h (.cons (.str _) (.cons o.rp .nil))
    refine ⟨.ref l, rfl, l, _, dN dt1, [dN dt1, dN dt1], rfl, ph.el, .cons (rp q1 (kH _ _ e4 (solid_a _ _))) (.cons (rp q1 b_l2) (.cons (rp q1 b_l3) .nil)), hs, hz, hdp, ?_⟩
    refine ⟨v1, rfl, by show 2 ≤ sizeLine; decide, fun l4 n4 => ?_⟩
    have e6 : (upd H3 l4 (.lst [.str "name", v1])) l4 = some (.lst [.str "name", v1]) := upd_same
    have s6 : Same H3 (upd H3 l4 (.lst [.str "name", v1])) := same_new n4
    generalize upd H3 l4 (.lst [.str "name", v1]) = H6 at *
    refine ⟨by show 1 ≤ sizeLine; decide, fun l5 n5 => ?_⟩
    have e7 : (upd H6 l5 (.lst [.ref l4])) l5 = some (.lst [.ref l4]) := upd_same
    have s7 : Same H6 (upd H6 l5 (.lst [.ref l4])) := same_new n5
    generalize upd H6 l5 (.lst [.ref l4]) = H7 at *
    refine ⟨l5, 3, _, rfl, rfl, e7, by decide, by decide, by show 1 * 3 ≤ sizeLine; decide, fun l6 n6 => ?_⟩
    have e8 : (upd H7 l6 (.lst (List.replicate (3 : Int).toNat [V.ref l4]).flatten)) l6 = some (.lst (List.replicate (3 : Int).toNat [V.ref l4]).flatten) := upd_same
    have s8 : Same H7 (upd H7 l6 (.lst (List.replicate (3 : Int).toNat [V.ref l4]).flatten)) := same_new n6
    generalize upd H7 l6 (.lst (List.replicate (3 : Int).toNat [V.ref l4]).flatten) = H8 at *
    have q8 := q1.kept (s6.trans (s7.trans s8)).kept
    have e6' := s8 _ _ (s7 _ _ e6)
    refine ⟨l6, _, dN dt1, [dN dt1, dN dt1], rfl, e8, .cons (rp q8 e6') (.cons (rp q8 e6') (.cons (rp q8 e6') .nil)), hs, hz, hdp, ?_⟩
    refine ⟨rfl, false, by rw [decide_eq_true rfl]; rfl, iteF ?_⟩
    have kpE : KpD d H H8 := kpG.trans (ph.kp.trans (s6.trans (s7.trans s8)).kpd)
    have laE : LangAt D.C H8 x ["a", "b"] ["by", "of"] := (laG.kept kH).kept (s6.trans (s7.trans s8)).kept
    have dE : Dice H8 d := ph.dc.same (s6.trans (s7.trans s8))
    have tbE : Tabs T H8 := ph.tb.same (s6.trans (s7.trans s8))
    clear kpG laG g1 g2 dG tbG ph kH q1 rp e4 b_l2 b_l3 n4 s6 e6 n5 s7 e7 n6 s8 e8 e6' hs hz hdp
    -- the language is as it was
    refine ⟨.ref x, rfl, by show 2 ≤ sizeLine; decide, fun t1 m1 => ?_⟩
    have e9 : (upd H8 t1 (.tup [.str "of", .str "by"])) t1 = some (.tup [.str "of", .str "by"]) := upd_same
    have s9 : Same H8 (upd H8 t1 (.tup [.str "of", .str "by"])) := same_new m1
    generalize upd H8 t1 (.tup [.str "of", .str "by"]) = H9 at *
    refine ⟨rfl, fun y dy ny ndy nyd => ⟨H9, y, dy, _, _, rfl, rfl, rfl, ny, ndy, nyd, makes_names (ms := ["b", "a"]) (ks := ["of", "by"]) (tup_of e9) (by decide +kernel) (by decide +kernel) (by decide) (by decide) (ok_small (by decide) (by decide) (by decide) (by decide +kernel)) ?_⟩⟩
    intro H10 s10 la
    refine ⟨rfl, ?_⟩
    have lay : LangAt D.C H10 y (canon ["b", "a"]) (canon ["of", "by"]) := la
    rw [cBA, cOB] at lay
    clear la ny ndy nyd
    have S := s9.trans s10
    have lax := laE.same S
    have o8 := q8.kept S.kept
    obtain ⟨dx, fs, _, _, gx, -, -, -, -, -⟩ := id lax
    obtain ⟨dy', fy, _, _, gy, -, -, -, -, -⟩ := id lay
    obtain ⟨t, ty, kt, nf⟩ := o8.v.ty (X := (cxOf CX0 P w K mg base nRight "_law_right" (defScope sRight) f (.ref c) A outer s H E).nox) G0.T
    refine ⟨x, dx, fs, .ref D.C, rfl, gx, TyL.ins gy, G0.T.nC, x, .ref y, _, _, rfl, lax, nAB, nBO, .inr ⟨y, _, _, rfl, lay, nAB, nBO, _, rfl, true, by decide +kernel, iteT ?_⟩⟩
    refine ⟨v1, rfl, .ref x, rfl, x, dx, fs, rfl, gx, x, v1, _, _, rfl, lax, o8.v.box, _, rfl, true, by rw [odd_has o8.v nAB, odd_has o8.v nBO]; rfl, iteT ?_⟩
    exact ⟨.ref x, rfl, v1, rfl, x, dx, fs, .type t, rfl, gx, TyL.of ty, nf, x, v1, _, _, rfl, lax, nAB, nBO, .inl ⟨⟨t, ty, kt⟩, _, rfl, false, false, rfl, rfl, q H10 (kpE.trans S.kpd) (dE.same S) (tbE.same S)⟩⟩
end
end Tf

/-! k03: the law -/
namespace Tf
open PySem PySem.Spec PyProof.Rows L2 LamX TfG
/-- a list that grows while all else stays, without dice -/
structure PhN (T : List (Addr × Str)) (Hb : Hp) (l : Addr) (xs : List V) (H : Hp) : Prop where
  kp : ExtN Hb H
  tb : Tabs T H
  nl : ∀ o, Hb l = some o → (∀ ps, o ≠ .tbl ps) → False
  el : H l = some (.lst xs)
theorem PhN.app {l : Addr} {T : List (Addr × Str)} {Hb H G H' : Hp} {xs : List V} {v : V} {R : Hp → Prop} (p : PhN T Hb l xs H) (ex : ExtN H G) (tg : Tabs T G) (s : Same G H') (hl : xs.length < sizeLine) (k : ∀ H3, PhN T Hb l (xs ++ [v]) H3 → (∀ b o, b ≠ l → H' b = some o → H3 b = some o) → R H3) : rAppend (.ref l) [v] H' (fun _ H4 => R H4) := by
  have e : H' l = some (.lst xs) := s _ _ (ex _ _ p.el fun ps z => by cases z)
  refine ⟨l, xs, v, rfl, rfl, e, hl, k _ ⟨fun b o h t => ?_, (tg.same s).lst e, p.nl, upd_same⟩ fun b o nb hb => by rw [upd_ne nb]; exact hb⟩
  have nb : b ≠ l := fun z => p.nl o (by rw [← z]; exact h) t
  rw [upd_ne nb]
  exact s _ _ (ex _ _ (p.kp b o h t) t)
theorem PhN.new {T : List (Addr × Str)} {Hb G H' : Hp} {xs : List V} {R : Addr → Hp → Prop} (ex : ExtN Hb G) (tg : Tabs T G) (s : Same G H') (hl : xs.length ≤ sizeLine) (k : ∀ l H3, PhN T Hb l xs H3 → R l H3) : xs.length ≤ sizeLine ∧ ∀ p, H' p = none → R p (upd H' p (.lst xs)) := by
  refine ⟨hl, fun p n => k p _ ⟨fun b o h t => ?_, tg.same (s.new n), fun o h t => ?_, upd_same⟩⟩
  · have e := s _ _ (ex _ _ h t)
    rw [upd_ne (ne_of_none e n)]
    exact e
  · rw [s _ _ (ex _ _ h t)] at n
    cases n
theorem cOne (z : Str) : canon [z] = [z] := canon_self (List.nodup_cons.mpr ⟨List.not_mem_nil, List.nodup_nil⟩) (List.pairwise_cons.mpr ⟨fun _ h => (nomatch h), .nil⟩)
abbrev sLaw : Stmt := top 22
abbrev nLaw : List Str := ["_law_script", "_law_spot", "_law_dice_here", "_law_turn", "_law_found", "_law_far"]
theorem scLaw : FnScope nLaw ["_law_script"] (defScope sLaw) := ⟨rfl, rfl, rfl, by decide +kernel, rfl, by decide +kernel, by decide +kernel⟩
def spLaw (K : PySem.W.Frag) (T : List (Addr × Str)) : Sp := fun vs H Q _ => ∃ (a : Addr) (ns : List Int), vs = [.ref a] ∧ SqL K H a (ns.map V.int) ∧ ns.length ≤ 63 ∧ Tabs T H ∧ ∀ H', Q (.bl true) H'
theorem sql_kept {K : PySem.W.Frag} {H H1 H2 : Hp} {a d : Addr} {xs : List V} (h : SqL K H a xs) (nd : H d = none) (s : Same H H1) (n : KpD d H1 H2) : SqL K H2 a xs := by
  rcases h with (h | ⟨o, h⟩) | h
  · exact .inl (.inl (n _ _ (ne_of_none h nd) (s _ _ h) fun ps z => by cases z))
  · exact .inl (.inr ⟨o, n _ _ (ne_of_none h nd) (s _ _ h) fun ps z => by cases z⟩)
  · exact .inr h
section
variable {P : Program} {w : World} {K : PySem.W.Frag} {mg : Str → Option Value} {base : Heap}
theorem ok_law {D : Ad} {T : List (Addr × Str)} {f fDi fRi g c PT : Addr} {fd fdDi fdRi fdF : FuncData} {k kI : Nat} (F : FunC K "law" "law" sLaw f fd c) (G : Lg P w K mg base k kI D) (FL : Flt K mg D.CI D.CO D.CU g fdF) (TB : TabB base mg c PT) (hT : (PT, (("law" : Str) ++ ".<locals>.") ++ "<lambda>") ∈ T) (hU : ∀ p ∈ T, p.1 = PT → p.2 = (("law" : Str) ++ ".<locals>.") ++ "<lambda>")
    (GDi : FnOk P w K mg base CX0 (k + 3) fDi fdDi ["_law_script", "_law_spot"] (spDice K)) (bDi : Binds K fdDi ["_law_script", "_law_spot"] []) (gDi : mg "_law_dice" = some (.ref fDi)) (kDi : PySem.W.keepIn K (.ref fDi) = true)
    (GRi : FnG P w K mg base CX0 (k + 3) fRi fdRi ["_law_dice_here"] (spRight T)) (bRi : Binds K fdRi ["_law_dice_here"] []) (gRi : mg "_law_right" = some (.ref fRi)) (kRi : PySem.W.keepIn K (.ref fRi) = true)
    (mRg : mg "range" = none) (mMx : mg "max" = none) (mMn : mg "min" = none) (mLe : mg "len" = none) : FnG P w K mg base CX0 (k + 4) f fd ["_law_script"] (spLaw K T) := by
  refine F.okG scLaw (fun vs H Q E h => ?_) (fun A outer s H vs Q E hgu hr h => ?_)
  · obtain ⟨a, ns, rfl, _⟩ := h
    rfl
  · obtain ⟨a, ns, rfl, hS, hl, tb, q⟩ := h
    have gu : (A.deeper (envOfC "law" (defScope sLaw) s.heap.objs.size f (.ref c))).guards = some [] := hgu
    have hu : (A.deeper (envOfC "law" (defScope sLaw) s.heap.objs.size f (.ref c))).units + 64 < cLine := by have := hr.un; omega
    have hrl : Room (k + 2) (A.deeper (envOfC "law" (defScope sLaw) s.heap.objs.size f (.ref c))) := hr.mono (by omega)
    refine ⟨_, (pss_cons (ps_for PassesOwn.never rfl (pi_range1 rfl mRg (pa_cons (pe_callB (call_max2 rfl) (by rfl) mMx (by decide +kernel) (pa_cons pe_int (pa_cons (pe_callB (call_min2 rfl) (by rfl) mMn (by decide +kernel) (pa_cons pe_int (pa_cons (pe_callB call_len_seq (by rfl) mLe PySem.boot_len (pa_cons (pv 0) pa_nil)) pa_nil))) pa_nil))) pa_nil)) (pg_name (i := 1) scLaw.nd rfl (Or.inl rfl)) (pss_cons (ps_set (i := 2) scLaw.nd rfl (.inl rfl) (pe_call GDi hr (by rfl) gDi kDi bDi .nil pass0 (pa_cons (pv 0) (pa_cons (pv 1) pa_nil)))) (pss_one (ps_for PassesOwn.never rfl (pi_range1 rfl mRg (pa_cons pe_int pa_nil)) (pg_name (i := 3) scLaw.nd rfl (Or.inl rfl)) (pss_one (ps_if (pt_not (pt_val (pe_callG GRi gu hr (by rfl) gRi kRi bRi pass0 (pa_cons (pv 2) pa_nil)))) (pss_one (ps_ret pe_bl)) pss_nil))))))
      (pss_cons (ps_set (i := 5) scLaw.nd rfl (.inr rfl) (pe_makeAK (E := E0) G.Mm G.GI (hr.mono (by have := G.hI; omega)) (by rfl) G.gLa (passes_call L2.takes0 (fun _ _ _ _ h => h)) (pa_cons pe_str pa_nil) (pk_cons (pe_tup (pa_cons pe_str pa_nil)) pk_nil)))
      (pss_cons (ps_set (i := 4) scLaw.nd rfl (.inl rfl) (pe_lst (pa_cons (pe_flt (k := k) (sc := defScope sLaw) FL TB rfl hT hU hrl (fun A' outer' s' H' E' f' c' hr' => pe_op (show OpR _ (binaryOp .BitAnd) (rBinO D.C (spTwo K D.C D.CI D.CO inBoth) E') from op_binO G.aS G.aF G.sf G.gAn hr' (passes_call (takes_of rfl rfl rfl rfl) (fun _ _ _ _ h => h))) (pv 5) (pe_makeAK G.Mm G.GI (hr'.mono G.hI) (by rfl) G.gLa (passes_call (takes_of rfl rfl rfl rfl) (fun _ _ _ _ h => h)) (pa_cons pe_str pa_nil) (pk_cons (pe_tup (pa_cons pe_str pa_nil)) pk_nil)))) pa_nil)))
      (pss_cons (ps_expr (pe_bm PySem.F.plainAttrs_list PySem.F.slot_list_append PySem.F.type_list_append mt_append (pv 4) (pa_cons (pe_flt (k := k) (sc := defScope sLaw) FL TB rfl hT hU hrl (fun A' outer' s' H' E' f' c' hr' => pe_op (show OpR _ (binaryOp .BitOr) (rBinO D.C (spTwo K D.C D.CI D.CO (· ++ ·)) E') from op_binO G.oS G.oF G.sf G.gOr hr' (passes_call (takes_of rfl rfl rfl rfl) (fun _ _ _ _ h => h))) (pv 5) (pe_makeAK G.Mm G.GI (hr'.mono G.hI) (by rfl) G.gLa (passes_call (takes_of rfl rfl rfl rfl) (fun _ _ _ _ h => h)) (pa_cons pe_str pa_nil) (pk_cons (pe_tup (pa_cons pe_str pa_nil)) pk_nil)))) pa_nil)))
      (pss_cons (ps_expr (pe_bm PySem.F.plainAttrs_list PySem.F.slot_list_append PySem.F.type_list_append mt_append (pv 4) (pa_cons (pe_flt (k := k) (sc := defScope sLaw) FL TB rfl hT hU hrl (fun A' outer' s' H' E' f' c' hr' => pe_op (show OpR _ (binaryOp .BitAnd) (rBinO D.C (spTwo K D.C D.CI D.CO inBoth) E') from op_binO G.aS G.aF G.sf G.gAn hr' (passes_call (takes_of rfl rfl rfl rfl) (fun _ _ _ _ h => h))) (pv 5) (pe_makeAK G.Mm G.GI (hr'.mono G.hI) (by rfl) G.gLa (passes_call (takes_of rfl rfl rfl rfl) (fun _ _ _ _ h => h)) (pa_cons pe_str pa_nil) (pk_cons (pe_tup (pa_cons pe_str pa_nil)) pk_nil)))) pa_nil)))
      (pss_cons (ps_expr (pe_bm PySem.F.plainAttrs_list PySem.F.slot_list_append PySem.F.type_list_append mt_append (pv 4) (pa_cons (pe_flt (k := k) (sc := defScope sLaw) FL TB rfl hT hU hrl (fun A' outer' s' H' E' f' c' hr' => pe_methR (pv 5) G.L.cl G.mOu G.gOu hr' (passes_call (takes_of rfl rfl rfl rfl) (fun _ _ _ _ h => h)) (pa_cons pe_str pa_nil))) pa_nil)))
      (pss_one (ps_ret (pe_cmpR (op_eqD hu) (pv 4) (pe_lst (pa_cons pe_str (pa_cons pe_str (pa_cons pe_str (pa_cons (pe_lst (pa_cons pe_str (pa_cons pe_str pa_nil))) pa_nil))))) (nomark _)))))))))), ?_⟩
    -- the draws
    refine ⟨.ref a, rfl, a, _, rfl, .inl hS, 6, _, rfl, 1, _, rfl, ?_⟩
    obtain ⟨N, eN⟩ : ∃ N : Int, N = (if (if ((ns.map V.int).length : Int) < 6 then ((ns.map V.int).length : Int) else 6) > 1 then (if ((ns.map V.int).length : Int) < 6 then ((ns.map V.int).length : Int) else 6) else 1) := ⟨_, rfl⟩
    rw [← eN]
    have n1 : 1 ≤ N ∧ N ≤ 6 := by
      rw [eN]
      split <;> split <;> omega
    refine ⟨N, rfl, by omega, by omega, for_range (n := N.toNat) (fun i σ H' => ∃ o1 o2 o3 : Option V, σ = [some (.ref a), o1, o2, o3, none, none] ∧ SqL K H' a (ns.map V.int) ∧ Tabs T H') ⟨none, none, none, rfl, hS, tb⟩ ?_ ?_⟩
    · rintro i σ H1 hi ⟨o1, o2, o3, rfl, hS1, tb1⟩
      refine ⟨.ref a, rfl, _, rfl, a, ns, _, rfl, hS1, by omega, by omega, fun d H2 s2 nd dc => ?_⟩
      refine ⟨4, rfl, by decide, by decide, for_range (n := 4) (fun j σ H' => ∃ o3 : Option V, σ = [some (.ref a), some (.int (0 + (i : Int))), some (.ref d), o3, none, none] ∧ KpD d H2 H' ∧ Dice H' d ∧ Tabs T H') ⟨_, rfl, KpD.refl d H2, dc, tb1.same s2⟩ ?_ ?_⟩
      · rintro j σ H3 hj ⟨o3, rfl, nr3, dc3, tb3⟩
        exact ⟨.ref d, rfl, d, rfl, dc3, tb3, fun H4 nr4 dc4 tb4 => ⟨true, rfl, iteF ⟨_, rfl, nr3.trans nr4, dc4, tb4⟩⟩⟩
      · rintro σ H3 ⟨o3, rfl, nr3, dc3, tb3⟩
        exact ⟨_, _, _, rfl, sql_kept hS1 nd s2 nr3, tb3⟩
    rintro σ H1 ⟨o1, o2, o3, rfl, hS1, tb1⟩
    clear hS1 hS eN n1 tb
    -- far
    refine ⟨by show 1 ≤ sizeLine; decide, fun t1 m1 => ?_⟩
    have e2 : (upd H1 t1 (.tup [.str "y"])) t1 = some (.tup [.str "y"]) := upd_same
    have s2 : Same H1 (upd H1 t1 (.tup [.str "y"])) := same_new m1
    generalize upd H1 t1 (.tup [.str "y"]) = H2 at *
    refine ⟨rfl, fun x dx nx ndx nxd => ⟨H2, x, dx, _, _, rfl, rfl, rfl, nx, ndx, nxd, makes_names (ms := ["x"]) (ks := ["y"]) (tup_of e2) (by decide +kernel) (by decide +kernel) (by decide) (by decide) (ok_small (by decide) (by decide) (by decide) (by decide +kernel)) ?_⟩⟩
    intro H3 s3 la0
    refine ⟨rfl, ?_⟩
    have la : LangAt D.C H3 x (canon ["x"]) (canon ["y"]) := la0
    rw [cOne, cOne] at la
    have tb : Tabs T H3 := tb1.same (s2.trans s3)
    clear la0 nx ndx nxd m1 s2 e2 s3 tb1
    have nX : Nms ["x"] := by unfold Nms; decide +kernel
    have nY : Nms ["y"] := by unfold Nms; decide +kernel
    refine ⟨tb, fun G ex tg => ?_⟩
    have kG := ex.kept
    refine ⟨.ref x, rfl, by show 1 ≤ sizeLine; decide, fun t1 m1 => ?_⟩
    have e2 : (upd G t1 (.tup [.str "x"])) t1 = some (.tup [.str "x"]) := upd_same
    have s2 : Same G (upd G t1 (.tup [.str "x"])) := same_new m1
    generalize upd G t1 (.tup [.str "x"]) = G2 at *
    refine ⟨rfl, fun y dy ny ndy nyd => ⟨G2, y, dy, _, _, rfl, rfl, rfl, ny, ndy, nyd, makes_names (ms := ["y"]) (ks := ["x"]) (tup_of e2) (by decide +kernel) (by decide +kernel) (by decide) (by decide) (ok_small (by decide) (by decide) (by decide) (by decide +kernel)) ?_⟩⟩
    intro G3 s3 la'
    refine ⟨rfl, ?_⟩
    have lay : LangAt D.C G3 y (canon ["y"]) (canon ["x"]) := la'
    rw [cOne, cOne] at lay
    clear la' ny ndy nyd
    have lax := la.kept (kG.trans (s2.trans s3).kept)
    obtain ⟨dx, fs, _, _, gx, -, -, -, -, -⟩ := id lax
    obtain ⟨dy', fy, _, _, gy, -, -, -, -, -⟩ := id lay
    refine ⟨x, dx, fs, y, dy', fy, rfl, rfl, gx, gy, x, .ref y, _, _, rfl, lax, nX, nY, by decide, by decide, .inr ⟨y, _, _, rfl, lay, by unfold Nms; decide +kernel, by unfold Nms; decide +kernel, by decide, by decide, fun c => ?_, fun _ H' s' => .inl ⟨rfl, PhN.new ex tg (s2.trans (s3.trans s')) (by show 1 ≤ sizeLine; decide) fun l H4 ph => ?_⟩⟩⟩
    · rw [show inBoth (["y"] : List Str) ["x"] = [] by decide +kernel, no_kinds] at c
      cases c
    clear ex tg kG m1 s2 e2 s3 lay lax gx gy s'
    refine ⟨.ref l, rfl, .inl ⟨rfl, _, lst_of ph.el⟩, ph.tb, fun G ex tg => ?_⟩
    have kG := ph.kp.kept.trans ex.kept
    refine ⟨.ref x, rfl, by show 1 ≤ sizeLine; decide, fun t1 m1 => ?_⟩
    have e2 : (upd G t1 (.tup [.str "x"])) t1 = some (.tup [.str "x"]) := upd_same
    have s2 : Same G (upd G t1 (.tup [.str "x"])) := same_new m1
    generalize upd G t1 (.tup [.str "x"]) = G2 at *
    refine ⟨rfl, fun y dy ny ndy nyd => ⟨G2, y, dy, _, _, rfl, rfl, rfl, ny, ndy, nyd, makes_names (ms := ["y"]) (ks := ["x"]) (tup_of e2) (by decide +kernel) (by decide +kernel) (by decide) (by decide) (ok_small (by decide) (by decide) (by decide) (by decide +kernel)) ?_⟩⟩
    intro G3 s3 la'
    refine ⟨rfl, ?_⟩
    have lay : LangAt D.C G3 y (canon ["y"]) (canon ["x"]) := la'
    rw [cOne, cOne] at lay
    clear la' ny ndy nyd
    have lax := la.kept (kG.trans (s2.trans s3).kept)
    obtain ⟨dx, fs, _, _, gx, -, -, -, -, -⟩ := id lax
    obtain ⟨dy', fy, _, _, gy, -, -, -, -, -⟩ := id lay
    refine ⟨x, dx, fs, y, dy', fy, rfl, rfl, gx, gy, x, .ref y, _, _, rfl, lax, nX, nY, by decide, by decide, .inr ⟨y, _, _, rfl, lay, by unfold Nms; decide +kernel, by unfold Nms; decide +kernel, by decide, by decide, fun c => ?_, fun _ H' s' => .inl ⟨rfl, ph.app ex tg (s2.trans (s3.trans s')) (by decide) fun H4 ph' _ => ?_⟩⟩⟩
    · rw [no_lang (ms := (["x"] : List Str) ++ (["y"] : List Str)) (ks := (["y"] : List Str) ++ (["x"] : List Str)) (z := "x") (by decide +kernel) (by decide +kernel)] at c
      cases c
    clear ex tg kG m1 s2 e2 s3 lay lax gx gy s'
    clear ph
    have ph := ph'
    clear ph'
    refine ⟨.ref l, rfl, .inl ⟨rfl, _, lst_of ph.el⟩, ph.tb, fun G ex tg => ?_⟩
    have kG := ph.kp.kept.trans ex.kept
    refine ⟨.ref x, rfl, by show 1 ≤ sizeLine; decide, fun t1 m1 => ?_⟩
    have e2 : (upd G t1 (.tup [.str "z"])) t1 = some (.tup [.str "z"]) := upd_same
    have s2 : Same G (upd G t1 (.tup [.str "z"])) := same_new m1
    generalize upd G t1 (.tup [.str "z"]) = G2 at *
    refine ⟨rfl, fun y dy ny ndy nyd => ⟨G2, y, dy, _, _, rfl, rfl, rfl, ny, ndy, nyd, makes_names (ms := ["x"]) (ks := ["z"]) (tup_of e2) (by decide +kernel) (by decide +kernel) (by decide) (by decide) (ok_small (by decide) (by decide) (by decide) (by decide +kernel)) ?_⟩⟩
    intro G3 s3 la'
    refine ⟨rfl, ?_⟩
    have lay : LangAt D.C G3 y (canon ["x"]) (canon ["z"]) := la'
    rw [cOne, cOne] at lay
    clear la' ny ndy nyd
    have lax := la.kept (kG.trans (s2.trans s3).kept)
    obtain ⟨dx, fs, _, _, gx, -, -, -, -, -⟩ := id lax
    obtain ⟨dy', fy, _, _, gy, -, -, -, -, -⟩ := id lay
    refine ⟨x, dx, fs, y, dy', fy, rfl, rfl, gx, gy, x, .ref y, _, _, rfl, lax, nX, nY, by decide, by decide, .inr ⟨y, _, _, rfl, lay, by unfold Nms; decide +kernel, by unfold Nms; decide +kernel, by decide, by decide, fun c => ?_, fun _ H' s' => .inl ⟨rfl, ph.app ex tg (s2.trans (s3.trans s')) (by decide) fun H4 ph' _ => ?_⟩⟩⟩
    · rw [show inBoth (["y"] : List Str) ["z"] = [] by decide +kernel, no_kinds] at c
      cases c
    clear ex tg kG m1 s2 e2 s3 lay lax gx gy s'
    clear ph
    have ph := ph'
    clear ph'
    refine ⟨.ref l, rfl, .inl ⟨rfl, _, lst_of ph.el⟩, ph.tb, fun G ex tg => ?_⟩
    have kG := ph.kp.kept.trans ex.kept
    obtain ⟨dx, fs, pm, pk, h1, h2, h3, h4, h5, h6⟩ := la.kept kG
    refine ⟨.ref x, rfl, x, dx, fs, rfl, h1, look_none h6 (by decide +kernel), ⟨[.ref x], [.str "nothing"], rfl, rfl, by show 1 ≤ sizeLine; decide, fun p np => ?_⟩⟩
    clear h1 h2 h3 h4 h5 h6
    have e2 : (upd G p (.tup [.str "nothing"])) p = some (.tup [.str "nothing"]) := upd_same
    have s2 : Same G (upd G p (.tup [.str "nothing"])) := same_new np
    generalize upd G p (.tup [.str "nothing"]) = G2 at *
    refine ⟨x, p, _, _, _, rfl, tup_of e2, la.kept (kG.trans s2.kept), nX, nY, by decide, by decide, by show 1 ≤ 20; decide, ?_, .inr ⟨0, .str "nothing", rfl, by unfold Unk; decide +kernel, fun j y hj => absurd hj (Nat.not_lt_zero _), fun dd ndd => .inr (.inr ⟨rfl, dd, .str "nothing", rfl, upd_same, fun l1 nl1 => ?_⟩)⟩⟩
    · simp only [List.forall_mem_cons]
      exact ⟨.inl rfl, fun v hv => by cases hv⟩
    have e3 : (upd G2 dd (.xd [(("name" : Str), .str "nothing")])) dd = some (.xd [(("name" : Str), .str "nothing")]) := upd_same
    have s3 : Same G2 (upd G2 dd (.xd [(("name" : Str), .str "nothing")])) := same_new ndd
    generalize upd G2 dd (.xd [(("name" : Str), .str "nothing")]) = G3 at *
    have el3 := s3 _ _ (s2 _ _ (ex _ _ ph.el fun ps z => by cases z))
    have nel : l1 ≠ l := (ne_of_none el3 nl1).symm
    have e5 : (upd G3 l1 (.lst [.str "name", .str "nothing"])) l1 = some (.lst [.str "name", .str "nothing"]) := upd_same
    have s5 : Same G3 (upd G3 l1 (.lst [.str "name", .str "nothing"])) := same_new nl1
    generalize upd G3 l1 (.lst [.str "name", .str "nothing"]) = G5 at *
    refine ph.app ex tg (s2.trans (s3.trans s5)) (by decide) fun H4 ph' kb => ?_
    have b1 := kb _ _ nel e5
    clear ex tg np s2 e2 ndd nl1 s3 e3 s5 kG el3 e5 ph kb
    have ph := ph'
    clear ph'
    refine ⟨.ref l, rfl, by show 2 ≤ sizeLine; decide, fun l5 n5 => ?_⟩
    have e5 : (upd H4 l5 (.lst [.str "name", .str "nothing"])) l5 = some (.lst [.str "name", .str "nothing"]) := upd_same
    have s5 : Same H4 (upd H4 l5 (.lst [.str "name", .str "nothing"])) := same_new n5
    generalize upd H4 l5 (.lst [.str "name", .str "nothing"]) = H5 at *
    refine ⟨by show 4 ≤ sizeLine; decide, fun l6 n6 => ?_⟩
    have e6 : (upd H5 l6 (.lst [.str "language", .str "language", .str "language", .ref l5])) l6 = some (.lst [.str "language", .str "language", .str "language", .ref l5]) := upd_same
    have s6 : Same H5 (upd H5 l6 (.lst [.str "language", .str "language", .str "language", .ref l5])) := same_new n6
    generalize upd H5 l6 (.lst [.str "language", .str "language", .str "language", .ref l5]) = H6 at *
    have inn : ∀ {b : Addr}, H6 b = some (.lst [.str "name", .str "nothing"]) → Dp K H6 (.ref b) (.list (dS ["name", "nothing"])) := fun h => dp_list (zs := ["name", "nothing"]) (lst_of h)
    have all : ∀ {b b' : Addr}, H6 b = some (.lst [.str "language", .str "language", .str "language", .ref b']) → H6 b' = some (.lst [.str "name", .str "nothing"]) → Dp K H6 (.ref b) (.list [.str "language", .str "language", .str "language", .list (dS ["name", "nothing"])]) := fun h h' => .lst (lst_of h) (.cons (.str _) (.cons (.str _) (.cons (.str _) (.cons (inn h') .nil))))
    refine ⟨_, _, all (s6 _ _ (s5 _ _ ph.el)) (s6 _ _ (s5 _ _ b1)), all e6 (s6 _ _ e5), by decide +kernel, by decide +kernel, ?_⟩
    rw [show PyData.eqv (.list [.str "language", .str "language", .str "language", .list (dS ["name", "nothing"])]) (.list [.str "language", .str "language", .str "language", .list (dS ["name", "nothing"])]) = true by decide +kernel]
    exact q _
end
end Tf

/-! the built-in types beside | and & -/
namespace Tf
open PySem PySem.Spec PyProof.Rows L2
theorem fl_or_NoneType : ∃ r, fillsNumberSlot (.type "NoneType") Operator.BitOr.info.2 = pure r := by
  unfold fillsNumberSlot
  exact ⟨_, rfl⟩
theorem lr_or_NoneType : ∃ o, typeLookup (.type "NoneType") (PySem.dunderR Operator.BitOr.info.2) = pure o := by
  rw [typeLookup_type, builtinLookup_eq_fast]
  exact ⟨_, rfl⟩
theorem fl_or_bool : ∃ r, fillsNumberSlot (.type "bool") Operator.BitOr.info.2 = pure r := by
  unfold fillsNumberSlot
  exact ⟨_, rfl⟩
theorem lr_or_bool : ∃ o, typeLookup (.type "bool") (PySem.dunderR Operator.BitOr.info.2) = pure o := by
  rw [typeLookup_type, builtinLookup_eq_fast]
  exact ⟨_, rfl⟩
theorem fl_or_int : ∃ r, fillsNumberSlot (.type "int") Operator.BitOr.info.2 = pure r := by
  unfold fillsNumberSlot
  exact ⟨_, rfl⟩
theorem lr_or_int : ∃ o, typeLookup (.type "int") (PySem.dunderR Operator.BitOr.info.2) = pure o := by
  rw [typeLookup_type, builtinLookup_eq_fast]
  exact ⟨_, rfl⟩
theorem fl_or_str : ∃ r, fillsNumberSlot (.type "str") Operator.BitOr.info.2 = pure r := by
  unfold fillsNumberSlot
  exact ⟨_, rfl⟩
theorem lr_or_str : ∃ o, typeLookup (.type "str") (PySem.dunderR Operator.BitOr.info.2) = pure o := by
  rw [typeLookup_type, builtinLookup_eq_fast]
  exact ⟨_, rfl⟩
theorem fl_or_list : ∃ r, fillsNumberSlot (.type "list") Operator.BitOr.info.2 = pure r := by
  unfold fillsNumberSlot
  exact ⟨_, rfl⟩
theorem lr_or_list : ∃ o, typeLookup (.type "list") (PySem.dunderR Operator.BitOr.info.2) = pure o := by
  rw [typeLookup_type, builtinLookup_eq_fast]
  exact ⟨_, rfl⟩
theorem fl_or_tuple : ∃ r, fillsNumberSlot (.type "tuple") Operator.BitOr.info.2 = pure r := by
  unfold fillsNumberSlot
  exact ⟨_, rfl⟩
theorem lr_or_tuple : ∃ o, typeLookup (.type "tuple") (PySem.dunderR Operator.BitOr.info.2) = pure o := by
  rw [typeLookup_type, builtinLookup_eq_fast]
  exact ⟨_, rfl⟩
theorem fl_or_dict : ∃ r, fillsNumberSlot (.type "dict") Operator.BitOr.info.2 = pure r := by
  unfold fillsNumberSlot
  exact ⟨_, rfl⟩
theorem lr_or_dict : ∃ o, typeLookup (.type "dict") (PySem.dunderR Operator.BitOr.info.2) = pure o := by
  rw [typeLookup_type, builtinLookup_eq_fast]
  exact ⟨_, rfl⟩
theorem fl_and_NoneType : ∃ r, fillsNumberSlot (.type "NoneType") Operator.BitAnd.info.2 = pure r := by
  unfold fillsNumberSlot
  exact ⟨_, rfl⟩
theorem lr_and_NoneType : ∃ o, typeLookup (.type "NoneType") (PySem.dunderR Operator.BitAnd.info.2) = pure o := by
  rw [typeLookup_type, builtinLookup_eq_fast]
  exact ⟨_, rfl⟩
theorem fl_and_bool : ∃ r, fillsNumberSlot (.type "bool") Operator.BitAnd.info.2 = pure r := by
  unfold fillsNumberSlot
  exact ⟨_, rfl⟩
theorem lr_and_bool : ∃ o, typeLookup (.type "bool") (PySem.dunderR Operator.BitAnd.info.2) = pure o := by
  rw [typeLookup_type, builtinLookup_eq_fast]
  exact ⟨_, rfl⟩
theorem fl_and_int : ∃ r, fillsNumberSlot (.type "int") Operator.BitAnd.info.2 = pure r := by
  unfold fillsNumberSlot
  exact ⟨_, rfl⟩
theorem lr_and_int : ∃ o, typeLookup (.type "int") (PySem.dunderR Operator.BitAnd.info.2) = pure o := by
  rw [typeLookup_type, builtinLookup_eq_fast]
  exact ⟨_, rfl⟩
theorem fl_and_str : ∃ r, fillsNumberSlot (.type "str") Operator.BitAnd.info.2 = pure r := by
  unfold fillsNumberSlot
  exact ⟨_, rfl⟩
theorem lr_and_str : ∃ o, typeLookup (.type "str") (PySem.dunderR Operator.BitAnd.info.2) = pure o := by
  rw [typeLookup_type, builtinLookup_eq_fast]
  exact ⟨_, rfl⟩
theorem fl_and_list : ∃ r, fillsNumberSlot (.type "list") Operator.BitAnd.info.2 = pure r := by
  unfold fillsNumberSlot
  exact ⟨_, rfl⟩
theorem lr_and_list : ∃ o, typeLookup (.type "list") (PySem.dunderR Operator.BitAnd.info.2) = pure o := by
  rw [typeLookup_type, builtinLookup_eq_fast]
  exact ⟨_, rfl⟩
theorem fl_and_tuple : ∃ r, fillsNumberSlot (.type "tuple") Operator.BitAnd.info.2 = pure r := by
  unfold fillsNumberSlot
  exact ⟨_, rfl⟩
theorem lr_and_tuple : ∃ o, typeLookup (.type "tuple") (PySem.dunderR Operator.BitAnd.info.2) = pure o := by
  rw [typeLookup_type, builtinLookup_eq_fast]
  exact ⟨_, rfl⟩
theorem fl_and_dict : ∃ r, fillsNumberSlot (.type "dict") Operator.BitAnd.info.2 = pure r := by
  unfold fillsNumberSlot
  exact ⟨_, rfl⟩
theorem lr_and_dict : ∃ o, typeLookup (.type "dict") (PySem.dunderR Operator.BitAnd.info.2) = pure o := by
  rw [typeLookup_type, builtinLookup_eq_fast]
  exact ⟨_, rfl⟩
end Tf

/-! the end: what the written part tells -/
namespace Tf
open PySem PySem.Spec PyProof.Rows L2 ClX LamX TfG
theorem kit_ref {K : PySem.W.Frag} {t : Value} {C : Addr} {b : Bool} (hc : PySem.W.isClsIn K C = true) (ht : PySem.W.typeIn K (.ref C) = some (.type "type")) (hne : (t == Value.ref C) = false) (h : PySem.W.subIn K t (.ref C) = some b) : PySem.W.kitOne K t (.ref C) = some b := by
  have e2 : ((PySem.W.clsIn K C).isSome && PySem.W.typeIn K (.ref C) == some (.type "type")) = true := by
    have h2' : (PySem.W.clsIn K C).isSome = true := hc
    rw [h2', ht] <;> rfl
  unfold PySem.W.kitOne PySem.W.kitCls
  rw [hne, if_neg Bool.false_ne_true]
  show (if ((PySem.W.clsIn K C).isSome && PySem.W.typeIn K (.ref C) == some (.type "type")) = true then PySem.W.subIn K t (.ref C) else none) = some b
  rw [if_pos e2]
  exact h
theorem kit_refT {K : PySem.W.Frag} {t : Value} {C : Addr} (hc : PySem.W.isClsIn K C = true) (ht : PySem.W.typeIn K (.ref C) = some (.type "type")) (h : PySem.W.subIn K t (.ref C) = some true) : PySem.W.kitOne K t (.ref C) = some true := by
  cases e : (t == Value.ref C) with
  | false => exact kit_ref hc ht e h
  | true =>
    unfold PySem.W.kitOne
    rw [e, if_pos rfl]
theorem kit_refB {K : PySem.W.Frag} {C : Addr} {T : String} {b : Bool} (hm : PySem.W.kitMeta T = true) (h : PySem.W.subIn K (.ref C) (.type T) = some b) : PySem.W.kitOne K (.ref C) (.type T) = some b := by
  have e : (Value.ref C == Value.type T) = false := beq_eq_false_iff_ne.mpr (fun z => by cases z)
  unfold PySem.W.kitOne PySem.W.kitCls
  rw [e, if_neg Bool.false_ne_true]
  show (if PySem.W.kitMeta T = true then PySem.W.subIn K (.ref C) (.type T) else none) = some b
  rw [if_pos hm]
  exact h
theorem ty_ne (t : String) (C : Addr) : (Value.type t == Value.ref C) = false := beq_eq_false_iff_ne.mpr (fun z => by cases z)
theorem sup_in {K : PySem.W.Frag} {CI CT : Addr} {nm q : Str} {N : Addr} {bs : List Value} {sn : List Str} {sub : List Value} {ab : Bool} {col : Option Bool} {dd : Option Addr} {m0 m1 m2 m3 m5 : Option Value}
    (l : K.lookup CI = some (excClassObj nm q CI N bs (.ref CT :: veBm) true sn sub ab col dd m0 m1 m2 m3 m5 "ValueError.__new__")) (ne : CI ≠ CT) : PySem.W.ks_superIn K CI CT "__init__" = some (some (.builtin "ValueError.__init__")) := by
  unfold PySem.W.ks_superIn PySem.W.clsIn
  rw [l]
  show PySem.W.alongIn K "__init__" (((Value.ref CI :: Value.ref CT :: veBm).dropWhile (· != .ref CT)).drop 1) = _
  have e1 : (Value.ref CI != Value.ref CT) = true := bne_iff_ne.mpr (fun z => ne (Value.ref.inj z))
  have e2 : (Value.ref CT != Value.ref CT) = false := bne_self_eq_false _
  rw [List.dropWhile_cons_of_pos (by exact e1), List.dropWhile_cons_of_neg (by rw [e2]; exact Bool.false_ne_true)]
  show PySem.W.alongIn K "__init__" veBm = _
  have e3 : PySem.fastBuiltinOwn "ValueError" "__init__" = some (.builtin "ValueError.__init__") := by decide +kernel
  have e4 : PySem.W.ownIn K "__init__" (.type "ValueError") = some (some (.builtin "ValueError.__init__")) := congrArg some e3
  show PySem.W.alongIn K "__init__" (.type "ValueError" :: [.type "Exception", .type "BaseException", .type "object"]) = _
  unfold PySem.W.alongIn
  rw [e4]
theorem line_tree {CI CT : Addr} : PySem.TfKE.LineOk "ValueError" (Value.ref CI :: Value.ref CT :: veBm) := by
  refine ⟨?_, ?_, ?_⟩ <;> rw [List.contains_cons, ty_ne, List.contains_cons, ty_ne] <;> decide +kernel
theorem line_key {CU : Addr} : PySem.TfKE.LineOk "LookupError" (Value.ref CU :: PySem.TfKE.keBm) := by
  refine ⟨?_, ?_, ?_⟩ <;> rw [List.contains_cons, ty_ne] <;> decide +kernel
theorem sup_key {K : PySem.W.Frag} {CU : Addr} {nm q : Str} {N : Addr} {bs : List Value} {sn : List Str} {sub : List Value} {ab : Bool} {col : Option Bool} {dd : Option Addr} {m0 m1 m2 m3 m5 : Option Value}
    (l : K.lookup CU = some (excClassObj nm q CU N bs PySem.TfKE.keBm true sn sub ab col dd m0 m1 m2 m3 m5 "LookupError.__new__")) : PySem.W.ks_superIn K CU CU "__init__" = some (some (.builtin "KeyError.__init__")) := by
  unfold PySem.W.ks_superIn PySem.W.clsIn
  rw [l]
  show PySem.W.alongIn K "__init__" (((Value.ref CU :: PySem.TfKE.keBm).dropWhile (· != .ref CU)).drop 1) = _
  have e2 : (Value.ref CU != Value.ref CU) = false := bne_self_eq_false _
  rw [List.dropWhile_cons_of_neg (by rw [e2]; exact Bool.false_ne_true)]
  have e3 : PySem.fastBuiltinOwn "KeyError" "__init__" = some (.builtin "KeyError.__init__") := by decide +kernel
  have e4 : PySem.W.ownIn K "__init__" (.type "KeyError") = some (some (.builtin "KeyError.__init__")) := congrArg some e3
  show PySem.W.alongIn K "__init__" (.type "KeyError" :: [.type "LookupError", .type "Exception", .type "BaseException", .type "object"]) = _
  unfold PySem.W.alongIn
  rw [e4]
theorem fld_key {K : PySem.W.Frag} {CU : Addr} {f : Str} {nm q : Str} {N : Addr} {bs : List Value} {sn : List Str} {sub : List Value} {ab : Bool} {col : Option Bool} {dd : Option Addr} {m0 m1 m2 m3 m5 : Option Value}
    (l : K.lookup CU = some (excClassObj nm q CU N bs PySem.TfKE.keBm true sn sub ab col dd m0 m1 m2 m3 m5 "LookupError.__new__")) (h1 : PySem.W.findIn K (.ref CU) "__setattr__" = some (some (.builtin "object.__setattr__"))) (h2 : PySem.W.findIn K (.ref CU) f = some none) (h3 : PySem.W.mroIn K CU (.type "object") = some true) : PySem.TfSF.FldTxt K CU f := by
  refine ⟨h1, h2, h3, ?_⟩
  unfold PySem.W.clsIn
  rw [l]
  exact ⟨_, PySem.TfKE.keBm, rfl, rfl, PySem.TfKE.passes, rfl⟩
theorem exm_two {K : PySem.W.Frag} {S S' : Addr} {b : Bool} (h1 : PySem.W.subIn K (.ref S') (.type "BaseException") = some true) (h2 : PySem.W.isClsIn K S' = true) (h3 : PySem.W.typeIn K (.ref S') = some (.type "type")) (h4 : PySem.W.subIn K (.ref S) (.ref S') = some b) : PySem.W.exmOne K (.ref S) (.ref S') = some b := by
  have e1 : (PySem.W.subIn K (.ref S') (.type "BaseException") == some true) = true := by rw [h1] <;> rfl
  have e2 : ((PySem.W.clsIn K S').isSome && PySem.W.typeIn K (.ref S') == some (.type "type")) = true := by
    have h2' : (PySem.W.clsIn K S').isSome = true := h2
    rw [h2', h3] <;> rfl
  unfold PySem.W.exmOne
  rw [if_pos e1]
  show (if ((PySem.W.clsIn K S').isSome && PySem.W.typeIn K (.ref S') == some (.type "type")) = true then PySem.W.subIn K (.ref S) (.ref S') else none) = some b
  rw [if_pos e2]
  exact h4
theorem rawN {P : Program} {w : World} {K : PySem.W.Frag} {mg : Str → Option Value} {base : Heap} {CX : CXT} {k : Nat} {f : Addr} {fd : FuncData} {ps : List Str} {sp : Sp} (F : FnOk P w K mg base CX k f fd ps sp) (hb : Binds K fd ps []) : FnR P w K mg base CX k f sp :=
  (F.raw hb .nil).imp fun vs H Q E h => by
    rw [List.append_nil]
    exact h
theorem all_mk {P : Program} {w : World} {K : PySem.W.Frag} {h : Heap} {mg : Str → Option Value} {fa : Addr} (X : K.In h) (G : h.Ns mainGlobals mg) (hfa : mg "law" = some (.ref fa)) {l : PySem.W.OpenLaw} (hP : l.prog = P)
    {rec : Str → Prop} (tab : ∀ (x : Str) (c P : Addr), rec x → PySem.W.tabIn K x = some (c, P) → PySem.W.CodeHd h c P ∧ h.get? P = some { cls := .none, data := .fields #[] }) (rc1 : rec "_law_right") (rc2 : rec "law")
    {C CT pOf pMk : Addr}
    {t8 t4 t9 ts : Tok} {rOf rMk : List Value} {cdT : ClassData}
    {CI : Addr} {nmI qI : Str} {NI : Addr} {bsI : List Value} {snI : List Str} {subI : List Value} {abI : Bool} {colI : Option Bool} {ddI : Option Addr} {m0I m1I m2I m3I m5I : Option Value}
    {fI ccI cdaI : Addr} {ocI dcI pmI ctI cclI clI : Value} {odI anI cddI cldI : Option Addr} {slI ccsI cslI : Array (Option Value)} {vsI : Array Value} {p1I p2I q1I q2I q3I q4I q5I q6I : Pos} {fileI : Str} {tfI : Tok}
    {CO : Addr} {nmO qO : Str} {NO : Addr} {bsO : List Value} {snO : List Str} {subO : List Value} {abO : Bool} {colO : Option Bool} {ddO : Option Addr} {m0O m1O m2O m3O m5O : Option Value}
    {fO ccO cdaO : Addr} {ocO dcO pmO ctO cclO clO : Value} {odO anO cddO cldO : Option Addr} {slO ccsO cslO : Array (Option Value)} {vsO : Array Value} {p1O p2O q1O q2O q3O q4O q5O q6O : Pos} {fileO : Str} {tfO : Tok}
    {r1 r2 r3 r4 : Pos} {cdU : ClassData}
    {CU : Addr} {nmU qU : Str} {NU : Addr} {bsU : List Value} {snU : List Str} {subU : List Value} {abU : Bool} {colU : Option Bool} {ddU : Option Addr} {m0U m1U m2U m3U m5U : Option Value}
    {fU ccU cdaU : Addr} {ocU dcU pmU ctU cclU clU : Value} {odU anU cddU cldU : Option Addr} {slU ccsU cslU : Array (Option Value)} {vsU : Array Value} {p1U p2U q1U q2U q3U q4U q5U q6U : Pos} {fileU : Str} {tfU : Tok}
    {fNa : Addr} {odNa anNa : Option Addr} {slNa : Array (Option Value)} {ocNa kVNa dcNa pmNa cdNa ctNa : Value}
    {fDf : Addr} {odDf anDf : Option Addr} {slDf : Array (Option Value)} {ocDf kVDf dcDf pmDf cdDf ctDf : Value}
    {fLi : Addr} {odLi anLi : Option Addr} {slLi : Array (Option Value)} {ocLi kVLi dcLi pmLi cdLi ctLi : Value}
    {fDi : Addr} {odDi anDi : Option Addr} {slDi : Array (Option Value)} {ocDi kVDi dcDi pmDi cdDi ctDi : Value}
    {fRo : Addr} {odRo anRo : Option Addr} {slRo : Array (Option Value)} {ocRo kVRo dcRo pmRo cdRo ctRo : Value}
    {fPi : Addr} {odPi anPi : Option Addr} {slPi : Array (Option Value)} {ocPi kVPi dcPi pmPi cdPi ctPi : Value}
    {fFa : Addr} {odFa anFa : Option Addr} {slFa : Array (Option Value)} {ocFa kVFa dcFa pmFa cdFa ctFa : Value}
    {fOd : Addr} {odOd anOd : Option Addr} {slOd : Array (Option Value)} {ocOd kVOd dcOd pmOd cdOd ctOd : Value}
    {fRi cRi PRi : Addr} {odRi anRi oeRi : Option Addr} {slRi seRi : Array (Option Value)} {ocRi kVRi dcRi pmRi ctRi veRi : Value} {vsRi : Array Value}
    {fLa cLa PLa : Addr} {odLa anLa oeLa : Option Addr} {slLa seLa : Array (Option Value)} {ocLa kVLa dcLa pmLa ctLa veLa : Value} {vsLa : Array Value}
    {fIn : Addr} {odIn anIn : Option Addr} {slIn : Array (Option Value)} {ocIn kVIn dcIn pmIn cdIn ctIn : Value}
    {fOf : Addr} {odOf anOf : Option Addr} {slOf : Array (Option Value)} {ocOf kVOf dcOf pmOf cdOf ctOf : Value}
    {fMk : Addr} {odMk anMk : Option Addr} {slMk : Array (Option Value)} {ocMk kVMk dcMk pmMk cdMk ctMk : Value}
    {fWm : Addr} {odWm anWm : Option Addr} {slWm : Array (Option Value)} {ocWm kVWm dcWm pmWm cdWm ctWm : Value}
    {fWk : Addr} {odWk anWk : Option Addr} {slWk : Array (Option Value)} {ocWk kVWk dcWk pmWk cdWk ctWk : Value}
    {fOu : Addr} {odOu anOu : Option Addr} {slOu : Array (Option Value)} {ocOu kVOu dcOu pmOu cdOu ctOu : Value}
    {fOr : Addr} {odOr anOr : Option Addr} {slOr : Array (Option Value)} {ocOr kVOr dcOr pmOr cdOr ctOr : Value}
    {fAn : Addr} {odAn anAn : Option Addr} {slAn : Array (Option Value)} {ocAn kVAn dcAn pmAn cdAn ctAn : Value}
    {fEq : Addr} {odEq anEq : Option Addr} {slEq : Array (Option Value)} {ocEq kVEq dcEq pmEq cdEq ctEq : Value}
    {fHa : Addr} {odHa anHa : Option Addr} {slHa : Array (Option Value)} {ocHa kVHa dcHa pmHa cdHa ctHa : Value}
    (aC : PySem.W.nsIn K mainGlobals "Language" = some (some (.ref C)))
    (opq : PySem.W.nsIn K cStatics "thirdparty.any" = some none)
    (tS : (P.main.scope.names.lookup ("super" : Str)).isSome = false)
    (aI : PySem.W.nsIn K mainGlobals "InvalidLanguage" = some (some (.ref CI)))
    (xI : K.lookup CI = some (excClassObj nmI qI CI NI bsI (.ref CT :: veBm) true snI subI abI colI ddI m0I m1I m2I m3I m5I "ValueError.__new__"))
    (iI : PySem.W.findIn K (.ref CI) "__init__" = some (some (.ref fI)))
    (tfI' : PySem.W.typeIn K (.ref fI) = some (.type "function"))
    (kI : PySem.W.keepIn K (.ref CI) = true)
    (bI : PySem.W.subIn K (.ref CI) (.type "BaseException") = some true)
    (tI : PySem.W.typeIn K (.ref CI) = some (.type "type"))
    (vI : PySem.W.subIn K (.ref CI) (.type "ValueError") = some true)
    (lI : K.lookup fI = some ⟨ocI, odI, .func (PySem.W.ksFn "__init__" "TreeError.__init__" (PySem.TfS.iA "message" p1I p2I) (PySem.TfS.sB "message" q1I q2I q3I q4I q5I q6I :: []) (PySem.TfS.iS "message") .none .none dcI pmI anI (.ref cdaI) ctI ccI), slI⟩)
    (cI : PySem.W.codeIn K (.ref cdaI) "TreeError.__init__" = true)
    (lcI : K.lookup cdaI = some ⟨cclI, cddI, .fields vsI, ccsI⟩)
    (lvI : vsI[2]? = some (.str fileI tfI))
    (lfI : ((P.main.file : Str) == fileI) = true)
    (lxI : K.lookup ccI = some ⟨clI, cldI, .cell (some (.ref CT)), cslI⟩)
    (evI : ∀ env : Env, ∃ pl : Sem Bool, eval (PySem.TfS.cB "message" q1I q2I q3I q4I q5I) env = (do let ov ← attributeBase (.Call (.Name "super" q1I) [] [] q2I) "__init__" env (eval (.Call (.Name "super" q1I) [] [] q2I) env); standAt q3I.atName; let (f, first) ← holding [ov] (getMethod ov "__init__" pl); callWith q5I f first (backTo q5I (starEach [.Name "message" q4I] env)) []))
    (mI : PySem.W.mroIn K CI (.ref CT) = some true)
    (icI : PySem.W.isClsIn K CI = true)
    (aO : PySem.W.nsIn K mainGlobals "InvalidOperation" = some (some (.ref CO)))
    (xO : K.lookup CO = some (excClassObj nmO qO CO NO bsO (.ref CT :: veBm) true snO subO abO colO ddO m0O m1O m2O m3O m5O "ValueError.__new__"))
    (iO : PySem.W.findIn K (.ref CO) "__init__" = some (some (.ref fO)))
    (tfO' : PySem.W.typeIn K (.ref fO) = some (.type "function"))
    (kO : PySem.W.keepIn K (.ref CO) = true)
    (bO : PySem.W.subIn K (.ref CO) (.type "BaseException") = some true)
    (tO : PySem.W.typeIn K (.ref CO) = some (.type "type"))
    (vO : PySem.W.subIn K (.ref CO) (.type "ValueError") = some true)
    (lO : K.lookup fO = some ⟨ocO, odO, .func (PySem.W.ksFn "__init__" "TreeError.__init__" (PySem.TfS.iA "message" p1O p2O) (PySem.TfS.sB "message" q1O q2O q3O q4O q5O q6O :: []) (PySem.TfS.iS "message") .none .none dcO pmO anO (.ref cdaO) ctO ccO), slO⟩)
    (cO : PySem.W.codeIn K (.ref cdaO) "TreeError.__init__" = true)
    (lcO : K.lookup cdaO = some ⟨cclO, cddO, .fields vsO, ccsO⟩)
    (lvO : vsO[2]? = some (.str fileO tfO))
    (lfO : ((P.main.file : Str) == fileO) = true)
    (lxO : K.lookup ccO = some ⟨clO, cldO, .cell (some (.ref CT)), cslO⟩)
    (evO : ∀ env : Env, ∃ pl : Sem Bool, eval (PySem.TfS.cB "message" q1O q2O q3O q4O q5O) env = (do let ov ← attributeBase (.Call (.Name "super" q1O) [] [] q2O) "__init__" env (eval (.Call (.Name "super" q1O) [] [] q2O) env); standAt q3O.atName; let (f, first) ← holding [ov] (getMethod ov "__init__" pl); callWith q5O f first (backTo q5O (starEach [.Name "message" q4O] env)) []))
    (mO : PySem.W.mroIn K CO (.ref CT) = some true)
    (icO : PySem.W.isClsIn K CO = true)
    (aU : PySem.W.nsIn K mainGlobals "UnknownName" = some (some (.ref CU)))
    (xU : K.lookup CU = some (excClassObj nmU qU CU NU bsU PySem.TfKE.keBm true snU subU abU colU ddU m0U m1U m2U m3U m5U "LookupError.__new__"))
    (iU : PySem.W.findIn K (.ref CU) "__init__" = some (some (.ref fU)))
    (tfU' : PySem.W.typeIn K (.ref fU) = some (.type "function"))
    (kU : PySem.W.keepIn K (.ref CU) = true)
    (bU : PySem.W.subIn K (.ref CU) (.type "BaseException") = some true)
    (tU : PySem.W.typeIn K (.ref CU) = some (.type "type"))
    (vU : PySem.W.subIn K (.ref CU) (.type "KeyError") = some true)
    (lU : K.lookup fU = some ⟨ocU, odU, .func (PySem.W.ksFn "__init__" "UnknownName.__init__" (PySem.TfS.iA "name" p1U p2U) (PySem.TfS.sB "name" q1U q2U q3U q4U q5U q6U :: [PySem.TfSF.fB "name" "name" r1 r2 r3 r4]) (PySem.TfS.iS "name") .none .none dcU pmU anU (.ref cdaU) ctU ccU), slU⟩)
    (cU : PySem.W.codeIn K (.ref cdaU) "UnknownName.__init__" = true)
    (lcU : K.lookup cdaU = some ⟨cclU, cddU, .fields vsU, ccsU⟩)
    (lvU : vsU[2]? = some (.str fileU tfU))
    (lfU : ((P.main.file : Str) == fileU) = true)
    (lxU : K.lookup ccU = some ⟨clU, cldU, .cell (some (.ref CU)), cslU⟩)
    (evU : ∀ env : Env, ∃ pl : Sem Bool, eval (PySem.TfS.cB "name" q1U q2U q3U q4U q5U) env = (do let ov ← attributeBase (.Call (.Name "super" q1U) [] [] q2U) "__init__" env (eval (.Call (.Name "super" q1U) [] [] q2U) env); standAt q3U.atName; let (f, first) ← holding [ov] (getMethod ov "__init__" pl); callWith q5U f first (backTo q5U (starEach [.Name "name" q4U] env)) []))
    (mU : PySem.W.mroIn K CU (.ref CU) = some true)
    (icU : PySem.W.isClsIn K CU = true)
    (cT : PySem.W.clsIn K CT = some cdT)
    (neI : CI ≠ CT)
    (neO : CO ≠ CT)
    (sII : PySem.W.subIn K (.ref CI) (.ref CI) = some true)
    (sOI : PySem.W.subIn K (.ref CO) (.ref CI) = some false)
    (sOO : PySem.W.subIn K (.ref CO) (.ref CO) = some true)
    (sUI : PySem.W.subIn K (.ref CU) (.ref CI) = some false)
    (sUO : PySem.W.subIn K (.ref CU) (.ref CO) = some false)
    (sUU : PySem.W.subIn K (.ref CU) (.ref CU) = some true)
    (cU' : PySem.W.clsIn K CU = some cdU)
    (fU1 : PySem.W.findIn K (.ref CU) "__setattr__" = some (some (.builtin "object.__setattr__")))
    (fU2 : PySem.W.findIn K (.ref CU) "name" = some none)
    (fU3 : PySem.W.mroIn K CU (.type "object") = some true)
    (fU4 : PySem.W.findIn K (.ref CU) "__getattribute__" = some (some (.builtin "BaseException.__getattribute__")))
    (fU5 : PySem.W.findIn K (.ref CU) "__getattr__" = some none)
    (fU6 : PySem.W.hasDictIn K CU = true)
    (e5 : PySem.W.specialIn K (.builtin "object.__class__") "__get__" = some (some (.builtin "getset_descriptor.__get__")))
    (e6 : PySem.W.takesIn K (.builtin "object.__class__") = some true)
    (l1 : PySem.W.plainGet K C Str.empty = true)
    (l2 : PySem.W.hasDictIn K C = true)
    (l3 : PySem.W.plainOver K C = true)
    (l4 : PySem.W.findIn K (.ref C) "__setattr__" = some (some (.builtin "object.__setattr__")))
    (l5 : PySem.W.findIn K (.ref C) "own_marks" = some none)
    (l6 : PySem.W.findIn K (.ref C) "own_kinds" = some none)
    (l7 : PySem.W.makesIn K C = true)
    (l8' : PySem.W.keepIn K (.ref C) = true)
    (l9' : PySem.W.findIn K (.ref C) "__class__" = some (some (.builtin "object.__class__")))
    (la : PySem.W.mroIn K C (.type "object") = some true)
    (lb : PySem.W.subIn K (.ref C) (.type "tuple") = some false)
    (le : PySem.W.isClsIn K C = true)
    (lg : PySem.W.typeIn K (.ref C) = some (.type "type"))
    (sf : PySem.W.selfFirst K C = true)
    (s0 : PySem.W.subIn K (.type "NoneType") (.ref C) = some false)
    (n0 : PySem.W.notFirst K C (.type "NoneType") = true)
    (s1 : PySem.W.subIn K (.type "bool") (.ref C) = some false)
    (n1 : PySem.W.notFirst K C (.type "bool") = true)
    (s2 : PySem.W.subIn K (.type "int") (.ref C) = some false)
    (n2 : PySem.W.notFirst K C (.type "int") = true)
    (s3 : PySem.W.subIn K (.type "str") (.ref C) = some false)
    (n3 : PySem.W.notFirst K C (.type "str") = true)
    (s4 : PySem.W.subIn K (.type "list") (.ref C) = some false)
    (n4 : PySem.W.notFirst K C (.type "list") = true)
    (s5 : PySem.W.subIn K (.type "tuple") (.ref C) = some false)
    (n5 : PySem.W.notFirst K C (.type "tuple") = true)
    (s6 : PySem.W.subIn K (.type "dict") (.ref C) = some false)
    (n6 : PySem.W.notFirst K C (.type "dict") = true)
    (nC : PySem.W.notFirst K C (.ref C) = true)
    (r1' : PySem.W.readsIn K C (.type "type") = true)
    (r2' : PySem.W.specialIn K (.ref C) "__getattribute__" = some (some (.builtin "type.__getattribute__")))
    (r3' : PySem.W.findCls K (.ref C) (.type "type") "of" = some (.get (.builtin "classmethod.__get__") (.ref pOf) .none (.ref C)))
    (r4' : PySem.W.recIn K pOf "classmethod" = some (.ref fOf :: rOf))
    (r5' : PySem.W.fnIn K fOf = true)
    (u1Mk : PySem.W.findIn K (.ref C) "marks" = some (some (.ref pMk)))
    (u2Mk : PySem.W.specialIn K (.ref pMk) "__get__" = some (some (.builtin "property.__get__")))
    (u3Mk : PySem.W.takesIn K (.ref pMk) = some true)
    (u4Mk : PySem.W.recIn K pMk "property" = some (.ref fMk :: rMk))
    (v1In : PySem.W.findIn K (.ref C) "__init__" = some (some (.ref fIn)))
    (v2In : PySem.W.isFn K (.ref fIn) = true)
    (v1Wm : PySem.W.findIn K (.ref C) "with_marks" = some (some (.ref fWm)))
    (v2Wm : PySem.W.isFn K (.ref fWm) = true)
    (v1Wk : PySem.W.findIn K (.ref C) "with_kinds" = some (some (.ref fWk)))
    (v2Wk : PySem.W.isFn K (.ref fWk) = true)
    (v1Ou : PySem.W.findIn K (.ref C) "without" = some (some (.ref fOu)))
    (v2Ou : PySem.W.isFn K (.ref fOu) = true)
    (v1Or : PySem.W.findIn K (.ref C) "__or__" = some (some (.ref fOr)))
    (v2Or : PySem.W.isFn K (.ref fOr) = true)
    (v1An : PySem.W.findIn K (.ref C) "__and__" = some (some (.ref fAn)))
    (v2An : PySem.W.isFn K (.ref fAn) = true)
    (v1Eq : PySem.W.findIn K (.ref C) "__eq__" = some (some (.ref fEq)))
    (v2Eq : PySem.W.isFn K (.ref fEq) = true)
    (v1Ha : PySem.W.findIn K (.ref C) "__contains__" = some (some (.ref fHa)))
    (v2Ha : PySem.W.isFn K (.ref fHa) = true)
    (v3Or : PySem.W.findIn K (.ref C) "__ror__" = some none)
    (v3An : PySem.W.findIn K (.ref C) "__rand__" = some none)
    (w0Na : PySem.W.nsIn K mainGlobals "is_name" = some (some (.ref fNa)))
    (w1Na : K.lookup fNa = some ⟨ocNa, odNa, .func (PySem.W.fnOf "is_name" "is_name" (defArgs sName) (defBody sName) (defScope sName) .none kVNa dcNa pmNa anNa cdNa ctNa), slNa⟩)
    (w2Na : PySem.W.codeIn K cdNa "is_name" = true)
    (w3Na : PySem.W.keepIn K (.ref fNa) = true)
    (w0Df : PySem.W.nsIn K mainGlobals "different_names" = some (some (.ref fDf)))
    (w1Df : K.lookup fDf = some ⟨ocDf, odDf, .func (PySem.W.fnOf "different_names" "different_names" (defArgs sDiff) (defBody sDiff) (defScope sDiff) .none kVDf dcDf pmDf anDf cdDf ctDf), slDf⟩)
    (w2Df : PySem.W.codeIn K cdDf "different_names" = true)
    (w3Df : PySem.W.keepIn K (.ref fDf) = true)
    (w0Li : PySem.W.nsIn K mainGlobals "language_in" = some (some (.ref fLi)))
    (w1Li : K.lookup fLi = some ⟨ocLi, odLi, .func (PySem.W.fnOf "language_in" "language_in" (defArgs sLin) (defBody sLin) (defScope sLin) .none kVLi dcLi pmLi anLi cdLi ctLi), slLi⟩)
    (w2Li : PySem.W.codeIn K cdLi "language_in" = true)
    (w3Li : PySem.W.keepIn K (.ref fLi) = true)
    (w0Di : PySem.W.nsIn K mainGlobals "_law_dice" = some (some (.ref fDi)))
    (w1Di : K.lookup fDi = some ⟨ocDi, odDi, .func (PySem.W.fnOf "_law_dice" "_law_dice" (defArgs sDice) (defBody sDice) (defScope sDice) .none kVDi dcDi pmDi anDi cdDi ctDi), slDi⟩)
    (w2Di : PySem.W.codeIn K cdDi "_law_dice" = true)
    (w3Di : PySem.W.keepIn K (.ref fDi) = true)
    (w0Ro : PySem.W.nsIn K mainGlobals "_law_roll" = some (some (.ref fRo)))
    (w1Ro : K.lookup fRo = some ⟨ocRo, odRo, .func (PySem.W.fnOf "_law_roll" "_law_roll" (defArgs sRoll) (defBody sRoll) (defScope sRoll) .none kVRo dcRo pmRo anRo cdRo ctRo), slRo⟩)
    (w2Ro : PySem.W.codeIn K cdRo "_law_roll" = true)
    (w3Ro : PySem.W.keepIn K (.ref fRo) = true)
    (w0Pi : PySem.W.nsIn K mainGlobals "_law_pick" = some (some (.ref fPi)))
    (w1Pi : K.lookup fPi = some ⟨ocPi, odPi, .func (PySem.W.fnOf "_law_pick" "_law_pick" (defArgs sPick) (defBody sPick) (defScope sPick) .none kVPi dcPi pmPi anPi cdPi ctPi), slPi⟩)
    (w2Pi : PySem.W.codeIn K cdPi "_law_pick" = true)
    (w3Pi : PySem.W.keepIn K (.ref fPi) = true)
    (w0Fa : PySem.W.nsIn K mainGlobals "_law_fault" = some (some (.ref fFa)))
    (w1Fa : K.lookup fFa = some ⟨ocFa, odFa, .func (PySem.W.fnOf "_law_fault" "_law_fault" (defArgs sFault) (defBody sFault) (defScope sFault) .none kVFa dcFa pmFa anFa cdFa ctFa), slFa⟩)
    (w2Fa : PySem.W.codeIn K cdFa "_law_fault" = true)
    (w3Fa : PySem.W.keepIn K (.ref fFa) = true)
    (w0Od : PySem.W.nsIn K mainGlobals "_law_odd" = some (some (.ref fOd)))
    (w1Od : K.lookup fOd = some ⟨ocOd, odOd, .func (PySem.W.fnOf "_law_odd" "_law_odd" (defArgs sOdd) (defBody sOdd) (defScope sOdd) .none kVOd dcOd pmOd anOd cdOd ctOd), slOd⟩)
    (w2Od : PySem.W.codeIn K cdOd "_law_odd" = true)
    (w3Od : PySem.W.keepIn K (.ref fOd) = true)
    (w0Ri : PySem.W.nsIn K mainGlobals "_law_right" = some (some (.ref fRi)))
    (w1Ri : K.lookup fRi = some ⟨ocRi, odRi, .func (PySem.W.fnOf "_law_right" "_law_right" (defArgs sRight) (defBody sRight) (defScope sRight) .none kVRi dcRi pmRi anRi (.ref cRi) ctRi), slRi⟩)
    (w2Ri : PySem.W.codeIn K (.ref cRi) "_law_right" = true)
    (w3Ri : PySem.W.keepIn K (.ref fRi) = true)
    (w4Ri : K.lookup cRi = some ⟨veRi, oeRi, .fields vsRi, seRi⟩)
    (w5Ri : vsRi[11]? = some (.ref PRi))
    (w6Ri : K.lookup PRi = none)
    (w0La : PySem.W.nsIn K mainGlobals "law" = some (some (.ref fLa)))
    (w1La : K.lookup fLa = some ⟨ocLa, odLa, .func (PySem.W.fnOf "law" "law" (defArgs sLaw) (defBody sLaw) (defScope sLaw) .none kVLa dcLa pmLa anLa (.ref cLa) ctLa), slLa⟩)
    (w2La : PySem.W.codeIn K (.ref cLa) "law" = true)
    (w3La : PySem.W.keepIn K (.ref fLa) = true)
    (w4La : K.lookup cLa = some ⟨veLa, oeLa, .fields vsLa, seLa⟩)
    (w5La : vsLa[11]? = some (.ref PLa))
    (w6La : K.lookup PLa = none)
    (nePP : PRi ≠ PLa)
    (w1In : K.lookup fIn = some ⟨ocIn, odIn, .func (PySem.W.fnOf "__init__" "Language.__init__" (defArgs sInit) (defBody sInit) (defScope sInit) .none kVIn dcIn pmIn anIn cdIn ctIn), slIn⟩)
    (w2In : PySem.W.codeIn K cdIn "Language.__init__" = true)
    (w3In : PySem.W.keepIn K (.ref fIn) = true)
    (w1Of : K.lookup fOf = some ⟨ocOf, odOf, .func (PySem.W.fnOf "of" "Language.of" (defArgs sOf) (defBody sOf) (defScope sOf) .none kVOf dcOf pmOf anOf cdOf ctOf), slOf⟩)
    (w2Of : PySem.W.codeIn K cdOf "Language.of" = true)
    (w3Of : PySem.W.keepIn K (.ref fOf) = true)
    (w1Mk : K.lookup fMk = some ⟨ocMk, odMk, .func (PySem.W.fnOf "marks" "Language.marks" (defArgs sMarks) (defBody sMarks) (defScope sMarks) .none kVMk dcMk pmMk anMk cdMk ctMk), slMk⟩)
    (w2Mk : PySem.W.codeIn K cdMk "Language.marks" = true)
    (w3Mk : PySem.W.keepIn K (.ref fMk) = true)
    (w1Wm : K.lookup fWm = some ⟨ocWm, odWm, .func (PySem.W.fnOf "with_marks" "Language.with_marks" (defArgs sWm) (defBody sWm) (defScope sWm) .none kVWm dcWm pmWm anWm cdWm ctWm), slWm⟩)
    (w2Wm : PySem.W.codeIn K cdWm "Language.with_marks" = true)
    (w3Wm : PySem.W.keepIn K (.ref fWm) = true)
    (w1Wk : K.lookup fWk = some ⟨ocWk, odWk, .func (PySem.W.fnOf "with_kinds" "Language.with_kinds" (defArgs sWk) (defBody sWk) (defScope sWk) .none kVWk dcWk pmWk anWk cdWk ctWk), slWk⟩)
    (w2Wk : PySem.W.codeIn K cdWk "Language.with_kinds" = true)
    (w3Wk : PySem.W.keepIn K (.ref fWk) = true)
    (w1Ou : K.lookup fOu = some ⟨ocOu, odOu, .func (PySem.W.fnOf "without" "Language.without" (defArgs sOut) (defBody sOut) (defScope sOut) .none kVOu dcOu pmOu anOu cdOu ctOu), slOu⟩)
    (w2Ou : PySem.W.codeIn K cdOu "Language.without" = true)
    (w3Ou : PySem.W.keepIn K (.ref fOu) = true)
    (w1Or : K.lookup fOr = some ⟨ocOr, odOr, .func (PySem.W.fnOf "__or__" "Language.__or__" (defArgs sOr) (defBody sOr) (defScope sOr) .none kVOr dcOr pmOr anOr cdOr ctOr), slOr⟩)
    (w2Or : PySem.W.codeIn K cdOr "Language.__or__" = true)
    (w3Or : PySem.W.keepIn K (.ref fOr) = true)
    (w1An : K.lookup fAn = some ⟨ocAn, odAn, .func (PySem.W.fnOf "__and__" "Language.__and__" (defArgs sAnd) (defBody sAnd) (defScope sAnd) .none kVAn dcAn pmAn anAn cdAn ctAn), slAn⟩)
    (w2An : PySem.W.codeIn K cdAn "Language.__and__" = true)
    (w3An : PySem.W.keepIn K (.ref fAn) = true)
    (w1Eq : K.lookup fEq = some ⟨ocEq, odEq, .func (PySem.W.fnOf "__eq__" "Language.__eq__" (defArgs sEq) (defBody sEq) (defScope sEq) .none kVEq dcEq pmEq anEq cdEq ctEq), slEq⟩)
    (w2Eq : PySem.W.codeIn K cdEq "Language.__eq__" = true)
    (w3Eq : PySem.W.keepIn K (.ref fEq) = true)
    (w1Ha : K.lookup fHa = some ⟨ocHa, odHa, .func (PySem.W.fnOf "__contains__" "Language.__contains__" (defArgs sHas) (defBody sHas) (defScope sHas) .none kVHa dcHa pmHa anHa cdHa ctHa), slHa⟩)
    (w2Ha : PySem.W.codeIn K cdHa "Language.__contains__" = true)
    (w3Ha : PySem.W.keepIn K (.ref fHa) = true)
    (z_isinstance : PySem.W.nsIn K mainGlobals "isinstance" = some none)
    (z_tuple : PySem.W.nsIn K mainGlobals "tuple" = some none)
    (z_all : PySem.W.nsIn K mainGlobals "all" = some none)
    (z_any : PySem.W.nsIn K mainGlobals "any" = some none)
    (z_sorted : PySem.W.nsIn K mainGlobals "sorted" = some none)
    (z_list : PySem.W.nsIn K mainGlobals "list" = some none)
    (z_len : PySem.W.nsIn K mainGlobals "len" = some none)
    (z_str : PySem.W.nsIn K mainGlobals "str" = some none)
    (z_int : PySem.W.nsIn K mainGlobals "int" = some none)
    (z_abs : PySem.W.nsIn K mainGlobals "abs" = some none)
    (z_max : PySem.W.nsIn K mainGlobals "max" = some none)
    (z_min : PySem.W.nsIn K mainGlobals "min" = some none)
    (z_range : PySem.W.nsIn K mainGlobals "range" = some none)
    (z_repr : PySem.W.nsIn K mainGlobals "repr" = some none)
    (z_super : PySem.W.nsIn K mainGlobals "super" = some none)
    (g8 : PySem.W.nsIn K mainGlobals "MAX_MARKS" = some (some (.int 8 t8)))
    (g4 : PySem.W.nsIn K mainGlobals "MAX_KINDS" = some (some (.int 4 t4)))
    (g9 : PySem.W.nsIn K mainGlobals "MAX_SIGNS" = some (some (.int 8 t9)))
    (gs : PySem.W.nsIn K mainGlobals "SIGNS" = some (some (.str "abcdefghijklmnopqrstuvwxyz" ts)))
    : LawG l w K CX0 11 63 "_law_script" mg fa h := by
  subst hP
  have e := hfa.symm.trans (PySem.W.mg_of X G w0La)
  cases e
  have m_super := PySem.W.mg_none_of X G z_super
  have TI : TreeTxt l.prog K mg "InvalidLanguage" CI CT fI := {
    gC := PySem.W.mg_of X G aI, cls := ⟨nmI, qI, NI, bsI, _, snI, subI, abI, colI, ddI, m0I, m1I, m2I, m3I, m5I, xI, line_tree⟩, iC := iI, tC := tfI', kC := kI, exC := bI, tyC := tI, suB := vI, sup := sup_in xI neI, opq := opq,
    fn := ⟨_, _, _, _, _, _, _, _, _, _, _, _, _, _, _, _, _, _, _, _, _, _, _, _, _, _, lI, cI, lcI, lvI, lfI, lxI, evI⟩, clD := ⟨_, cT⟩, inD := mI, noS := m_super, topS := tS }
  have TO : TreeTxt l.prog K mg "InvalidOperation" CO CT fO := {
    gC := PySem.W.mg_of X G aO, cls := ⟨nmO, qO, NO, bsO, _, snO, subO, abO, colO, ddO, m0O, m1O, m2O, m3O, m5O, xO, line_tree⟩, iC := iO, tC := tfO', kC := kO, exC := bO, tyC := tO, suB := vO, sup := sup_in xO neO, opq := opq,
    fn := ⟨_, _, _, _, _, _, _, _, _, _, _, _, _, _, _, _, _, _, _, _, _, _, _, _, _, _, lO, cO, lcO, lvO, lfO, lxO, evO⟩, clD := ⟨_, cT⟩, inD := mO, noS := m_super, topS := tS }
  have TU : UnkTxt l.prog K mg CU CU fU r1 r2 r3 r4 := {
    gC := PySem.W.mg_of X G aU, cls := ⟨nmU, qU, NU, bsU, _, snU, subU, abU, colU, ddU, m0U, m1U, m2U, m3U, m5U, xU, line_key⟩, iC := iU, tC := tfU', kC := kU, exC := bU, tyC := tU, suB := vU, sup := sup_key xU, opq := opq,
    fn := ⟨_, _, _, _, _, _, _, _, _, _, _, _, _, _, _, _, _, _, _, _, _, _, _, _, _, _, lU, cU, lcU, lvU, lfU, lxU, evU⟩, clD := ⟨_, cU'⟩, inD := mU, noS := m_super, topS := tS }
  have UU : PySem.TfSF.FldTxt K CU "name" := fld_key xU fU1 fU2 fU3
  have Er : Errs K CI CO CU := ⟨exm_two bI icI tI sII, exm_two bI icI tI sOI, exm_two bO icO tO sOO, exm_two bI icI tI sUI, exm_two bO icO tO sUO, exm_two bU icU tU sUU, ⟨fU4, fU5, bU, fU6, fU2⟩⟩
  have L : LCls K C := ⟨⟨l1, l2, l3, l4⟩, l5, l6⟩
  have Mm : Mk K C fIn := ⟨l7, v1In, v2In, l8'⟩
  have Is : LIs K C := ⟨l9', e5, e6, la, by unfold PySem.W.kitOne; rw [if_pos (beq_self_eq_true _)], kit_refB (by decide +kernel) lb⟩
  have Tn : TyNo K C := ⟨kit_ref le lg (ty_ne _ _) s0, kit_ref le lg (ty_ne _ _) s1, kit_ref le lg (ty_ne _ _) s2, kit_ref le lg (ty_ne _ _) s3, kit_ref le lg (ty_ne _ _) s4, kit_ref le lg (ty_ne _ _) s5, kit_ref le lg (ty_ne _ _) s6, n0, n1, n2, n3, n4, n5, n6, nC⟩
  have cr : CRead K C (.type "type") := ⟨r1', r2'⟩
  have cm : CMet K C (.type "type") "of" pOf fOf := ⟨r3', ⟨_, r4'⟩, r5'⟩
  have pMk' : PropOf K C "marks" pMk fMk := ⟨u1Mk, u2Mk, u3Mk, ⟨_, u4Mk⟩⟩
  have FNa := fun_mk (st := sName) w1Na w2Na w3Na
  have FDf := fun_mk (st := sDiff) w1Df w2Df w3Df
  have FLi := fun_mk (st := sLin) w1Li w2Li w3Li
  have FDi := fun_mk (st := sDice) w1Di w2Di w3Di
  have FRo := fun_mk (st := sRoll) w1Ro w2Ro w3Ro
  have FPi := fun_mk (st := sPick) w1Pi w2Pi w3Pi
  have FFa := fun_mk (st := sFault) w1Fa w2Fa w3Fa
  have FOd := fun_mk (st := sOdd) w1Od w2Od w3Od
  have FRi := func_mk (st := sRight) w1Ri w2Ri w3Ri
  have FLa := func_mk (st := sLaw) w1La w2La w3La
  have FIn := fun_mk (st := sInit) w1In w2In w3In
  have FOf := fun_mk (st := sOf) w1Of w2Of w3Of
  have FMk := fun_mk (st := sMarks) w1Mk w2Mk w3Mk
  have FWm := fun_mk (st := sWm) w1Wm w2Wm w3Wm
  have FWk := fun_mk (st := sWk) w1Wk w2Wk w3Wk
  have FOu := fun_mk (st := sOut) w1Ou w2Ou w3Ou
  have FOr := fun_mk (st := sOr) w1Or w2Or w3Or
  have FAn := fun_mk (st := sAnd) w1An w2An w3An
  have FEq := fun_mk (st := sEq) w1Eq w2Eq w3Eq
  have FHa := fun_mk (st := sHas) w1Ha w2Ha w3Ha
  have bNa := FNa.binds (ps := ["value"]) fun _ _ _ _ _ _ us hl => match us, hl with | [_], _ => rfl
  have bDf := FDf.binds (ps := ["values"]) fun _ _ _ _ _ _ us hl => match us, hl with | [_], _ => rfl
  have bLi := FLi.binds (ps := ["marks", "kinds"]) fun _ _ _ _ _ _ us hl => match us, hl with | [_, _], _ => rfl
  have bDi := FDi.binds (ps := ["_law_script", "_law_spot"]) fun _ _ _ _ _ _ us hl => match us, hl with | [_, _], _ => rfl
  have bRo := FRo.binds (ps := ["_law_dice_here", "_law_upto"]) fun _ _ _ _ _ _ us hl => match us, hl with | [_, _], _ => rfl
  have bPi := FPi.binds (ps := ["_law_dice_here", "_law_items"]) fun _ _ _ _ _ _ us hl => match us, hl with | [_, _], _ => rfl
  have bFa := FFa.binds (ps := ["_law_call"]) fun _ _ _ _ _ _ us hl => match us, hl with | [_], _ => rfl
  have bOd := FOd.binds (ps := ["_law_dice_here"]) fun _ _ _ _ _ _ us hl => match us, hl with | [_], _ => rfl
  have bRi := FRi.binds (ps := ["_law_dice_here"]) fun _ _ _ _ _ _ us hl => match us, hl with | [_], _ => rfl
  have bLa := FLa.binds (ps := ["_law_script"]) fun _ _ _ _ _ _ us hl => match us, hl with | [_], _ => rfl
  have bOf := FOf.binds (ps := ["cls", "marks", "kinds"]) fun _ _ _ _ _ _ us hl => match us, hl with | [_, _, _], _ => rfl
  have bMk := FMk.binds (ps := ["self"]) fun _ _ _ _ _ _ us hl => match us, hl with | [_], _ => rfl
  have bOr := FOr.binds (ps := ["self", "other"]) fun _ _ _ _ _ _ us hl => match us, hl with | [_, _], _ => rfl
  have bAn := FAn.binds (ps := ["self", "other"]) fun _ _ _ _ _ _ us hl => match us, hl with | [_, _], _ => rfl
  have bEq := FEq.binds (ps := ["self", "other"]) fun _ _ _ _ _ _ us hl => match us, hl with | [_, _], _ => rfl
  have bHa := FHa.binds (ps := ["self", "value"]) fun _ _ _ _ _ _ us hl => match us, hl with | [_, _], _ => rfl
  have m_isinstance := PySem.W.mg_none_of X G z_isinstance
  have m_tuple := PySem.W.mg_none_of X G z_tuple
  have m_all := PySem.W.mg_none_of X G z_all
  have m_any := PySem.W.mg_none_of X G z_any
  have m_sorted := PySem.W.mg_none_of X G z_sorted
  have m_list := PySem.W.mg_none_of X G z_list
  have m_len := PySem.W.mg_none_of X G z_len
  have m_str := PySem.W.mg_none_of X G z_str
  have m_int := PySem.W.mg_none_of X G z_int
  have m_abs := PySem.W.mg_none_of X G z_abs
  have m_max := PySem.W.mg_none_of X G z_max
  have m_min := PySem.W.mg_none_of X G z_min
  have m_range := PySem.W.mg_none_of X G z_range
  have m_repr := PySem.W.mg_none_of X G z_repr
  have gC := PySem.W.mg_of X G aC
  have g8' := PySem.W.mg_of X G g8
  have g4' := PySem.W.mg_of X G g4
  have g9' := PySem.W.mg_of X G g9
  have gs' : mg "SIGNS" = some (.str signs ts) := PySem.W.mg_of X G gs
  obtain ⟨hdR, tbR⟩ := tab "_law_right" cRi PRi rc1 (tab_in w0Ri w1Ri rfl w4Ri w5Ri)
  obtain ⟨hdL, tbL⟩ := tab "law" cLa PLa rc2 (tab_in w0La w1La rfl w4La w5La)
  have Fl : Flt K mg CI CO CU fFa _ := ⟨FFa, bFa, PySem.W.mg_of X G w0Fa, Er, PySem.W.mg_of X G aI, PySem.W.mg_of X G aO, PySem.W.mg_of X G aU⟩
  have inR : (PRi, (("_law_right" : Str) ++ ".<locals>.") ++ "<lambda>") ∈ [(PRi, (("_law_right" : Str) ++ ".<locals>.") ++ "<lambda>"), (PLa, (("law" : Str) ++ ".<locals>.") ++ "<lambda>")] := List.mem_cons_self
  have inL : (PLa, (("law" : Str) ++ ".<locals>.") ++ "<lambda>") ∈ [(PRi, (("_law_right" : Str) ++ ".<locals>.") ++ "<lambda>"), (PLa, (("law" : Str) ++ ".<locals>.") ++ "<lambda>")] := List.mem_cons_of_mem _ List.mem_cons_self
  have hUR : ∀ p ∈ [(PRi, (("_law_right" : Str) ++ ".<locals>.") ++ "<lambda>"), (PLa, (("law" : Str) ++ ".<locals>.") ++ "<lambda>")], p.1 = PRi → p.2 = (("_law_right" : Str) ++ ".<locals>.") ++ "<lambda>" := by
    simp only [List.forall_mem_cons]
    exact ⟨fun _ => by trivial, fun z => (nePP z.symm).elim, fun p hp => (nomatch hp)⟩
  have hUL : ∀ p ∈ [(PRi, (("_law_right" : Str) ++ ".<locals>.") ++ "<lambda>"), (PLa, (("law" : Str) ++ ".<locals>.") ++ "<lambda>")], p.1 = PLa → p.2 = (("law" : Str) ++ ".<locals>.") ++ "<lambda>" := by
    simp only [List.forall_mem_cons]
    exact ⟨fun z => (nePP z).elim, fun _ => by trivial, fun p hp => (nomatch hp)⟩
  refine ⟨PySem.W.fnOf "law" "law" (defArgs sLaw) (defBody sLaw) (defScope sLaw) .none kVLa dcLa pmLa anLa (.ref cLa) ctLa, [(cRi, PRi), (cLa, PLa)], spLaw K [(PRi, (("_law_right" : Str) ++ ".<locals>.") ++ "<lambda>"), (PLa, (("law" : Str) ++ ".<locals>.") ++ "<lambda>")], ⟨?_, ?_, ?_⟩, fun s u => .of_eq rfl, fun H a ns hl _ hT hS => ⟨a, ns, rfl, hS, hl, ?_, fun _ => rfl⟩, fun base KB GB TB => ?_⟩
  · simp only [List.forall_mem_cons]
    exact ⟨tbR, tbL, fun p hp => (nomatch hp)⟩
  · simp only [List.forall_mem_cons]
    exact ⟨w6Ri, w6La, fun p hp => (nomatch hp)⟩
  · simp only [List.forall_mem_cons]
    exact ⟨hdR, hdL, fun p hp => (nomatch hp)⟩
  · unfold Tabs
    simp only [List.forall_mem_cons] at hT ⊢
    exact ⟨TabS.nil hT.1, TabS.nil hT.2.1, fun p hp => (nomatch hp)⟩
  simp only [List.forall_mem_cons] at TB
  have GN : ∀ k, FnOk l.prog w K mg base CX0 (k + 1) fNa _ ["value"] (spName K) := fun k => ok_name FNa m_isinstance m_str m_len m_all g9' gs'
  have GD : ∀ k, FnOk l.prog w K mg base (L2.CX l.prog w) (k + 3) fDf _ ["values"] (spDiff K CI) := fun k => ok_diff FDf TI (GN k) bNa (PySem.W.mg_of X G w0Na) w3Na m_isinstance m_tuple m_all m_sorted m_list
  have GI : ∀ k, FnA l.prog w K mg base (L2.CX l.prog w) (k + 4) fIn ["kinds"] (spInit K C CI) := fun k => ok_init FIn L TI (GD k) bDf (PySem.W.mg_of X G w0Df) w3Df m_len m_any g8' g4'
  have GO : ∀ k, FnOk l.prog w K mg base (L2.CX l.prog w) (k + 6) fOf _ ["cls", "marks", "kinds"] (spOf K C CI) := fun k => ok_of FOf Mm TI (GI k) m_isinstance m_tuple
  have GL : ∀ k, FnOk l.prog w K mg base (L2.CX l.prog w) (k + 6) fLi _ ["marks", "kinds"] (spLin K C CI) := fun k => ok_lin FLi Mm (GI k) gC
  have gLi := PySem.W.mg_of X G w0Li
  have gHa : FnR l.prog w K mg base CX0 1 fHa (spHas K C) := rawN (ok_has FHa L) bHa
  have eO1 : PySem.dunder Operator.BitOr.info.2 = ("__or__" : Str) := by decide +kernel
  have eO2 : PySem.dunderR Operator.BitOr.info.2 = ("__ror__" : Str) := by decide +kernel
  have eA1 : PySem.dunder Operator.BitAnd.info.2 = ("__and__" : Str) := by decide +kernel
  have eA2 : PySem.dunderR Operator.BitAnd.info.2 = ("__rand__" : Str) := by decide +kernel
  have Lx : Lg l.prog w K mg base 7 4 ⟨C, CI, CO, CU, fIn, fOf, pOf, fWm, fWk, fOu, fOr, fAn, fMk, pMk, fEq, fHa, .type "type", _, _⟩ := {
    Mm := Mm, GI := GI 0, hI := by decide, gLa := gC, L := L, T := Tn, GO := GO 1, bO := bOf, cr := cr, cm := cm
    mWm := ⟨v1Wm, v2Wm, w3Wm⟩, gWm := ok_wm FWm L (GL 0) bLi gLi w3Li, mWk := ⟨v1Wk, v2Wk, w3Wk⟩, gWk := ok_wk FWk L (GL 0) bLi gLi w3Li
    mOu := ⟨v1Ou, v2Ou, w3Ou⟩, gOu := ok_out3 TU UU FOu L ⟨v1Ha, v2Ha⟩ gHa (by decide) (GL 0) bLi gLi w3Li m_tuple
    oS := by rw [eO1]; exact v1Or
    oR := by rw [eO2]; exact v3Or
    oF := v2Or, gOr := rawN (ok_or FOr L Is TO (GL 0) bLi gLi w3Li gC m_isinstance) bOr
    aS := by rw [eA1]; exact v1An
    aR := by rw [eA2]; exact v3An
    aF := v2An, gAn := rawN (ok_and FAn L Is TO (GL 0) bLi gLi w3Li gC m_isinstance m_tuple) bAn
    sf := sf
    bnO := by
      simp only [tys, List.forall_mem_cons]
      exact ⟨⟨fl_or_NoneType, lr_or_NoneType, s0⟩, ⟨fl_or_bool, lr_or_bool, s1⟩, ⟨fl_or_int, lr_or_int, s2⟩, ⟨fl_or_str, lr_or_str, s3⟩, ⟨fl_or_list, lr_or_list, s4⟩, ⟨fl_or_tuple, lr_or_tuple, s5⟩, ⟨fl_or_dict, lr_or_dict, s6⟩, fun p hp => (nomatch hp)⟩
    bnA := by
      simp only [tys, List.forall_mem_cons]
      exact ⟨⟨fl_and_NoneType, lr_and_NoneType, s0⟩, ⟨fl_and_bool, lr_and_bool, s1⟩, ⟨fl_and_int, lr_and_int, s2⟩, ⟨fl_and_str, lr_and_str, s3⟩, ⟨fl_and_list, lr_and_list, s4⟩, ⟨fl_and_tuple, lr_and_tuple, s5⟩, ⟨fl_and_dict, lr_and_dict, s6⟩, fun p hp => (nomatch hp)⟩
    GMk := ok_marks FMk L, bMk := bMk, pMk := pMk', oE := ⟨v1Eq, v2Eq⟩, gE := rawN (ok_eq FEq L Is gC m_isinstance) bEq, oH := ⟨v1Ha, v2Ha⟩, gH := gHa }
  have GP : ∀ k, FnOk l.prog w K mg base CX0 (k + 2) fPi _ ["_law_dice_here", "_law_items"] (spPick K) := fun k => ok_pick FPi FRo bRo (PySem.W.mg_of X G w0Ro) m_int m_len
  have GOd : ∀ k, FnOk l.prog w K mg base CX0 (k + 3) fOd _ ["_law_dice_here"] spOdd := fun k => ok_odd FOd FPi (GP k) bPi (PySem.W.mg_of X G w0Pi)
  have GRi := ok_right (k := 7) FRi Lx (by decide) Fl TB.1 inR hUR (GOd 6) bOd (PySem.W.mg_of X G w0Od) w3Od (GP 7) bPi (PySem.W.mg_of X G w0Pi) w3Pi m_repr
  exact ok_law (k := 7) FLa Lx Fl TB.2.1 inL hUL (ok_dice FDi m_int m_len m_abs m_max) bDi (PySem.W.mg_of X G w0Di) w3Di GRi bRi (PySem.W.mg_of X G w0Ri) w3Ri m_range m_max m_min m_len
end Tf

open PySem PySem.W PyProof.Rows
set_option maxRecDepth 100000 in
set_option maxHeartbeats 0 in
theorem PySem.Challenge.cw_treefits_k03_languages_refused_holds : PySem.Challenge.rw_treefits_k03_languages_refused.Holds := by
  w_on; o_law; k_head; (case hw => w_witness2)
  k_fill
  refine TfG.walk_G (l := PySem.Challenge.rw_treefits_k03_languages_refused) (n := 63) (k := 11) (x := "_law_script") (CX := fun _ => L2.CX0) rfl (by decide) rfl ⟨rfl, by decide, by decide⟩ (fun w h Y => PySem.W.km_in_of Y) ?F (fun _ _ _ _ _ h => h)
  case F =>
    intro w mg fa h Y KX G tab hmg
    refine' Tf.all_mk KX G hmg rfl tab ?zq_rc1 ?zq_rc2 ?zq_aC ?zq_opq ?zq_tS ?zq_aI ?zq_xI ?zq_iI ?zq_tfIp ?zq_kI ?zq_bI ?zq_tI ?zq_vI ?zq_lI ?zq_cI ?zq_lcI ?zq_lvI ?zq_lfI ?zq_lxI ?zq_evI ?zq_mI ?zq_icI ?zq_aO ?zq_xO ?zq_iO ?zq_tfOp ?zq_kO ?zq_bO ?zq_tO ?zq_vO ?zq_lO ?zq_cO ?zq_lcO ?zq_lvO ?zq_lfO ?zq_lxO ?zq_evO ?zq_mO ?zq_icO ?zq_aU ?zq_xU ?zq_iU ?zq_tfUp ?zq_kU ?zq_bU ?zq_tU ?zq_vU ?zq_lU ?zq_cU ?zq_lcU ?zq_lvU ?zq_lfU ?zq_lxU ?zq_evU ?zq_mU ?zq_icU ?zq_cT ?zq_neI ?zq_neO ?zq_sII ?zq_sOI ?zq_sOO ?zq_sUI ?zq_sUO ?zq_sUU ?zq_cUp ?zq_fU1 ?zq_fU2 ?zq_fU3 ?zq_fU4 ?zq_fU5 ?zq_fU6 ?zq_e5 ?zq_e6 ?zq_l1 ?zq_l2 ?zq_l3 ?zq_l4 ?zq_l5 ?zq_l6 ?zq_l7 ?zq_l8p ?zq_l9p ?zq_la ?zq_lb ?zq_le ?zq_lg ?zq_sf ?zq_s0 ?zq_n0 ?zq_s1 ?zq_n1 ?zq_s2 ?zq_n2 ?zq_s3 ?zq_n3 ?zq_s4 ?zq_n4 ?zq_s5 ?zq_n5 ?zq_s6 ?zq_n6 ?zq_nC ?zq_r1p ?zq_r2p ?zq_r3p ?zq_r4p ?zq_r5p ?zq_u1Mk ?zq_u2Mk ?zq_u3Mk ?zq_u4Mk ?zq_v1In ?zq_v2In ?zq_v1Wm ?zq_v2Wm ?zq_v1Wk ?zq_v2Wk ?zq_v1Ou ?zq_v2Ou ?zq_v1Or ?zq_v2Or ?zq_v1An ?zq_v2An ?zq_v1Eq ?zq_v2Eq ?zq_v1Ha ?zq_v2Ha ?zq_v3Or ?zq_v3An ?zq_w0Na ?zq_w1Na ?zq_w2Na ?zq_w3Na ?zq_w0Df ?zq_w1Df ?zq_w2Df ?zq_w3Df ?zq_w0Li ?zq_w1Li ?zq_w2Li ?zq_w3Li ?zq_w0Di ?zq_w1Di ?zq_w2Di ?zq_w3Di ?zq_w0Ro ?zq_w1Ro ?zq_w2Ro ?zq_w3Ro ?zq_w0Pi ?zq_w1Pi ?zq_w2Pi ?zq_w3Pi ?zq_w0Fa ?zq_w1Fa ?zq_w2Fa ?zq_w3Fa ?zq_w0Od ?zq_w1Od ?zq_w2Od ?zq_w3Od ?zq_w0Ri ?zq_w1Ri ?zq_w2Ri ?zq_w3Ri ?zq_w4Ri ?zq_w5Ri ?zq_w6Ri ?zq_w0La ?zq_w1La ?zq_w2La ?zq_w3La ?zq_w4La ?zq_w5La ?zq_w6La ?zq_nePP ?zq_w1In ?zq_w2In ?zq_w3In ?zq_w1Of ?zq_w2Of ?zq_w3Of ?zq_w1Mk ?zq_w2Mk ?zq_w3Mk ?zq_w1Wm ?zq_w2Wm ?zq_w3Wm ?zq_w1Wk ?zq_w2Wk ?zq_w3Wk ?zq_w1Ou ?zq_w2Ou ?zq_w3Ou ?zq_w1Or ?zq_w2Or ?zq_w3Or ?zq_w1An ?zq_w2An ?zq_w3An ?zq_w1Eq ?zq_w2Eq ?zq_w3Eq ?zq_w1Ha ?zq_w2Ha ?zq_w3Ha ?zq_z_isinstance ?zq_z_tuple ?zq_z_all ?zq_z_any ?zq_z_sorted ?zq_z_list ?zq_z_len ?zq_z_str ?zq_z_int ?zq_z_abs ?zq_z_max ?zq_z_min ?zq_z_range ?zq_z_repr ?zq_z_super ?zq_g8 ?zq_g4 ?zq_g9 ?zq_gs
    (case zq_rc1 => decide +kernel)
    (case zq_rc2 => decide +kernel)
    (case zq_aC => k_is)
    (case zq_opq => k_is)
    (case zq_tS => decide +kernel)
    (case zq_aI => k_is)
    (case zq_xI => k_is)
    (case zq_iI => k_is)
    (case zq_tfIp => k_is)
    (case zq_kI => k_is)
    (case zq_bI => k_is)
    (case zq_tI => k_is)
    (case zq_vI => k_is)
    (case zq_lI => k_is)
    (case zq_cI => k_is)
    (case zq_lcI => k_is)
    (case zq_lvI => rfl)
    (case zq_lfI => decide +kernel)
    (case zq_lxI => k_is)
    (case zq_evI => exact fun env => ⟨_, rfl⟩)
    (case zq_mI => k_is)
    (case zq_icI => k_is)
    (case zq_aO => k_is)
    (case zq_xO => k_is)
    (case zq_iO => k_is)
    (case zq_tfOp => k_is)
    (case zq_kO => k_is)
    (case zq_bO => k_is)
    (case zq_tO => k_is)
    (case zq_vO => k_is)
    (case zq_lO => k_is)
    (case zq_cO => k_is)
    (case zq_lcO => k_is)
    (case zq_lvO => rfl)
    (case zq_lfO => decide +kernel)
    (case zq_lxO => k_is)
    (case zq_evO => exact fun env => ⟨_, rfl⟩)
    (case zq_mO => k_is)
    (case zq_icO => k_is)
    (case zq_aU => k_is)
    (case zq_xU => k_is)
    (case zq_iU => k_is)
    (case zq_tfUp => k_is)
    (case zq_kU => k_is)
    (case zq_bU => k_is)
    (case zq_tU => k_is)
    (case zq_vU => k_is)
    (case zq_lU => k_is)
    (case zq_cU => k_is)
    (case zq_lcU => k_is)
    (case zq_lvU => rfl)
    (case zq_lfU => decide +kernel)
    (case zq_lxU => k_is)
    (case zq_evU => exact fun env => ⟨_, rfl⟩)
    (case zq_mU => k_is)
    (case zq_icU => k_is)
    (case zq_cT => k_is)
    (case zq_neI => decide)
    (case zq_neO => decide)
    (case zq_sII => first | k_is | rfl)
    (case zq_sOI => first | k_is | rfl)
    (case zq_sOO => first | k_is | rfl)
    (case zq_sUI => first | k_is | rfl)
    (case zq_sUO => first | k_is | rfl)
    (case zq_sUU => first | k_is | rfl)
    (case zq_cUp => k_is)
    (case zq_fU1 => k_is)
    (case zq_fU2 => k_is)
    (case zq_fU3 => k_is)
    (case zq_fU4 => k_is)
    (case zq_fU5 => k_is)
    (case zq_fU6 => k_is)
    (case zq_e5 => k_is)
    (case zq_e6 => k_is)
    (case zq_l1 => k_is)
    (case zq_l2 => k_is)
    (case zq_l3 => k_is)
    (case zq_l4 => k_is)
    (case zq_l5 => k_is)
    (case zq_l6 => k_is)
    (case zq_l7 => k_is)
    (case zq_l8p => k_is)
    (case zq_l9p => k_is)
    (case zq_la => k_is)
    (case zq_lb => k_is)
    (case zq_le => k_is)
    (case zq_lg => k_is)
    (case zq_sf => k_is)
    (case zq_s0 => k_is)
    (case zq_n0 => k_is)
    (case zq_s1 => k_is)
    (case zq_n1 => k_is)
    (case zq_s2 => k_is)
    (case zq_n2 => k_is)
    (case zq_s3 => k_is)
    (case zq_n3 => k_is)
    (case zq_s4 => k_is)
    (case zq_n4 => k_is)
    (case zq_s5 => k_is)
    (case zq_n5 => k_is)
    (case zq_s6 => k_is)
    (case zq_n6 => k_is)
    (case zq_nC => k_is)
    (case zq_r1p => k_is)
    (case zq_r2p => k_is)
    (case zq_r3p => k_is)
    (case zq_r4p => k_is)
    (case zq_r5p => k_is)
    (case zq_u1Mk => k_is)
    (case zq_u2Mk => k_is)
    (case zq_u3Mk => k_is)
    (case zq_u4Mk => k_is)
    (case zq_v1In => k_is)
    (case zq_v2In => k_is)
    (case zq_v1Wm => k_is)
    (case zq_v2Wm => k_is)
    (case zq_v1Wk => k_is)
    (case zq_v2Wk => k_is)
    (case zq_v1Ou => k_is)
    (case zq_v2Ou => k_is)
    (case zq_v1Or => k_is)
    (case zq_v2Or => k_is)
    (case zq_v1An => k_is)
    (case zq_v2An => k_is)
    (case zq_v1Eq => k_is)
    (case zq_v2Eq => k_is)
    (case zq_v1Ha => k_is)
    (case zq_v2Ha => k_is)
    (case zq_v3Or => k_is)
    (case zq_v3An => k_is)
    (case zq_w0Na => k_is)
    (case zq_w1Na => k_is)
    (case zq_w2Na => k_is)
    (case zq_w3Na => k_is)
    (case zq_w0Df => k_is)
    (case zq_w1Df => k_is)
    (case zq_w2Df => k_is)
    (case zq_w3Df => k_is)
    (case zq_w0Li => k_is)
    (case zq_w1Li => k_is)
    (case zq_w2Li => k_is)
    (case zq_w3Li => k_is)
    (case zq_w0Di => k_is)
    (case zq_w1Di => k_is)
    (case zq_w2Di => k_is)
    (case zq_w3Di => k_is)
    (case zq_w0Ro => k_is)
    (case zq_w1Ro => k_is)
    (case zq_w2Ro => k_is)
    (case zq_w3Ro => k_is)
    (case zq_w0Pi => k_is)
    (case zq_w1Pi => k_is)
    (case zq_w2Pi => k_is)
    (case zq_w3Pi => k_is)
    (case zq_w0Fa => k_is)
    (case zq_w1Fa => k_is)
    (case zq_w2Fa => k_is)
    (case zq_w3Fa => k_is)
    (case zq_w0Od => k_is)
    (case zq_w1Od => k_is)
    (case zq_w2Od => k_is)
    (case zq_w3Od => k_is)
    (case zq_w0Ri => k_is)
    (case zq_w1Ri => k_is)
    (case zq_w2Ri => k_is)
    (case zq_w3Ri => k_is)
    (case zq_w4Ri => k_is)
    (case zq_w5Ri => rfl)
    (case zq_w6Ri => kernel_rfl)
    (case zq_w0La => k_is)
    (case zq_w1La => k_is)
    (case zq_w2La => k_is)
    (case zq_w3La => k_is)
    (case zq_w4La => k_is)
    (case zq_w5La => rfl)
    (case zq_w6La => kernel_rfl)
    (case zq_nePP => decide)
    (case zq_w1In => k_is)
    (case zq_w2In => k_is)
    (case zq_w3In => k_is)
    (case zq_w1Of => k_is)
    (case zq_w2Of => k_is)
    (case zq_w3Of => k_is)
    (case zq_w1Mk => k_is)
    (case zq_w2Mk => k_is)
    (case zq_w3Mk => k_is)
    (case zq_w1Wm => k_is)
    (case zq_w2Wm => k_is)
    (case zq_w3Wm => k_is)
    (case zq_w1Wk => k_is)
    (case zq_w2Wk => k_is)
    (case zq_w3Wk => k_is)
    (case zq_w1Ou => k_is)
    (case zq_w2Ou => k_is)
    (case zq_w3Ou => k_is)
    (case zq_w1Or => k_is)
    (case zq_w2Or => k_is)
    (case zq_w3Or => k_is)
    (case zq_w1An => k_is)
    (case zq_w2An => k_is)
    (case zq_w3An => k_is)
    (case zq_w1Eq => k_is)
    (case zq_w2Eq => k_is)
    (case zq_w3Eq => k_is)
    (case zq_w1Ha => k_is)
    (case zq_w2Ha => k_is)
    (case zq_w3Ha => k_is)
    (case zq_z_isinstance => k_is)
    (case zq_z_tuple => k_is)
    (case zq_z_all => k_is)
    (case zq_z_any => k_is)
    (case zq_z_sorted => k_is)
    (case zq_z_list => k_is)
    (case zq_z_len => k_is)
    (case zq_z_str => k_is)
    (case zq_z_int => k_is)
    (case zq_z_abs => k_is)
    (case zq_z_max => k_is)
    (case zq_z_min => k_is)
    (case zq_z_range => k_is)
    (case zq_z_repr => k_is)
    (case zq_z_super => k_is)
    (case zq_g8 => k_is)
    (case zq_g4 => k_is)
    (case zq_g9 => k_is)
    (case zq_gs => k_is)

