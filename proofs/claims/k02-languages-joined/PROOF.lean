import PyProof.Rows.All
import Wide.All
import OpenK.AllK
import Wide.FinOn
import KE.KExcSuper
import KE.KCallOwn
import KE.KFmtOwn
import HandS.ForMost
import HandS.ForExc
import HandS.More
import HandS.Star
import HandS.ClsMeth
import HandS.Property
import HandS.IsInst
import HandS.ExcIs
import HandS.OwnEq
import HandS.Deep
import HandS.Strs
import HandS.SetKeys
import HandS.Set
import HandS.SetFor
import HandS.DictComp
import HandS.Conv
import HandS.Style
import HandS.FStr
import HandS.CallSlots
import HandS.Wide
import HandS.TupAny
import HandS.Flow
import HandS.Walk
import HandS.Defaults
import KE.KExcInit
import HandS.ExcCtx
import HandS.HotCalls
import HandS.Lambda
import HandS.EndTab
import HandS.Hot
import PySem.Challenge.RW_treefits_k02_languages_joined
set_option Elab.async false
set_option linter.all false
set_option maxRecDepth 100000
set_option maxHeartbeats 4000000
/-! KeyError as the base of an own error: it is made by LookupError's __new__ -/
namespace PySem
namespace TfKE
open PySem.W PySem.Calls PyProof.Rows PySem.HandSPX
abbrev keBm : List Value := [.type "KeyError", .type "LookupError", .type "Exception", .type "BaseException", .type "object"]
theorem kxs : KxsFacts "KeyError" "KeyError.__init__" := { typ := by (show builtinType _ = _; rw [builtinType_eq_fast]; kernel_rfl), nac := by kernel_rfl }
/-- of the built-in __init__ -/
structure InitF (cls initId : String) : Prop where
  noStar : (cls != "*") = true
  initKind : builtinKind initId = some .slot
  initRow : Manifest.signature? initId = some ⟨.positional, "*", cls, .self, [⟨"args", .varPos, false⟩]⟩
  plain : plainId initId = true
  initEntry : entryFor table initId = some Builtin.«BaseException.__init__»
theorem initKE : InitF "KeyError" "KeyError.__init__" := {
  noStar := by decide +kernel, initKind := by kernel_rfl, initRow := by kernel_rfl, plain := by decide +kernel
  initEntry := by
    refine entryFor_alias (id' := "BaseException.__init__") ?_ ?_ ?_ ?_
    · rw [fastTable_eq_tree]; kernel_rfl
    · first | rfl | decide +kernel
    · decide +kernel
    · rw [fastTable_eq_tree]; kernel_rfl }
theorem passes (self : Value) : refuseLoop self "__setattr__" keBm = pure () := by kernel_rfl
/-- the line of classes of an own error: B is in it, AttributeError and NameError are not -/
structure LineOk (B : String) (l : List Value) : Prop where
  yes : l.contains (.type B) = true
  noA : l.contains (.type "AttributeError") = false
  noN : l.contains (.type "NameError") = false
section
variable {prog : Program} {w : World} {A : Around} {R : Result → Shared → Prop} {h : Heap} {gs : Array GenState} {dr : Drawn} {tk : Nat} {os : OsState}
variable {nm q : Str} {C N fI : Addr} {bs bm bmB vs sub : List Value} {hdct ab : Bool} {sn : List Str} {col : Option Bool} {dd : Option Addr} {k0 k1 k2 k3 k5 : Option Value} {B newId initId : String}
/-- C(..), C an own error whose line holds B: made by B's __new__ (F), then the own __init__ at fI -/
theorem call_any (F : ExcBaseFacts B newId initId bmB) (hl : LineOk B (Value.ref C :: bm)) (hC : h.get? C = some (excClassObj nm q C N bs bm hdct sn sub ab col dd k0 k1 k2 k3 k5 newId))
    (hi : W.Looks (model prog w) h (typeLookup (.ref C) "__init__") (some (.ref fI))) (hb : ∀ self, W.Looks (model prog w) h (bindSpecial (.ref fI) self) (.ref fI, [self])) (hz : vs.length ≤ sizeLine)
    (hq : codeAny (model prog w) (A.under (.builtin "type.__call__" ⟨.ref C :: vs, []⟩)) (.call (.ref fI) ⟨.ref (h.objs.size + 1) :: vs, []⟩) (W.InitBack (h.objs.size + 1) R) ⟨(h.push (W.kdv_tup vs)).push (excO C h.objs.size), gs, dr, tk, os⟩) :
    codeAny (model prog w) A (.call (.ref C) ⟨vs, []⟩) R ⟨h, gs, dr, tk, os⟩ := by
  have looked := tc_lookup
  have bound := tc_bind (.ref C)
  have isTy : (⟨h, gs, dr, tk, os⟩ : Shared).TypeIs (.ref C) "type" := ⟨_, hC, rfl⟩
  have stays : ∀ b o, h.get? b = some o → ((h.push (W.kdv_tup vs)).push (excO C h.objs.size)).get? b = some o := fun b o z => Heap.get?_push_of_some _ (Heap.get?_push_of_some _ z)
  have there : ((h.push (W.kdv_tup vs)).push (excO C h.objs.size)).get? (h.objs.size + 1) = some (excO C h.objs.size) := by heap_get
  have ends := F.ends
  have star := F.noStar
  have own : (Value.ref C :: bm).contains (.ref C) = true := by simp
  apply codeAny_of_tree
  change wpAny _ _ (callAny (.ref C) _) _ _ _
  repeat any_goals first | assumption | (with_reducible refine wpAny_loadPart_at hC ?_) | wp_step
  refine ⟨rfl, codeAny_call_builtin_at (Code.quiet_builtin _ (by decide +kernel)) entry_typeCall (wpAny_check_type_call_sub hC ?_)⟩
  repeat first | (with_reducible refine wpAny_loadPart_at hC ?_) | (with_reducible refine wpAny_madeBy_exc hC ?_) | wp_step
  refine codeAny_call_builtin_code (Code.quiet_builtin _ F.quiet) ?_
  simp only [checkBuiltinCall, F.newKind, F.newSplit, F.newRow]
  repeat first | (refine wpAny_loadPart_at hC ?_) | (refine wpAny_isSubtype_exc hC ?_; rw [hl.yes]) | (refine wpAny_staticBase_exc hC ?_) | (refine wpAny_madeBy_exc hC ?_) | (simp only [bne_self_eq_false, Bool.false_eq_true, if_false]) | wp_step
  -- B's __new__
  apply codeAny_builtinAt F.entry
  unfold Builtin.«BaseException.__new__»
  apply wpAt_bind
  change wpAt _ _ _ (stack >>= _) _ _ _
  refine wpAt_bind (wpAt_stack fun p below => wpAt_of_wpAny ?_)
  wp_walk
  apply wpAt_of_wpAny
  rw [F.owner]
  repeat first | (with_reducible refine wpAny_madeHere_exc F.canon hC ?_) | (with_reducible refine wpAny_loadPart_at hC ?_) | (with_reducible refine wpAny_isSubtype_exc hC ?_; first | rw [hl.yes] | rw [hl.noA] | rw [hl.noN]) | wp_step
  -- the own __init__
  rw [Heap.size_push]
  change wpAny _ _ _ _ _ _
  have C1 := stays _ _ hC
  show wpAny _ _ (isSubtype (.ref C) (.ref C)) _ _ (⟨(h.push (W.kdv_tup vs)).push (excO C h.objs.size), gs, dr, tk, os⟩ : Shared)
  repeat first | (with_reducible refine wpAny_loadPart_at there ?_) | (with_reducible refine wpAny_isSubtype_exc C1 ?_; rw [own]) | wp_step
  change wpAny _ _ (typeLookup (.ref C) _) _ _ _
  refine (hi.keeps stays).at (wpAny_holding (wpAny_bind (((hb (.ref (h.objs.size + 1))).keeps stays).at (wpAny_bind (wpAny_call (codeAny_mono hq fun r s' z => ?_))))))
  cases r with
  | error e => exact z
  | ok fl =>
    cases fl with
    | ret v =>
      obtain ⟨rfl, z⟩ := z
      first
        | exact wpAny_pure (wpAny_pure z)
        | (wp_walk; exact z)
    | _ => exact z.elim
end
end TfKE
end PySem

/-! own errors whose __init__ says super().__init__(x) -/
namespace PySem
namespace TfS
open PySem.W PySem.Calls PyProof.Rows PySem.HandSPX
def iA (n : Str) (p1 p2 : Pos) : Arguments := { posonlyargs := [], args := [{ arg := "self", annotation := none, pos := p1 }, { arg := n, annotation := none, pos := p2 }], vararg := none, kwonlyargs := [], kw_defaults := [], kwarg := none, defaults := [] }
def sB (n : Str) (q1 q2 q3 q4 q5 q6 : Pos) : Stmt := .Expr (.Call (.Attribute (.Call (.Name "super" q1) [] [] q2) "__init__" q3) [.Name n q4] [] q5) q6
def cB (n : Str) (q1 q2 q3 q4 q5 : Pos) : Expr := .Call (.Attribute (.Call (.Name "super" q1) [] [] q2) "__init__" q3) [.Name n q4] [] q5
def iS (n : Str) : Scope := { kind := .function, names := [(PySem.Str.ofString "self", .local), (n, .local), (PySem.Str.ofString "__class__", .free), (PySem.Str.ofString "super", .globalImplicit)], isGenerator := false, isCoroutine := false, more := [] }
/-- the written part says: x is an error class at C over the built-in B; its __init__, of the class at D, is at fI: super().__init__(n), then rest -/
structure SupTxt (prog : Program) (K : Frag) (mg : Str → Option Value) (Bn newId B initId : String) (x n qual : Str) (rest : List Stmt) (C D fI : Addr) : Prop where
  gC : mg x = some (.ref C)
  cls : ∃ nm q N bs bm sn sub ab col dd k0 k1 k2 k3 k5, K.lookup C = some (excClassObj nm q C N bs bm true sn sub ab col dd k0 k1 k2 k3 k5 newId) ∧ PySem.TfKE.LineOk Bn (Value.ref C :: bm)
  iC : findIn K (.ref C) "__init__" = some (some (.ref fI))
  tC : typeIn K (.ref fI) = some (.type "function")
  kC : keepIn K (.ref C) = true
  exC : subIn K (.ref C) (.type "BaseException") = some true
  tyC : typeIn K (.ref C) = some (.type "type")
  suB : subIn K (.ref C) (.type B) = some true
  sup : ks_superIn K C D "__init__" = some (some (.builtin initId))
  opq : nsIn K cStatics "thirdparty.any" = some none
  fn : ∃ (oc : Value) (od : Option Addr) (doc pm : Value) (an : Option Addr) (cda : Addr) (ct : Value) (osl : Array (Option Value)) (p1 p2 q1 q2 q3 q4 q5 q6 : Pos) (cc : Addr) (ccl : Value) (cdd : Option Addr) (vs : Array Value) (ccs : Array (Option Value)) (file : Str) (tf : Tok) (cl : Value) (cld : Option Addr) (csl : Array (Option Value)),
    K.lookup fI = some ⟨oc, od, .func (ksFn "__init__" qual (iA n p1 p2) (sB n q1 q2 q3 q4 q5 q6 :: rest) (iS n) .none .none doc pm an (.ref cda) ct cc), osl⟩ ∧ codeIn K (.ref cda) qual = true ∧
    K.lookup cda = some ⟨ccl, cdd, .fields vs, ccs⟩ ∧ vs[2]? = some (.str file tf) ∧ ((prog.main.file : Str) == file) = true ∧ K.lookup cc = some ⟨cl, cld, .cell (some (.ref D)), csl⟩ ∧
    ∀ env : Env, ∃ pl : Sem Bool, eval (cB n q1 q2 q3 q4 q5) env = (do
      let ov ← attributeBase (.Call (.Name "super" q1) [] [] q2) "__init__" env (eval (.Call (.Name "super" q1) [] [] q2) env)
      standAt q3.atName
      let (f, first) ← holding [ov] (getMethod ov "__init__" pl)
      callWith q5 f first (backTo q5 (starEach [.Name n q4] env)) [])
  clD : ∃ cdD, clsIn K D = some cdD
  inD : mroIn K C (.ref D) = some true
  noS : mg "super" = none
  topS : (prog.main.scope.names.lookup ("super" : Str)).isSome = false
/-- the module's names, in a heap -/
def Glb (mg : Str → Option Value) (h : Heap) : Prop := h.Ns mainGlobals mg ∧ ∃ mb, h.Ns builtinsNs mb ∧ ∀ x : Str, x ≠ "__name__" → mb x = bootBuiltins x
section
variable {prog : Program} {w : World} {A : Around} {E : Value → Shared → Prop} {R : Result → Shared → Prop} {s : Shared} {K : Frag} {mg : Str → Option Value} {Bn newId B initId initN : String} {bmN : List Value} {x n qual : Str} {rest : List Stmt} {C D fI : Addr}
theorem init_of {bmB : List Value} (F : ExcBaseFacts B newId initId bmB) : PySem.TfKE.InitF B initId := ⟨F.noStar, F.initKind, F.initRow, F.init.plain, F.initEntry⟩
theorem chk_init {M : Model} {nm q : Str} {N e : Addr} {oe : Obj} {bs bm : List Value} {hdct : Bool} {sn : List Str} {sub : List Value} {ab : Bool} {col : Option Bool} {dd : Option Addr} {k0 k1 k2 k3 k5 : Option Value} {vs : List Value} {Q : Unit → Shared → Prop} {h : Heap} {g : Array GenState} {d : Drawn} {t : Nat} {os : OsState}
    (F : PySem.TfKE.InitF B initId) (hC : h.get? C = some (excClassObj nm q C N bs bm hdct sn sub ab col dd k0 k1 k2 k3 k5 newId)) (he : h.get? e = some oe) (hc : oe.cls = .ref C) (hq : Q () ⟨h, g, d, t, os⟩) : wpAny M A (checkBoundCall initId ⟨.ref e :: vs, []⟩) Q E ⟨h, g, d, t, os⟩ := by
  have short := F.noStar
  simp only [checkBoundCall, F.initKind, F.initRow]
  repeat first | (with_reducible refine wpAny_loadPart_at he ?_; rw [hc]) | (with_reducible refine wpAny_loadPart_at hC ?_) | wp_step
  apply wpAny_onRaise
  have c : ∀ (a b : String) (n : Nat), Bind.check ⟨.positional, "*", B, .self, [⟨"args", .varPos, false⟩]⟩ a b n (List.map (fun x => x.fst) ({ pos := Value.ref e :: vs } : Args).kw) = pure () := fun a b n => check_star_args _ _ _ _ _ _
  rw [c]
  exact wpAny_pure hq
/-- the bound built-in __init__, called -/
theorem bw_call {u e t0 : Addr} {vs : List Value} {Q : Value → Shared → Prop} {h : Heap} {g : Array GenState} {d : Drawn} {t : Nat} {os : OsState} {nm q : Str} {N : Addr} {bs bm : List Value} {sn : List Str} {sub : List Value} {ab : Bool} {col : Option Bool} {dd : Option Addr} {k0 k1 k2 k3 k5 : Option Value}
    (FB : PySem.TfKE.InitF B initId) (hC : h.get? C = some (excClassObj nm q C N bs bm true sn sub ab col dd k0 k1 k2 k3 k5 newId)) (he : h.get? e = some (excO C t0)) (hu : h.get? u = some (kxs_mw initId e)) (hz : vs.length ≤ sizeLine)
    (hq : ∀ h' t1, (∀ b o, b ≠ e → h.get? b = some o → h'.get? b = some o) → h'.get? e = some (excO C t1) → Q .none ⟨h', g, d, t, os⟩) :
    wpAny (model prog w) A (call (.ref u) vs) Q E ⟨h, g, d, t, os⟩ := by
  refine wpAny_call (codeAny_of_tree ?_)
  show wpAny _ A.in1 (callAny (.ref u) ⟨vs, []⟩) _ _ _
  simp only [callAny]
  refine wpAny_bind (wpAny_load hu ?_)
  simp only [kxs_mw, show (Value.type "method-wrapper" == Value.type "method" || Value.type "method-wrapper" == Value.type "builtin_function_or_method" || Value.type "method-wrapper" == Value.type "method-wrapper") = true by decide, if_true]
  refine W.KFB.if_so (by decide) ?_
  refine wpAny_bind (chk_init FB hC he rfl ?_)
  refine wpAny_bind (wpAny_pure (wpAny_pure ?_))
  refine ⟨plainId_quiet FB.plain _, codeAny_builtin FB.initEntry ?_⟩
  exact exc_init_tree (cls := .ref C) (t0 := t0) (dv := none) (c2 := .none) (c3 := .none) (b4 := .bool false) he hz fun h' k e' _ => hq h' _ k e'
/-- __init__ of such a class, at a fresh error -/
theorem sup_init (KF : KxsFacts B initId) (FB : PySem.TfKE.InitF B initId) (T : SupTxt prog K mg Bn newId B initId x n qual rest C D fI) (l2 : (iS n).names.lookup n = some .local) (l3 : (iS n).names.lookup ("__class__" : Str) = some .free) (l4 : (iS n).names.lookup ("super" : Str) = some .globalImplicit) (hnd : (n == ("__debug__" : Str)) = false) (hns : (n == ("self" : Str)) = false)
    (hbd : ∀ (q : Str) (p1 p2 : Pos) (b : List Stmt) (doc pm : Value) (an : Option Addr) (cdv ct : Value) (cc : Addr) (e v : Value), bindArgs (ksFn "__init__" q (iA n p1 p2) b (iS n) .none .none doc pm an cdv ct cc) ⟨[e, v], []⟩ = pure [(("self" : Str), e), (n, v)])
    {e t0 : Addr} {v : Value} (X : K.In s.heap) (G : Glb mg s.heap) (hlim : s.heap.NoLimit) (hx : s.heap.get? e = some (excO C t0)) (hnx : K.lookup e = none) (hroom : A.depth < recursionLimit)
    (hq : ∀ (env : Env) (h' : Heap) (tk : Nat) (t1 : Addr) (m : Str → Option Value) (c : Code), (∀ b o, b ≠ e → s.heap.get? b = some o → h'.get? b = some o) → h'.get? e = some (excO C t1) → h'.Ns env.locals m → m "self" = some (.ref e) → m n = some v → env.scope = iS n → s.heap.objs.size ≤ env.locals →
      PySem.wpAt (model prog w) (A.deeper env) c (execs rest env) (fun f s' => R (.ok (.ret (match f with | .ret v => v | _ => .none))) s')
        (fun e s' => wpAny (model prog w) (A.deeper env) (leaving env e) (fun _ s'' => R (.error e) s'') (fun e' s'' => R (.error e') s'') s') { s with heap := h', toks := tk }) :
    codeAny (model prog w) A (.call (.ref fI) ⟨[.ref e, v], []⟩) R s := by
  obtain ⟨oc, od, doc, pm, an, cda, ct, osl, p1, p2, q1, q2, q3, q4, q5, q6, cc, ccl, cdd, vs, ccs, file, tf, cl, cld, csl, ho, hcd, hcode, hvs, hfile, hcell, hev⟩ := T.fn
  obtain ⟨nm, q, N, bs, bm, sn, sub, ab, col, dd, k0, k1, k2, k3, k5, hC, hT⟩ := T.cls
  obtain ⟨cdD, hD⟩ := T.clD
  obtain ⟨hg, mb, hb, hmb⟩ := G
  obtain ⟨hh, g, d, t, os⟩ := s
  have hcl : clsIn K C = some { name := nm, bases := bs, mro := .ref C :: bm, ns := N, qualname := q, hasDict := true, slotNames := sn, subclasses := sub, abstract := ab, collection := col, hasDel := false } := by unfold clsIn; rw [hC] <;> rfl
  have l1 : (iS n).names.lookup ("self" : Str) = some .local := rfl
  refine ks_codeAny_call_defAt (fd := ksFn "__init__" qual (iA n p1 p2) (sB n q1 q2 q3 q4 q5 q6 :: rest) (iS n) .none .none doc pm an (.ref cda) ct cc) (body := sB n q1 q2 q3 q4 q5 q6 :: rest) (binds := [("self", .ref e), (n, v)]) hroom (X _ _ ho) rfl hlim (codeRec_of X hcd) rfl
    (BindsTo.of_eq (hbd _ _ _ _ _ _ _ _ _ _ _ _)) ?_ ?_ (fun h₁ hn1 hk₁ => ?_) rfl rfl rfl
  · intro y hy
    simp only [iS, List.mem_cons, List.not_mem_nil, or_false] at hy
    rcases hy with rfl | rfl | rfl | rfl <;> exact fun z => nomatch z
  · intro y hy
    simp only [List.mem_cons, List.not_mem_nil, or_false] at hy
    rcases hy with rfl | rfl
    · exact l1
    · exact l2
  have hk₁' : ∀ b o, hh.get? b = some o → h₁.get? b = some o := hk₁
  have X1 : K.In h₁ := X.keeps hk₁'
  have hx1 := hk₁' _ _ hx
  have eL : hh.objs.size ≠ e := Nat.ne_of_gt (Heap.lt_size hx)
  have mself : ([("self", Value.ref e), (n, v)] : List (Str × Value)).reverse.lookup ("self" : Str) = some (.ref e) := by
    show (match ("self" : Str) == n with | true => _ | false => _) = _
    have : (("self" : Str) == n) = false := by
      simp only [beq_eq_false_iff_ne, ne_eq] at hns ⊢
      exact fun z => hns z.symm
    rw [this]
    rfl
  have mn : ([("self", Value.ref e), (n, v)] : List (Str × Value)).reverse.lookup n = some v := by
    show (match n == n with | true => _ | false => _) = _
    simp
  have ICe : InstAt h₁ e (excO C t0) C none := ⟨hx1, rfl, rfl, trivial⟩
  obtain ⟨pl, hev⟩ := hev (callEnv (ksFn "__init__" qual (iA n p1 p2) (sB n q1 q2 q3 q4 q5 q6 :: rest) (iS n) .none .none doc pm an (.ref cda) ct cc) hh.objs.size fI)
  refine ks_wpAt_execs_cons (ks_wpAt_Expr_any (ks_wpAt_MethodCall (pl := pl) ?_ hev))
  refine ks_wpAt_super_base (env := ksEnv qual (iS n) hh.objs.size fI (.ref cda) cc) l4 l3 (by decide +kernel) rfl (X1 _ _ ho) rfl (ar := { arg := "self", annotation := none, pos := p1 }) rfl rfl (X1 _ _ hcode) rfl hvs hfile T.topS ?_
  refine ks_loadName_global rfl l4 (loadGlobal_builtin (env := ksEnv qual (iS n) hh.objs.size fI (.ref cda) cc) (hg.keeps hk₁') T.noS (hb.keeps hk₁') ((hmb _ (by decide +kernel)).trans (by decide +kernel)) ⟨rfl, ?_⟩)
  refine wpAny_loadName_free rfl l3 rfl ⟨_, X1 _ _ hcell, rfl⟩ ?_
  refine wpAny_loadName_local rfl l1 hn1 mself ?_
  obtain ⟨oD, hD1, hD2⟩ : ∃ oD, h₁.get? D = some oD ∧ oD.data = .cls cdD := by
    unfold clsIn at hD
    split at hD
    · rename_i c d cd' sl ho
      cases hD
      exact ⟨_, X1 _ _ ho, rfl⟩
    · cases hD
  refine ks_wpAny_isType_cls hD1 hD2 ⟨rfl, ?_⟩
  refine ks_wpAny_call_super hD1 hD2 hx1 rfl (fun c z => nomatch z) (looks_mroIn X1 T.inD) (fun h2 e2 k2 => ?_)
  -- the bound __init__
  have X2 : K.In h2 := X1.keeps k2
  have hsup := T.sup
  unfold ks_superIn at hsup
  rw [hcl] at hsup
  have ICe2 : InstAt h2 e (excO C t0) C none := ⟨k2 _ _ hx1, rfl, rfl, trivial⟩
  refine kxs_getMethod KF e2 (looks_opaque X2 T.opq) (l₀ := .ref C :: bm) ?_ rfl X2 hsup (ICe2.type.andThen (looks_subIn X2 T.suB)) (ks_ne X2 ICe2 hcl) (by decide +kernel) ?_
  · exact fun A Q E s k q => wpAny_bind ((looks_clsIn X2 hcl) A _ E s k (wpAny_pure q))
  have k3 : ∀ b o, h2.get? b = some o → (h2.push (kxs_mw initId e)).get? b = some o := fun b o z => Heap.get?_push_of_some _ z
  have hu : (h2.push (kxs_mw initId e)).get? h2.objs.size = some (kxs_mw initId e) := Heap.get?_push_at rfl rfl
  refine kxs_callWith (i := initId) (x := e) rfl ?_
  refine evalArgs_plain (spliced_cons ?_)
  have hn3 : (h2.push (kxs_mw initId e)).Ns hh.objs.size (fun y => ([("self", Value.ref e), (n, v)] : List (Str × Value)).reverse.lookup y) := hn1.keeps fun b o z => k3 b o (k2 b o z)
  refine wpAny_Name (wpAny_loadName_local rfl l2 hn3 mn (spliced_nil ⟨hu, ?_⟩)) hnd
  refine bw_call FB (k3 _ _ (k2 _ _ (X1 _ _ hC))) (k3 _ _ (k2 _ _ hx1)) hu (by show 1 ≤ sizeLine; rw [sizeLine_eq]; omega) fun h4 t1 k4 e4 => ?_
  refine hq (ksEnv qual (iS n) hh.objs.size fI (.ref cda) cc) h4 _ t1 (fun y => ([("self", Value.ref e), (n, v)] : List (Str × Value)).reverse.lookup y) _ (fun b o hb z => k4 b o hb (k3 b o (k2 b o (hk₁' b o z)))) e4 ?_ mself mn rfl (Nat.le_refl _)
  obtain ⟨oL, es, ep, hL, r⟩ := hn3
  exact ⟨oL, es, ep, k4 _ _ eL hL, r⟩
/-- C(v), nothing behind super().__init__ -/
theorem sup_made (KF : KxsFacts B initId) (FB : PySem.TfKE.InitF B initId) (FN : ExcBaseFacts Bn newId initN bmN) (T : SupTxt prog K mg Bn newId B initId x n qual [] C D fI) (l2 : (iS n).names.lookup n = some .local) (l3 : (iS n).names.lookup ("__class__" : Str) = some .free) (l4 : (iS n).names.lookup ("super" : Str) = some .globalImplicit) (hnd : (n == ("__debug__" : Str)) = false) (hns : (n == ("self" : Str)) = false)
    (hbd : ∀ (q : Str) (p1 p2 : Pos) (b : List Stmt) (doc pm : Value) (an : Option Addr) (cdv ct : Value) (cc : Addr) (e v : Value), bindArgs (ksFn "__init__" q (iA n p1 p2) b (iS n) .none .none doc pm an cdv ct cc) ⟨[e, v], []⟩ = pure [(("self" : Str), e), (n, v)])
    {v : Value} (X : K.In s.heap) (G : Glb mg s.heap) (hlim : s.heap.NoLimit) (hroom : A.depth + 1 < recursionLimit)
    (hq : ∀ h' tk e t1, (∀ b o, s.heap.get? b = some o → h'.get? b = some o) → s.heap.objs.size ≤ e → h'.get? e = some (excO C t1) → R (.ok (.ret (.ref e))) { s with heap := h', toks := tk }) :
    codeAny (model prog w) A (.call (.ref C) ⟨[v], []⟩) R s := by
  obtain ⟨nm, q, N, bs, bm, sn, sub, ab, col, dd, k0, k1, k2, k3, k5, hC, hT⟩ := T.cls
  obtain ⟨hp, g, dr, tk, os⟩ := s
  have k : ∀ b o, hp.get? b = some o → ((hp.push (kdv_tup [v])).push (excO C hp.objs.size)).get? b = some o := fun b o e => Heap.get?_push_of_some _ (Heap.get?_push_of_some _ e)
  have hget : ((hp.push (kdv_tup [v])).push (excO C hp.objs.size)).get? (hp.objs.size + 1) = some (excO C hp.objs.size) := by heap_get
  have hnx : K.lookup (hp.objs.size + 1) = none := by
    cases e : K.lookup (hp.objs.size + 1) with
    | none => rfl
    | some o =>
      have z : hp.get? (hp.objs.size + 1) = some o := X _ _ e
      exact absurd (Nat.lt_of_succ_lt (Heap.lt_size z)) (Nat.lt_irrefl _)
  refine PySem.TfKE.call_any FN hT (X _ _ hC) (looks_findIn X T.iC) (fun self => bind_fn X self T.tC) (by show 1 ≤ sizeLine; rw [sizeLine_eq]; omega) ?_
  obtain ⟨hg, mb, hb, hmb⟩ := G
  refine sup_init (s := ⟨(hp.push (kdv_tup [v])).push (excO C hp.objs.size), g, dr, tk, os⟩) KF FB T l2 l3 l4 hnd hns hbd (X.keeps k) ⟨hg.keeps k, mb, hb.keeps k, hmb⟩ (hlim.keeps k) hget hnx ?_ fun env h' tk' t1 m c k' hx hn' ms mn es le => ?_
  · show A.depth + 1 < recursionLimit
    exact hroom
  · refine wpAt_of_wpAny (wpAny_execs_nil ?_)
    have old : ∀ b o, hp.get? b = some o → h'.get? b = some o := fun b o e => k' b o (Nat.ne_of_lt (Nat.lt_succ_of_lt (Heap.lt_size e))) (k b o e)
    exact ⟨rfl, hq h' tk' (hp.objs.size + 1) t1 old (Nat.le_succ _) hx⟩
end
end TfS
end PySem
namespace L2
open PySem PySem.Spec PyProof.Rows
section
variable {X : Cx} {Bn newId B initId initN : String} {bmN : List Value} {x n qual : Str} {C D fI : Addr}
theorem Inv.glb {pins : List (Addr × Obj)} {σ : St} {H : Hp} {s : Shared} (I : Inv X pins σ H s) : PySem.TfS.Glb X.mg s.heap := by
  obtain ⟨mb, hb, hm⟩ := I.ok.mod.blt
  exact ⟨I.ok.mod.glob.keeps I.bk, mb, hb.keeps I.bk, hm⟩
/-- x(a): a new error of the class at C, without a dict of its own -/
def tMkS (C : Addr) (ta : TA) : St → Hp → XK → Prop := fun σ H Q => ta σ H fun vs H1 => ∃ v, vs = [v] ∧ Q (.ref C) none H1
theorem pmk_sup {a : Expr} {ta : TA} {p pos : Pos} {k : Nat} (KF : PySem.W.KxsFacts B initId) (FB : PySem.TfKE.InitF B initId) (FN : ExcBaseFacts Bn newId initN bmN) (T : PySem.TfS.SupTxt X.prog X.K X.mg Bn newId B initId x n qual [] C D fI) (hr : Room k X.A) (ha : PA X [a] ta)
    (l2 : (PySem.TfS.iS n).names.lookup n = some .local) (l3 : (PySem.TfS.iS n).names.lookup ("__class__" : Str) = some .free) (l4 : (PySem.TfS.iS n).names.lookup ("super" : Str) = some .globalImplicit) (hnd : (n == ("__debug__" : Str)) = false) (hns : (n == ("self" : Str)) = false)
    (hbd : ∀ (q : Str) (p1 p2 : Pos) (b : List Stmt) (doc pm : Value) (an : Option Addr) (cdv ct : Value) (cc : Addr) (e v : Value), bindArgs (PySem.W.ksFn "__init__" q (PySem.TfS.iA n p1 p2) b (PySem.TfS.iS n) .none .none doc pm an cdv ct cc) ⟨[e, v], []⟩ = pure [(("self" : Str), e), (n, v)])
    (hg : Gl X x := by rfl) (hdb : (x == ("__debug__" : Str)) = false := by decide)
    (he : starEach (a :: []) X.env = (false, eval a X.env) :: starEach [] X.env := by rfl) (hpl : (backTo pos (starEach [] X.env)).any (·.1) = false := by rfl) :
    PMk X (.Call (.Name x p) [a] [] pos) (tMkS C ta) := by
  intro pins s σ H Q I h
  refine wpAny_Call_Name_kw (ld_glob I hg T.gC ?_ hdb)
  refine PySem.W.callWith_K (h₀ := X.base) I.ok.mod.kin T.kC (thn (ha.run pos pins s σ H _ I h) fun us s1 hh => ?_) he hpl
  obtain ⟨vs, H1, I1, r1, v, ev, q1⟩ := hh
  subst ev
  refine ⟨I1.kIn, ?_⟩
  cases r1 with
  | cons rv rn =>
    rename_i v' us'
    cases rn
    show wpAny _ _ (call (.ref C) [v']) _ _ _
    have hlim := I1.nolimit
    refine wpAny_call (PySem.TfS.sup_made KF FB FN T l2 l3 l4 hnd hns hbd I1.kIn I1.glb hlim (by have := hr.dp; omega) fun h' tk' e t1 kp new he' => ?_)
    show MkP X pins σ Q (.ref e) _
    exact ⟨e, _, _, s1, H1, .ref C, none, rfl, I1, kp, Heap.get?_none_of_le new, he', ⟨rfl, rfl⟩, rfl, rfl, I1.hok.fresh new, rfl, I1.bare, raises_own T.exC T.tyC, q1⟩
end
end L2

/-! errors whose context is known to be None (L2N) -/
namespace L2N
open PySem PySem.Spec PyProof.Rows L2
theorem takes0 {X : Cx} : L2N.Takes X (fun _ _ _ _ => False) := fun _ _ x => by
  obtain ⟨_, _, _, _, _, _, _, _, _, _, _, _, _, _, _, _, z⟩ := x
  exact z.elim
end L2N
namespace L2
open PySem PySem.Spec PyProof.Rows
theorem cxUpN {P : Program} {w : World} : StX.CXUp (L2N.CX P w) := by
  intro outer s H s2 H2 E e s' un kp ho c
  obtain ⟨a, B, H', cls, d, ea, fl, hok, ub, r⟩ := c
  obtain ⟨c1, c2, c3, c4⟩ := r
  refine ⟨a, B, H', cls, d, ea, fl, hok, ?_, c1, c2.trans ho, c3, c4⟩
  constructor
  · exact fun b o q n hb => ub.keep b o (kp b o q) (un.free b o q n List.not_mem_nil) hb
  · exact fun b o q hb => ub.slot b o (kp b o q) hb
  · exact fun b o q n => ub.free b o (kp b o q) (un.free b o q n List.not_mem_nil)
  · exact fun b o q hb => ub.there b o (kp b o q) hb
  · exact fun b xs q => ub.tups b xs (un.tups b xs q)
  · exact fun b o xs q => ub.frzs b o xs (un.frzs b o xs q)
  · intro b ps q
    obtain ⟨m1, e1⟩ := un.tbls b ps q
    obtain ⟨m2, e2⟩ := ub.tbls b _ e1
    exact ⟨m1 ++ m2, by rw [e2, Array.append_assoc]⟩
theorem Fun.okN {P : Program} {w : World} {K : PySem.W.Frag} {mg : Str → Option Value} {base : Heap} {x qual : Str} {st : Stmt} {f : Addr} {fd : FuncData} {N ps : List Str} {k : Nat} {sp : Sp} (F : Fun K x qual st f fd) (S : FnScope N ps (defScope st)) (len : ∀ vs H Q E, sp vs H Q E → vs.length = ps.length)
    (body : ∀ (cdv : Value) (A : Around) (outer : List Env) (s : Shared) (H : Hp) (vs : List V) (Q : VK) (E : XK), Room k (A.deeper (envOfC qual (defScope st) s.heap.objs.size f cdv)) → sp vs H Q E → ∃ t, PSs (cxOf (L2N.CX P w) P w K mg base N qual (defScope st) f cdv A outer s H E) (defBody st) t ∧ t { nx := fun _ H' => Q .non H', rt := Q } (start N vs) H) : FnOk P w K mg base (L2N.CX P w) (k + 1) f fd ps sp := by
  obtain ⟨oc, od, kV, doc, pm, an, cdv, ct, osl, rfl, lk, hcd⟩ := F.ex
  exact fn_of lk hcd S len (body cdv)
section
variable {X : Cx} {Bn newId B initId initN : String} {bmN : List Value} {x n qual : Str} {C D fI : Addr}
theorem pmk_supN {a : Expr} {ta : TA} {p pos : Pos} {k : Nat} (KF : PySem.W.KxsFacts B initId) (FB : PySem.TfKE.InitF B initId) (FN : ExcBaseFacts Bn newId initN bmN) (T : PySem.TfS.SupTxt X.prog X.K X.mg Bn newId B initId x n qual [] C D fI) (hr : Room k X.A) (ha : PA X [a] ta)
    (l2 : (PySem.TfS.iS n).names.lookup n = some .local) (l3 : (PySem.TfS.iS n).names.lookup ("__class__" : Str) = some .free) (l4 : (PySem.TfS.iS n).names.lookup ("super" : Str) = some .globalImplicit) (hnd : (n == ("__debug__" : Str)) = false) (hns : (n == ("self" : Str)) = false)
    (hbd : ∀ (q : Str) (p1 p2 : Pos) (b : List Stmt) (doc pm : Value) (an : Option Addr) (cdv ct : Value) (cc : Addr) (e v : Value), bindArgs (PySem.W.ksFn "__init__" q (PySem.TfS.iA n p1 p2) b (PySem.TfS.iS n) .none .none doc pm an cdv ct cc) ⟨[e, v], []⟩ = pure [(("self" : Str), e), (n, v)])
    (hg : Gl X x := by rfl) (hdb : (x == ("__debug__" : Str)) = false := by decide)
    (he : starEach (a :: []) X.env = (false, eval a X.env) :: starEach [] X.env := by rfl) (hpl : (backTo pos (starEach [] X.env)).any (·.1) = false := by rfl) :
    L2N.PMk X (.Call (.Name x p) [a] [] pos) (tMkS C ta) := by
  intro pins s σ H Q I h
  refine wpAny_Call_Name_kw (ld_glob I hg T.gC ?_ hdb)
  refine PySem.W.callWith_K (h₀ := X.base) I.ok.mod.kin T.kC (thn (ha.run pos pins s σ H _ I h) fun us s1 hh => ?_) he hpl
  obtain ⟨vs, H1, I1, r1, v, ev, q1⟩ := hh
  subst ev
  refine ⟨I1.kIn, ?_⟩
  cases r1 with
  | cons rv rn =>
    rename_i v' us'
    cases rn
    show wpAny _ _ (call (.ref C) [v']) _ _ _
    have hlim := I1.nolimit
    refine wpAny_call (PySem.TfS.sup_made KF FB FN T l2 l3 l4 hnd hns hbd I1.kIn I1.glb hlim (by have := hr.dp; omega) fun h' tk' e t1 kp new he' => ?_)
    show L2N.MkP X pins σ Q (.ref e) _
    refine ⟨e, _, _, s1, H1, .ref C, none, rfl, I1, kp, Heap.get?_none_of_le new, he', ⟨rfl, rfl, fun vs e => ?_⟩, rfl, rfl, I1.hok.fresh new, rfl, I1.bare, raises_own T.exC T.tyC, q1⟩
    cases e
    rfl
end
end L2

/-! own special methods: len(o), x in o, o == x, o != x, str(o) -/
namespace PySem
namespace TfO
open PySem.W PySem.Calls PyProof.Rows
section
variable {prog : Program} {w : World} {M : Model} {A : Around} {E : Value → Shared → Prop} {s : Shared} {K : Frag} {x C f : Addr} {ox : Obj} {od : Option Obj} {b tb : Value}
theorem ifBound_B {name : Str} {id : String} {args : List Value} {Q : Option Value → Shared → Prop} (X : K.In s.heap) (I : InstAt s.heap x ox C od) (hs : findIn K (.ref C) name = some (some (.builtin id)))
    (hb : ∀ self, bindSpecial (.builtin id) self = pure (.builtin id, [self])) (h : wpAny M A (call (.builtin id) (.ref x :: args)) (fun v => Q (some v)) E s) : wpAny M A (callSpecialIfBound? (.ref x) name args) Q E s := by
  simp only [callSpecialIfBound?, bindSpecialIfBound?]
  refine wpAny_holding (wpAny_bind (wpAny_bind (wpAny_bind (I.type.here ((looks_findIn X hs).here ?_)))))
  refine wpAny_bind (wpAny_askSetting (wpAny_ite ?_))
  have fin : wpAny M A (call (.builtin id) ([.ref x] ++ args) >>= fun v => pure (some v)) Q E s := wpAny_bind (wpAny_mono h (fun v s' h' => wpAny_pure h') fun _ _ h' => h')
  split
  · exact wpAny_bind ((Looks.of_pure (hb _)).here (wpAny_pure (by exact fin)))
  · exact wpAny_tryCatch (wpAny_bind ((Looks.of_pure (hb _)).here (wpAny_pure (by exact fin))))
theorem slot_one : Slot "object" "__ne__" "object.__ne__" := .of (owner := "object") (n := "__ne__") (by rw [typeLookup_type, builtinLookup_eq_fast]; kernel_rfl) (by decide +kernel) (by decide +kernel) (by decide +kernel) (by first | exact .inl (by decide +kernel) | exact .inr (by decide +kernel)) (by rw [isSubtype_type]; kernel_rfl)
/-- o != b: no own __ne__, an own __eq__ that answers with a bool -/
theorem ne_K {Q : Value → Shared → Prop} (hu : A.units + 1 < cLine) (X : K.In s.heap) (I : InstAt s.heap x ox C od) (hb : Looks (model prog w) s.heap (typeOf b) tb) (hn : notFirst K C tb = true)
    (hs : findIn K (.ref C) "__eq__" = some (some (.ref f))) (hf : isFn K (.ref f) = true) (hne : findIn K (.ref C) "__ne__" = some (some (.builtin "object.__ne__"))) (hm : mroIn K C (.type "object") = some true)
    (h : wpAny (model prog w) A.in1 (call (.ref f) [.ref x, b]) (fun v s' => ∃ r, v = .bool r ∧ Q (.bool (!r)) s') E s) : wpAny (model prog w) A (richCompare .NotEq (.ref x) b) Q E s := by
  have one : wpAny (model prog w) A (tryCompare (.ref x) (cmpInfo .NotEq).2.1 b) (fun r s' => ∃ v, r = some v ∧ Q v s') E s := by
    unfold tryCompare
    refine wpAny_bind (ifBound_B (name := "__ne__") X I hne slot_one.bind ?_)
    refine wpAny_call (codeAny_call_builtin slot_one.plain F.cmpEntry_ne (check_slot (i := "object.__ne__") (owner := "object") (n := "__ne__") F.cmpKind_ne F.cmpSplit_ne (I.type.andThen (looks_mroIn X hm)) (F.cmpArgs_ne _ _) ?_))
    unfold Builtin.«object.__ne__»
    refine wpAny_bind (m := slotArgs "__ne__" 1 _) (wpAny_pure ?_)
    refine wpAny_bind (m := cRoomFor _ _) (wpAny_cRoomFor hu ?_)
    refine wpAny_bind (m := callSpecialIfBound? (.ref x) (Str.ofString "__eq__") _) (ifBound_K X I hs hf (wpAny_mono h (fun r s' hq => ?_) fun _ _ y => y))
    obtain ⟨r, rfl, hq⟩ := hq
    refine wpAny_bind (m := truthy (.bool r)) (wpAny_truthy_bool ?_)
    exact wpAny_pure (wpAny_pure ⟨_, rfl, hq⟩)
  unfold richCompare
  simp only [oneThing_ref]
  refine wpAny_holding (wpAny_bind (wpAny_cRoomFor (Nat.lt_of_succ_lt hu) ?_))
  refine wpAny_bind (I.type.here (wpAny_bind (hb.here ?_)))
  split
  · rename_i q
    have e : subIn K tb (.ref C) = some false := by
      rcases Bool.or_eq_true_iff.mp hn with e | e
      · rw [beq_iff_eq.mp e] at q; simp at q
      · exact beq_iff_eq.mp e
    refine wpAny_bind ((looks_subIn X e).here ?_)
    simp only [Bool.false_eq_true, if_false]
    refine wpAny_bind (wpAny_mono one (fun r s' z => ?_) fun _ _ e => e)
    obtain ⟨v, rfl, hq⟩ := z
    exact wpAny_pure hq
  · refine wpAny_bind (wpAny_pure ?_)
    simp only [Bool.false_eq_true, if_false]
    refine wpAny_bind (wpAny_mono one (fun r s' z => ?_) fun _ _ e => e)
    obtain ⟨v, rfl, hq⟩ := z
    exact wpAny_pure hq
end
end TfO
end PySem
namespace L2
open PySem PySem.Spec PyProof.Rows
section
variable {X : Cx} {CX : CXT} {k : Nat} {f C : Addr} {sp : Sp} {E : XK}
theorem run_sub {pins : List (Addr × Obj)} {σ : St} {H : Hp} {s : Shared} {Q : VK} {A : Around} {us : List Value} {vs : List V} (F : FnR X.prog X.w X.K X.mg X.base CX k f sp) (sb : Sub X k A) (hx : Passes CX X E) (I : Inv X pins σ H s) (r : Vals vs us) (h : sp vs H Q E) :
    wpAny (model X.prog X.w) A (call (.ref f) us) (EP X pins σ Q) X.xe s := by
  have e0 : Env0 X.prog X.w X.K X.mg X.base A X.stack s H := by
    have e := I.env0
    exact ⟨by rw [sb.fr]; exact e.frames, e.mod, e.bs, e.bsz, e.funs, e.frf, e.hok, e.bare⟩
  refine wpAny_call (codeAny_mono (F A X.stack s H us vs Q E sb.room e0 r h) fun r s' hq => ?_)
  cases r with
  | error e => exact hx pins σ H s e s' I hq
  | ok fl =>
    cases fl with
    | ret w => exact I.after hq
    | next => exact False.elim hq
    | brk => exact False.elim hq
    | cont => exact False.elim hq
theorem sub0 (hr : Room k X.A) : Sub X k X.A := ⟨hr, rfl⟩
theorem sub1 (hr : Room (k + 1) X.A) : Sub X k X.A.in1 := ⟨hr.in1, rfl⟩
theorem sub2 (hr : Room (k + 2) X.A) : Sub X k X.A.in1.in1 := ⟨hr.in1.in1, rfl⟩
/-- an instance as the library sees it -/
theorem ins_at {pins : List (Addr × Obj)} {σ : St} {H : Hp} {s : Shared} {a dx : Addr} {fs : List (Str × V)} (I : Inv X pins σ H s) (h : H a = some (.ins C dx fs)) : ∃ ox od, PySem.W.InstAt s.heap a ox C od := by
  obtain ⟨mA, O, _⟩ := ins_get I.hok h
  obtain ⟨od, J, _⟩ := O.look
  exact ⟨_, _, J⟩
/-- C's special method named m is the def at f -/
structure Own (K : PySem.W.Frag) (C : Addr) (m : Str) (f : Addr) : Prop where
  at_ : PySem.W.findIn K (.ref C) m = some (some (.ref f))
  fn : PySem.W.isFn K (.ref f) = true
def bk (Q : VK) : VK := fun v H' => ∃ b, v = .bl b ∧ Q (.bl b) H'
/-- len(o) -/
def rLenO (C : Addr) (sp : Sp) (E : XK) : List V → Hp → VK → Prop := fun xs H Q => ∃ a dx fs, xs = [.ref a] ∧ H a = some (.ins C dx fs) ∧ sp [.ref a] H (fun v H' => ∃ n : Int, v = .int n ∧ 0 ≤ n ∧ n < 2 ^ 63 ∧ Q (.int n) H') E
theorem call_lenO (o : Own X.K C "__len__" f) (F : FnR X.prog X.w X.K X.mg X.base CX k f sp) (hr : Room (k + 1) X.A) (hx : Passes CX X E) : CallR X (.builtin "len") (rLenO C sp E) := by
  intro pins s σ H xs us Q I r h
  obtain ⟨a, dx, fs, rfl, ha, h⟩ := h
  cases r with
  | cons ra rn =>
    cases rn
    cases ra
    obtain ⟨ox, od, J⟩ := ins_at I ha
    obtain ⟨m, hF⟩ := I.fr
    refine PySem.W.len_K hF I.ok.mod.kin J o.at_ o.fn (wpAny_mono (run_sub F (sub1 hr) hx I (vs := [.ref a]) (.cons rfl .nil) h) (fun v s' q => ?_) fun _ _ z => z)
    obtain ⟨v', H', I', rv, n, rfl, h0, h1, q⟩ := q
    obtain ⟨t, rfl⟩ := rv
    exact ⟨⟨h0, h1⟩, .int n, H', I'.tok _, ⟨_, rfl⟩, q⟩
/-- x in o, x not in o -/
def rInO (C : Addr) (sp : Sp) (E : XK) (neg : Bool) : R2 := fun x y H Q => ∃ a dx fs, y = .ref a ∧ H a = some (.ins C dx fs) ∧ sp [.ref a, x] H (fun v H' => ∃ b, v = .bl b ∧ Q (.bl (if neg then !b else b)) H') E
theorem op_inO (o : Own X.K C "__contains__" f) (F : FnR X.prog X.w X.K X.mg X.base CX k f sp) (hr : Room k X.A) (hx : Passes CX X E) : OpR X (compareOp .In) (rInO C sp E false) := by
  intro pins s σ H x y u v Q I rx ry h
  obtain ⟨a, dx, fs, rfl, ha, h⟩ := h
  cases ry
  obtain ⟨ox, od, J⟩ := ins_at I ha
  obtain ⟨m, hF⟩ := I.fr
  refine PySem.W.in_K hF I.ok.mod.kin J o.at_ o.fn (wpAny_mono (run_sub F (sub0 hr) hx I (vs := [.ref a, x]) (.cons rfl (.cons rx .nil)) h) (fun v s' q => ?_) fun _ _ z => z)
  obtain ⟨v', H', I', rv, b, rfl, q⟩ := q
  cases rv
  exact wpAny_truthy_bool ⟨.bl b, H', I', rfl, q⟩
theorem op_notInO (o : Own X.K C "__contains__" f) (F : FnR X.prog X.w X.K X.mg X.base CX k f sp) (hr : Room k X.A) (hx : Passes CX X E) : OpR X (compareOp .NotIn) (rInO C sp E true) := by
  intro pins s σ H x y u v Q I rx ry h
  obtain ⟨a, dx, fs, rfl, ha, h⟩ := h
  cases ry
  obtain ⟨ox, od, J⟩ := ins_at I ha
  obtain ⟨m, hF⟩ := I.fr
  refine PySem.W.notIn_K hF I.ok.mod.kin J o.at_ o.fn (wpAny_mono (run_sub F (sub0 hr) hx I (vs := [.ref a, x]) (.cons rfl (.cons rx .nil)) h) (fun v s' q => ?_) fun _ _ z => z)
  obtain ⟨v', H', I', rv, b, rfl, q⟩ := q
  cases rv
  exact wpAny_truthy_bool ⟨.bl (!b), H', I', rfl, q⟩
/-- the type of y, seen in the heap -/
def TyL (X : Cx) (H : Hp) (y : V) (tb : Value) : Prop := ∀ (pins : List (Addr × Obj)) (σ : St) (s : Shared) (u : Value), Inv X pins σ H s → RelV y u → PySem.W.Looks (model X.prog X.w) s.heap (typeOf u) tb
theorem TyL.ins {H : Hp} {b dx : Addr} {fs : List (Str × V)} (h : H b = some (.ins C dx fs)) : TyL X H (.ref b) (.ref C) := fun pins σ s u I r => by
  cases r
  obtain ⟨ox, od, J⟩ := ins_at I h
  exact J.type
/-- o == y, o != y -/
def rEqO (X : Cx) (C : Addr) (sp : Sp) (E : XK) (neg : Bool) : R2 := fun x y H Q => ∃ a dx fs tb, x = .ref a ∧ H a = some (.ins C dx fs) ∧ TyL X H y tb ∧ PySem.W.notFirst X.K C tb = true ∧ sp [.ref a, y] H (fun v H' => ∃ b, v = .bl b ∧ Q (.bl (if neg then !b else b)) H') E
theorem op_eqO (o : Own X.K C "__eq__" f) (F : FnR X.prog X.w X.K X.mg X.base CX k f sp) (hr : Room k X.A) (hx : Passes CX X E) : OpR X (compareOp .Eq) (rEqO X C sp E false) := by
  intro pins s σ H x y u v Q I rx ry h
  obtain ⟨a, dx, fs, tb, rfl, ha, ht, hn, h⟩ := h
  cases rx
  obtain ⟨ox, od, J⟩ := ins_at I ha
  obtain ⟨m, hF⟩ := I.fr
  show wpAny (model X.prog X.w) X.A (richCompare .Eq (.ref a) v) (EP X pins σ Q) X.xe s
  refine PySem.W.cmp_K (op := .Eq) (tb := tb) (by have := hr.un; omega) hF I.ok.mod.kin J (ht _ _ _ _ I ry) hn o.at_ o.fn (wpAny_mono (run_sub F (sub0 hr) hx I (vs := [.ref a, y]) (.cons rfl (.cons ry .nil)) h) (fun v s' q => ?_) fun _ _ z => z)
  obtain ⟨v', H', I', rv, b, rfl, q⟩ := q
  cases rv
  exact ⟨.bl b, H', I', rfl, q⟩
theorem op_neO (o : Own X.K C "__eq__" f) (hne : PySem.W.findIn X.K (.ref C) "__ne__" = some (some (.builtin "object.__ne__"))) (hm : PySem.W.mroIn X.K C (.type "object") = some true) (F : FnR X.prog X.w X.K X.mg X.base CX k f sp) (hr : Room (k + 1) X.A) (hx : Passes CX X E) : OpR X (compareOp .NotEq) (rEqO X C sp E true) := by
  intro pins s σ H x y u v Q I rx ry h
  obtain ⟨a, dx, fs, tb, rfl, ha, ht, hn, h⟩ := h
  cases rx
  obtain ⟨ox, od, J⟩ := ins_at I ha
  show wpAny (model X.prog X.w) X.A (richCompare .NotEq (.ref a) v) (EP X pins σ Q) X.xe s
  refine PySem.TfO.ne_K (tb := tb) (by have := hr.un; omega) I.kIn J (ht _ _ _ _ I ry) hn o.at_ o.fn hne hm (wpAny_mono (run_sub F (sub1 hr) hx I (vs := [.ref a, y]) (.cons rfl (.cons ry .nil)) h) (fun v s' q => ?_) fun _ _ z => z)
  obtain ⟨v', H', I', rv, b, rfl, q⟩ := q
  cases rv
  exact ⟨b, rfl, .bl (!b), H', I', rfl, q⟩
/-- str(o) -/
def rStrO (C : Addr) (sp : Sp) (E : XK) : List V → Hp → VK → Prop := fun xs H Q => ∃ a dx fs, xs = [.ref a] ∧ H a = some (.ins C dx fs) ∧ sp [.ref a] H (fun v H' => ∃ z, v = .str z ∧ Q (.str z) H') E
theorem call_strO (o : Own X.K C "__str__" f) (F : FnR X.prog X.w X.K X.mg X.base CX k f sp) (hr : Room (k + 2) X.A) (hx : Passes CX X E) : CallR X (.type "str") (rStrO C sp E) := by
  intro pins s σ H xs us Q I r h
  obtain ⟨a, dx, fs, rfl, ha, h⟩ := h
  cases r with
  | cons ra rn =>
    cases rn
    cases ra
    obtain ⟨ox, od, J⟩ := ins_at I ha
    refine PySem.W.kso_call (by have := hr.un; show X.A.units + 1 + 1 < _; omega) I.kIn J o.at_ o.fn (wpAny_mono (run_sub F (sub2 hr) hx I (vs := [.ref a]) (.cons rfl .nil) h) (fun v s' q => ?_) fun _ _ z => z)
    obtain ⟨v', H', I', rv, z, rfl, q⟩ := q
    obtain ⟨t, rfl⟩ := rv
    exact ⟨.str z, H', I', ⟨_, rfl⟩, q⟩
end
end L2

/-! C(*xs, k = v): one starred argument and keywords; a def with *v and keyword-only parameters -/
namespace PySem
namespace TfM
open PySem.W PySem.Calls PyProof.Rows
section
variable {M : Model} {A : Around} {E : Value → Shared → Prop} {s : Shared}
theorem lone_kw {f : Value} {x : Sem Value} {pos : Pos} {kws : List (Option Str × Sem Value)} {Q : Args → Shared → Prop} (hall : kws.all (·.1.isSome) = true)
    (h : wpAny M A x (fun v s₁ => wpAny M A (evalAll (kws.map (·.2))) (fun ks s₂ => StarOf M A E v (fun vs s₃ => Q ⟨vs, (kws.filterMap (·.1)).zip ks⟩ s₃) s₂) E s₁) E s) :
    wpAny M A (evalArgs f true [(true, (do let v ← x; standAt pos; pure v))] kws) Q E s := by
  unfold evalArgs
  first
    | refine wpAny_bind (wpAny_bind (wpAny_mono h (fun v s₁ h₁ => wpAny_bind (wpAny_standAt (wpAny_pure ?_))) fun _ _ x => x))
    | refine wpAny_bind (wpAny_bind (wpAny_bind (wpAny_mono h (fun v s₁ h₁ => wpAny_bind (wpAny_standAt (wpAny_pure (wpAny_pure ?_)))) fun _ _ x => x)))
  refine wpAny_holding ?_
  simp only [hall, if_true]
  refine wpAny_bind (wpAny_mono h₁ (fun ks s₂ h₂ => ?_) fun _ _ x => x)
  unfold StarOf at h₂
  refine wpAny_bind (wpAny_bind (wpAny_mono h₂ (fun b s₃ h₃ => ?_) fun _ _ x => x))
  obtain ⟨rfl, h₃⟩ := h₃
  have z := wpAny_holding (vs := ((kws.filterMap (·.1)).zip ks).map (·.2)) (wpAny_mono h₃ (fun vs s₃ h₃ => (wpAny_pure h₃ : wpAny M A (pure (⟨vs, (kws.filterMap (·.1)).zip ks⟩ : Args)) Q E s₃)) fun _ _ x => x)
  try simp only [Bool.false_eq_true, if_false]
  first
    | exact z
    | exact wpAny_bind z
    | exact wpAny_bind (wpAny_pure z)
theorem call_kw {f : Value} {first : List Value} {pos : Pos} {Q : Value → Shared → Prop} {P : Heap → Prop} {args : List (Bool × Sem Value)} {kws : List (Option Str × Sem Value)} (hst : args.any (·.1) = true)
    (hk : ∀ h, P h → ∃ k, (k = Keeper.frame ∨ k = Keeper.machine ∨ k = Keeper.boundFrame) ∧ Looks M h (keeperOf f) k)
    (h : wpAny M A (evalArgs f true args kws) (fun a s₁ => P s₁.heap ∧ wpAny M A (call f (first ++ a.pos) a.kw) Q E s₁) E s) : wpAny M A (callWith pos f first args kws) Q E s := by
  unfold callWith
  refine wpAny_bind (wpAny_holding (wpAny_mono h (fun a s₁ h₁ => wpAny_bind (wpAny_standAt ?_)) fun _ _ x => x))
  obtain ⟨k, hk', L⟩ := hk _ h₁.1
  simp only [hst, Bool.true_or]
  refine wpAny_bind (L.here ?_)
  have tail : ∀ {t : Sem Value}, wpAny M A t Q E s₁ → wpAny M A (t >>= fun r => holding [r] point >>= fun _ => pure r) Q E s₁ :=
    fun ht => wpAny_bind (wpAny_mono ht (fun r s₂ hr => wpAny_bind (wpAny_holding (wpAny_point (wpAny_pure hr)))) fun _ _ x => x)
  have marked (mk : Value) : wpAny M A (callMarked mk f (first ++ a.pos) a.kw) Q E s₁ := by unfold callMarked; exact Calls.wpAny_keep h₁.2
  rcases hk' with rfl | rfl | rfl <;> dsimp only <;> first | exact tail (marked _) | exact tail (wpAny_operateT h₁.2) | exact tail (wpAny_operating h₁.2)
end
end TfM
end PySem
namespace L2
open PySem PySem.Spec PyProof.Rows
/-- the promise of a def called with values vs and keywords ks = zs -/
abbrev SpK := List V → List V → Hp → VK → XK → Prop
def FnA (P : Program) (w : World) (K : PySem.W.Frag) (mg : Str → Option Value) (base : Heap) (CX : CXT) (k : Nat) (f : Addr) (ks : List Str) (sp : SpK) : Prop :=
  ∀ (A : Around) (outer : List Env) (s : Shared) (H : Hp) (us ws : List Value) (vs zs : List V) (Q : VK) (E : XK), Room k A → Env0 P w K mg base A outer s H → Vals vs us → Vals zs ws → sp vs zs H Q E →
    codeAny (model P w) A (.call (.ref f) ⟨us, ks.zip ws⟩) (CR CX outer P w H s Q E) s
section
variable {CX : CXT} {P : Program} {w : World} {K : PySem.W.Frag} {mg : Str → Option Value} {base : Heap} {k : Nat} {f : Addr} {name qual : Str} {params : Arguments} {body : List Stmt} {scope : Scope} {dV kV doc pm cdv ct oc : Value} {an od : Option Addr}
  {osl : Array (Option Value)} {N : List Str} {sp : Sp}
/-- def f(a, *v, k): the values of a, k, then a new tuple of the rest -/
theorem fn_starK {pa pk pv : Str} (lk : K.lookup f = some ⟨oc, od, .func (PySem.W.fnOf name qual params body scope dV kV doc pm an cdv ct), osl⟩) (hcd : PySem.W.codeIn K cdv qual = true) (S : FnScope N [pa, pk, pv] scope) (hCX : StX.CXUp CX)
    (hb : ∀ (a : Value) (rest : List Value) (b : Value), bindArgs (PySem.W.fnOf name qual params body scope dV kV doc pm an cdv ct) ⟨a :: rest, [(pk, b)]⟩ = (newTuple rest >>= fun t => pure [(pa, a), (pk, b), (pv, t)]))
    (hbody : ∀ (A : Around) (outer : List Env) (s : Shared) (H : Hp) (vs : List V) (Q : VK) (E : XK), Room k (A.deeper (envOfC qual scope s.heap.objs.size f cdv)) → sp vs H Q E →
      ∃ t, PSs (cxOf CX P w K mg base N qual scope f cdv A outer s H E) body t ∧ t { nx := fun _ H' => Q .non H', rt := Q } (start N vs) H) :
    FnA P w K mg base CX (k + 1) f [pk] (fun vs zs H Q E => ∃ a rest b, vs = a :: rest ∧ zs = [b] ∧ rest.length ≤ sizeLine ∧ ∀ p, H p = Option.none → sp [a, b, V.ref p] (upd H p (.tup rest)) Q E) := by
  intro A outer s H us ws vs zs Q E hr e0 r rz hsp
  obtain ⟨a, rest, b, rfl, rfl, hz, hq⟩ := hsp
  cases r with
  | cons ra r2 =>
  cases rz with
  | cons rb rn =>
  cases rn
  rename_i ua u2 ub
  have hn : H s.heap.objs.size = Option.none := e0.hok.fresh (Nat.le_refl _)
  have hl2 : u2.length ≤ sizeLine := by rw [← r2.length]; exact hz
  refine StX.run_bnd lk hcd S hr e0 (G := fun xs H2 => ∃ p, H p = Option.none ∧ xs = [a, b, V.ref p] ∧ H2 = upd H p (.tup rest)) (fun A' Ex Q' h => ?_) fun s2 H2 xs ⟨p, hp, ex, eH⟩ hr' => ?_
  · show wpAny _ _ (bindArgs _ ⟨ua :: u2, [(pk, ub)]⟩) _ _ _
    rw [hb ua u2 ub]
    refine wpAny_bind (wpAny_newTuple (wpAny_pure ?_) hl2)
    have new : ObjOk P w (upd H s.heap.objs.size (.tup rest)) (s.heap.push ({ cls := .type "tuple", data := .seq u2.toArray } : Obj)) s.heap.objs.size (.tup rest) := ⟨hz, u2, r2, ⟨_, Heap.get?_push_size _ rfl, rfl, _, rfl⟩⟩
    have un := StX.un_laid (fs := frs outer) (s := s) (o := ({ cls := .type "tuple", data := .seq u2.toArray } : Obj)) (u := .tup rest) hn
    exact h _ _ [a, b, V.ref s.heap.objs.size] [ua, ub, Value.ref s.heap.objs.size] (StX.env0_laid e0 new) un rfl (fun e s' => hCX outer s H _ _ E e s' un (fun b o q => Heap.get?_push_of_some _ q) rfl) (.cons ra (.cons rb (.cons rfl .nil))) rfl ⟨_, hn, rfl, rfl⟩
  · subst ex eH
    exact hbody A outer s2 _ _ Q E hr' (hq p hp)
end
/-- C(*e, k = v): a new instance and its dict, then __init__ -/
def tMakeSK (K : PySem.W.Frag) (C : Addr) (sp : SpK) (E : XK) (tf te : TE) (tk : TA) : TE := fun σ H Q => tf σ H fun c H0 => c = .ref C ∧ te σ H0 fun y H1 => tk σ H1 fun zs H2 => ∃ a xs, y = V.ref a ∧ (SqT K H2 a xs ∨ SqL K H2 a xs) ∧ zs.length = 1 ∧ ∀ x dx, H2 x = none → H2 dx = none → dx ≠ x →
  sp (.ref x :: xs) zs (upd (upd H2 dx (.own x)) x (.ins C dx [])) (fun v H3 => v = .non ∧ Q (.ref x) H3) E
/-- C(e, .., k = v) -/
def tMakeAK (C : Addr) (sp : SpK) (E : XK) (t : TA) (tk : TA) : TE := fun σ H Q => t σ H fun xs H1 => tk σ H1 fun zs H2 => zs.length = 1 ∧ ∀ x dx, H2 x = none → H2 dx = none → dx ≠ x →
  sp (.ref x :: xs) zs (upd (upd H2 dx (.own x)) x (.ins C dx [])) (fun v H3 => v = .non ∧ Q (.ref x) H3) E
section
variable {X : Cx} {CX : CXT} {k : Nat} {f C : Addr} {ks : List Str} {sp : SpK} {E : XK} {x : Str} {p sp_ pos : Pos} {e fe : Expr} {es : List Expr} {kws : List Keyword} {t tk : TA} {te tf : TE}
theorem run_makeA {pins : List (Addr × Obj)} {σ : St} {H : Hp} {s : Shared} {Q : VK} {us ws : List Value} {vs zs : List V} (M : Mk X.K C f) (F : FnA X.prog X.w X.K X.mg X.base CX k f ks sp) (hr : Room (k + 1) X.A) (hx : Passes CX X E)
    (I : Inv X pins σ H s) (r : Vals vs us) (rz : Vals zs ws)
    (h : ∀ x dx, H x = none → H dx = none → dx ≠ x → sp (.ref x :: vs) zs (upd (upd H dx (.own x)) x (.ins C dx [])) (fun v H2 => v = .non ∧ Q (.ref x) H2) E) :
    wpAny (model X.prog X.w) X.A (call (.ref C) us (ks.zip ws)) (EP X pins σ Q) X.xe s := by
  have hq := h (s.heap.objs.size + 1) s.heap.objs.size (I.hok.fresh (Nat.le_succ _)) (I.hok.fresh (Nat.le_refl _)) (Nat.ne_of_lt (Nat.lt_succ_self _))
  have I2 := Inv.made (C := C) I
  have r1 : Vals (V.ref (s.heap.objs.size + 1) :: vs) (Value.ref (s.heap.objs.size + 1) :: us) := .cons rfl r
  refine wpAny_call (make_map (f := f) I.kIn M.makes M.init (beq_iff_eq.mp M.fn) (codeAny_mono (F _ X.stack _ _ (Value.ref (s.heap.objs.size + 1) :: us) ws _ _ _ E (hr.make C us (ks.zip ws))
    (I2.env0.make C us (ks.zip ws)) r1 rz hq) fun r s' hq' => ?_))
  cases r with
  | error e => exact hx pins σ _ _ e s' I2 hq'
  | ok fl =>
    cases fl with
    | ret u =>
      obtain ⟨v, H', I3, rv, ev, q3⟩ := I2.after hq'
      subst ev
      exact ⟨rv, ⟨V.ref (s.heap.objs.size + 1), H', I3, rfl, q3⟩⟩
    | next => exact False.elim hq'
    | brk => exact False.elim hq'
    | cont => exact False.elim hq'
theorem pe_makeSK (M : Mk X.K C f) (F : FnA X.prog X.w X.K X.mg X.base CX k f ks sp) (hr : Room (k + 1) X.A) (hx : Passes CX X E) (hf : PE X fe tf) (he : PE X e te) (hkw : PK X kws tk)
    (ht : eval (.Call fe [.Starred e sp_] kws pos) X.env = (do callWith pos (← eval fe X.env) [] (backTo pos (starEach [.Starred e sp_] X.env)) (backToKw pos (keywordEach kws X.env))) := by rfl)
    (hall : (backToKw pos (keywordEach kws X.env)).all (·.1.isSome) = true := by rfl) (hks : (backToKw pos (keywordEach kws X.env)).filterMap (·.1) = ks := by rfl)
    (hst : starEach [.Starred e sp_] X.env = [(true, eval e X.env)] := by rfl) :
    PE X (.Call fe [.Starred e sp_] kws pos) (tMakeSK X.K C sp E tf te tk) := by
  refine ⟨fun pins s σ H Q I h => ?_⟩
  rw [ht]
  refine wpAny_bind (thn (hf.run pins s σ H _ I h) fun u s0 ⟨y0, H0, I0, ry, ey0, q0⟩ => ?_)
  subst ey0
  obtain rfl : u = Value.ref C := ry
  rw [hst]
  refine PySem.TfM.call_kw (P := fun h => X.K.In h) rfl (PySem.W.keeps_K M.kp) (PySem.TfM.lone_kw hall ?_)
  refine thn (he.run pins s0 σ H0 _ I0 q0) fun v s1 ⟨y, H1, I1, rv, q1⟩ => ?_
  refine thn (hkw.run pos pins s1 σ H1 _ I1 q1) fun ws s2 ⟨zs, H2, I2, rz, a, xs, ey, hxs, hl, q2⟩ => ?_
  subst ey
  obtain rfl : v = Value.ref a := rv
  refine StX.star_any I2 hxs fun us s3 I3 r => ⟨I3.kIn, ?_⟩
  show wpAny _ _ (call (.ref C) us _) _ _ _
  rw [hks]
  exact run_makeA M F hr hx I3 r rz q2
theorem pe_makeAK (M : Mk X.K C f) (F : FnA X.prog X.w X.K X.mg X.base CX k f ks sp) (hr : Room (k + 1) X.A) (hg : Gl X x) (hm : X.mg x = some (.ref C)) (hx : Passes CX X E) (ha : PA X (e :: es) t) (hkw : PK X kws tk)
    (hall : (backToKw pos (keywordEach kws X.env)).all (·.1.isSome) = true := by rfl) (hks : (backToKw pos (keywordEach kws X.env)).filterMap (·.1) = ks := by rfl) (hdb : (x == ("__debug__" : Str)) = false := by decide)
    (he : starEach (e :: es) X.env = (false, eval e X.env) :: starEach es X.env := by rfl) (hpl : ((backTo pos (starEach (e :: es) X.env)).any (·.1) || (backToKw pos (keywordEach kws X.env)).any (·.1.isNone)) = false := by rfl) :
    PE X (.Call (.Name x p) (e :: es) kws pos) (tMakeAK C sp E t tk) := by
  refine ⟨fun pins s σ H Q I h => ?_⟩
  refine wpAny_Call_Name_kw (ld_glob I hg hm ?_ hdb)
  refine PySem.W.callWith_KW (h₀ := X.base) I.ok.mod.kin M.kp hall (thn (ha.run pos pins s σ H _ I h) fun us s1 ⟨vs, H1, I1, r, q⟩ => ?_) hpl he
  refine thn (hkw.run pos pins s1 σ H1 _ I1 q) fun ws s2 ⟨zs, H2, I2, rz, l1, q2⟩ => ⟨I2.kIn, ?_⟩
  rw [hks]
  exact run_makeA M F hr hx I2 r rz q2
end
end L2

/-! small rules and words -/
namespace L2
open PySem PySem.Spec PyProof.Rows
section
variable {X : Cx}
theorem call_repr_bl : CallR X (.builtin "repr") (fun xs H Q => ∃ b, xs = [.bl b] ∧ Q (.str (if b then "True" else "False")) H) := by
  intro pins s σ H xs us Q I r h
  obtain ⟨b, rfl, q⟩ := h
  cases r with
  | cons rb rn =>
    cases rn
    cases rb
    exact PySem.P.repr_of_bool ⟨.str _, H, I.tok _, ⟨_, rfl⟩, q⟩
theorem op_powW : OpR X (binaryOp .Pow) (rI (fun i j => 0 ≤ j ∧ (Builtin.Int.intBits i : Int) * j ≤ 2 ^ 27) fun i j => .int (i ^ j.toNat)) := opI fun _ _ _ _ _ _ _ hc q => pow_int hc.1 hc.2 q
end
/-- all but what stands at d stays -/
def Nr (d : Addr) (H H' : Hp) : Prop := ∀ b o, b ≠ d → H b = some o → H' b = some o
theorem Nr.refl (d : Addr) (H : Hp) : Nr d H H := fun _ _ _ h => h
theorem Nr.trans {d : Addr} {H H1 H2 : Hp} (a : Nr d H H1) (b : Nr d H1 H2) : Nr d H H2 := fun c o n h => b c o n (a c o n h)
theorem Same.nr {d : Addr} {H H' : Hp} (a : Same H H') : Nr d H H' := fun c o _ h => a c o h
theorem Nr.upd {d : Addr} {H : Hp} {o : HO} : Nr d H (upd H d o) := fun b u n h => by rw [upd_ne n]; exact h
theorem same_new {H : Hp} {p : Addr} {o : HO} (h : H p = none) : Same H (upd H p o) := fun b u e => by
  rw [upd_ne (ne_of_none e h)]
  exact e
theorem Same.new {H H1 : Hp} {p : Addr} {o : HO} (s : Same H H1) (h : H1 p = none) : Same H (upd H1 p o) := s.trans (same_new h)
/-- a new object may change -/
theorem Same.mut {H H1 : Hp} {p : Addr} {o : HO} (s : Same H H1) (h : H p = none) : Same H (L2.upd H1 p o) := fun b u e => by
  rw [upd_ne (ne_of_none e h)]
  exact s b u e
theorem Same.tup {K : PySem.W.Frag} {H H' : Hp} {a : Addr} {xs : List V} (e : Same H H') (h : SqT K H a xs) : SqT K H' a xs := by
  rcases h with (h | ⟨o, h⟩) | h
  · exact .inl (.inl (e _ _ h))
  · exact .inl (.inr ⟨o, e _ _ h⟩)
  · exact .inr h
/-- the dice: three numbers, the first one not below nought -/
def Dice (H : Hp) (d : Addr) : Prop := ∃ a b c : Int, 0 ≤ a ∧ H d = some (.lst [.int a, .int b, .int c])
theorem Dice.same {H H' : Hp} {d : Addr} (x : Dice H d) (s : Same H H') : Dice H' d := by
  obtain ⟨a, b, c, h, e⟩ := x
  exact ⟨a, b, c, h, s _ _ e⟩
theorem lst_of {K : PySem.W.Frag} {H : Hp} {a : Addr} {xs : List V} (h : H a = some (.lst xs)) : SqL K H a xs := .inl (.inl h)
theorem tup_of {K : PySem.W.Frag} {H : Hp} {a : Addr} {xs : List V} (h : H a = some (.tup xs)) : SqT K H a xs := .inl (.inl h)
end L2

/-! texts that are names; lists of texts as data -/
namespace L2
open PySem PySem.Spec PyProof.Rows
def signs : Str := "abcdefghijklmnopqrstuvwxyz"
/-- a name: one to eight letters a to z -/
def nameB (z : Str) : Bool := (decide (1 ≤ z.length) && decide (z.length ≤ 8)) && z.cps.toList.all fun c => decide (c ∈ signs.cps.toList)
theorem nameB_len {z : Str} (h : nameB z = true) : 1 ≤ z.length ∧ z.length ≤ 8 := by
  unfold nameB at h
  rw [Bool.and_eq_true, Bool.and_eq_true] at h
  exact ⟨of_decide_eq_true h.1.1, of_decide_eq_true h.1.2⟩
theorem signs_ok : (signs.cps.toList.all fun c => decide (c < 128)) = true := by decide +kernel
theorem nameB_code {z : Str} (h : nameB z = true) {c : Nat} (hc : c ∈ z.cps.toList) : c < 128 := by
  unfold nameB at h
  rw [Bool.and_eq_true] at h
  have h2 := List.all_eq_true.mp h.2 c hc
  exact of_decide_eq_true (List.all_eq_true.mp signs_ok c (of_decide_eq_true h2))
theorem nameB_ok {z : Str} (h : nameB z = true) : PyData.strOk z = true := by
  unfold PyData.strOk
  rw [Array.all_eq_true']
  intro c hc
  have h1 := nameB_code h (Array.mem_def.mp hc)
  exact decide_eq_true (Nat.lt_trans h1 (by decide))
abbrev dS (zs : List Str) : List PyData := zs.map PyData.str
theorem dpAll_strs {K : PySem.W.Frag} {H : Hp} : ∀ zs : List Str, DpAll K H (zs.map V.str) (dS zs)
  | [] => .nil
  | z :: zs => .cons (.str z) (dpAll_strs zs)
theorem dp_list {K : PySem.W.Frag} {H : Hp} {a : Addr} {zs : List Str} (h : SqL K H a (zs.map V.str)) : Dp K H (.ref a) (.list (dS zs)) := .lst h (dpAll_strs zs)
theorem dp_tuple {K : PySem.W.Frag} {H : Hp} {a : Addr} {zs : List Str} (h : SqT K H a (zs.map V.str)) : Dp K H (.ref a) (.tuple (dS zs)) := .tup h (dpAll_strs zs)
theorem lay_strs : ∀ {zs : List Str}, (∀ z ∈ zs, nameB z = true) → PyData.canLayAll0 (dS zs) = true
  | [], _ => by simp [PyData.canLayAll0, dS]
  | z :: zs, h => by
    have h1 := lay_strs (zs := zs) fun y hy => h y (List.mem_cons_of_mem _ hy)
    have h2 := nameB_ok (h z List.mem_cons_self)
    show PyData.canLayAll0 (PyData.str z :: dS zs) = true
    simp only [PyData.canLayAll0, PyData.canLay0, h1, h2, Bool.and_self]
theorem depth_strs : ∀ zs : List Str, PyData.depthAll (dS zs) = 0
  | [] => by simp [PyData.depthAll, dS]
  | z :: zs => by
    show PyData.depthAll (PyData.str z :: dS zs) = 0
    simp only [PyData.depthAll, PyData.depth, depth_strs zs]
    rfl
theorem shaped_list {zs : List Str} (h : ∀ z ∈ zs, nameB z = true) : SeqAt.shaped (.list (dS zs)) = true := by
  show (PyData.canLay0 (.list (dS zs)) && decide (PyData.depth (.list (dS zs)) ≤ 64)) = true
  rw [Bool.and_eq_true]
  refine ⟨by simp only [PyData.canLay0]; exact lay_strs h, decide_eq_true ?_⟩
  simp only [PyData.depth, depth_strs]
  decide
theorem shaped_tuple {zs : List Str} (h : ∀ z ∈ zs, nameB z = true) : SeqAt.shaped (.tuple (dS zs)) = true := by
  show (PyData.canLay0 (.tuple (dS zs)) && decide (PyData.depth (.tuple (dS zs)) ≤ 64)) = true
  rw [Bool.and_eq_true]
  refine ⟨by simp only [PyData.canLay0]; exact lay_strs h, decide_eq_true ?_⟩
  simp only [PyData.depth, depth_strs]
  decide
theorem eqvAll_strs : ∀ xs ys : List Str, PyData.eqvAll (dS xs) (dS ys) = decide (xs = ys)
  | [], [] => by simp [PyData.eqvAll, dS]
  | [], y :: ys => by simp [PyData.eqvAll, dS]
  | x :: xs, [] => by simp [PyData.eqvAll, dS]
  | x :: xs, y :: ys => by
    have ih := eqvAll_strs xs ys
    show PyData.eqvAll (PyData.str x :: dS xs) (PyData.str y :: dS ys) = _
    simp only [PyData.eqvAll, PyData.eqv, ih]
    by_cases h : x = y
    · subst h
      simp
    · have h1 : (x == y) = false := by simpa using h
      have h2 : ¬ (x :: xs = y :: ys) := fun z => h (List.cons.inj z).1
      rw [h1, decide_eq_false h2]
      rfl
theorem eqv_lists (xs ys : List Str) : PyData.eqv (.list (dS xs)) (.list (dS ys)) = decide (xs = ys) := by
  simp only [PyData.eqv]
  exact eqvAll_strs xs ys
theorem eqv_tuples (xs ys : List Str) : PyData.eqv (.tuple (dS xs)) (.tuple (dS ys)) = decide (xs = ys) := by
  simp only [PyData.eqv]
  exact eqvAll_strs xs ys
end L2

/-! comprehensions whose element and test only make objects -/
namespace L2
open PySem PySem.Spec PyProof.Rows
/-- the test answers b, the expression gives v; what was tracked stays -/
def TTo (tt : TT) (σ : St) (H : Hp) (b : Bool) : Prop := ∀ Q : Bool → Hp → Prop, (∀ H', Same H H' → Q b H') → tt σ H Q
def TEo (te : TE) (σ : St) (H : Hp) (v : V) : Prop := ∀ Q : VK, (∀ H', Same H H' → Q v H') → te σ H Q
theorem tto_yes {σ : St} {H : Hp} : TTo tYes σ H true := fun _ q => q H (Same.refl H)
theorem lc_on {α : Type} {J : It} {n : Nat} {G : Hp → Prop} {xs : List α} {h : α → V} (w : Walk J n G (YAt (xs.map h))) (hn : n = xs.length) {tt : TT} {te : TE} {i : Nat} {σ : St} {H1 : Hp} {D : Addr} {Qd : Hp → Prop} (keep : α → Bool) (F : α → V) (nD : H1 D = none)
    (hG : ∀ H, Same H1 H → G H) (hlen : xs.length < 100000)
    (ht : ∀ a ∈ xs, ∀ H, Same H1 H → TTo tt ((wipe σ [i]).set i (some (h a))) H (keep a))
    (he : ∀ a ∈ xs, keep a = true → ∀ H, Same H1 H → TEo te ((wipe σ [i]).set i (some (h a))) H (F a))
    (hd : ∀ H, Same H1 H → H D = some (.lst ((xs.filter keep).map F)) → Qd H) :
    ∃ W : Nat → Nat → Hp → Prop, (∃ m, W 0 m (upd H1 D (.lst []))) ∧ ∀ j m H, W j m H →
      (J.stop j H ∧ Qd H) ∨ (J.go j H ∧ ∃ Nx : Hp → Prop, (∀ H', Nx H' → ∃ m', m' < m ∧ W (j + 1) m' H') ∧ ∀ x H', J.yld j H x H' → gName i x (wipe σ [i]) H' fun σ2 H2 => wipe σ2 [i] = wipe σ [i] ∧ tt σ2 H2 fun b H3 =>
        if b = true then te σ2 H3 fun y H4 => ∃ acc, H4 D = some (.lst acc) ∧ acc.length < sizeLine ∧ Nx (upd H4 D (.lst (acc ++ [y]))) else Nx H3) := by
  subst hn
  refine lc_it w (fun j H => Same H1 H ∧ H D = some (.lst (((xs.take j).filter keep).map F))) ⟨same_new nD, by rw [upd_same]; rfl⟩ (fun j H _ p => hG H p.1) (fun j x H H' hj p y => ?_) fun H p => hd H p.1 (by rw [p.2, List.take_length])
  obtain ⟨s, eD⟩ := p
  obtain ⟨rfl, ex⟩ := y
  rw [List.getElem?_map, List.getElem?_eq_getElem hj] at ex
  have ex' : h xs[j] = x := Option.some.inj ex
  subst ex'
  have mem : xs[j] ∈ xs := List.getElem_mem hj
  have tk : xs.take (j + 1) = xs.take j ++ [xs[j]] := by rw [List.take_add_one, List.getElem?_eq_getElem hj]; rfl
  refine ⟨?_, ht _ mem H' s _ fun H3 s3 => ?_⟩
  · simp [wipe]
  · cases hk : keep xs[j] with
    | false =>
      refine iteF ⟨s.trans s3, ?_⟩
      rw [s3 _ _ eD, tk, List.filter_append, List.filter_cons_of_neg (by rw [hk]; exact Bool.false_ne_true), List.filter_nil, List.append_nil]
    | true =>
      refine iteT (he _ mem hk H3 (s.trans s3) _ fun H4 s4 => ⟨_, s4 _ _ (s3 _ _ eD), ?_, ?_, ?_⟩)
      · have l1 := List.length_filter_le keep (xs.take j)
        rw [List.length_map]
        rw [List.length_take] at l1
        exact Nat.lt_of_le_of_lt (show _ ≤ 100000 by omega) (by decide)
      · exact (s.trans (s3.trans s4)).mut nD
      · rw [upd_same, tk, List.filter_append, List.filter_cons_of_pos hk, List.filter_nil, List.map_append]
        rfl
theorem walk_txt {z : Str} : Walk (Its z) z.cps.toList.length (fun _ => True) (YAt (z.cps.toList.map fun c => V.str ⟨#[c]⟩)) := by
  refine ⟨fun i H hi _ => ?_, fun H _ => ?_, fun i H x H' hi _ y => ?_⟩
  · rw [Array.length_toList] at hi
    exact hi
  · show z.cps.size ≤ z.cps.toList.length
    rw [Array.length_toList]
    exact Nat.le_refl _
  · obtain ⟨e, c, hc, ex⟩ := y
    refine ⟨e, ?_⟩
    rw [List.getElem?_map, Array.getElem?_toList, hc, ex]
    rfl
theorem fil_true {α : Type} (xs : List α) : xs.filter (fun _ => true) = xs := List.filter_eq_self.mpr fun _ _ => rfl
/-- without a test -/
theorem lc_map {α : Type} {J : It} {n : Nat} {G : Hp → Prop} {xs : List α} {h : α → V} (w : Walk J n G (YAt (xs.map h))) (hn : n = xs.length) {te : TE} {i : Nat} {σ : St} {H1 : Hp} {D : Addr} {Qd : Hp → Prop} (F : α → V) (nD : H1 D = none)
    (hG : ∀ H, Same H1 H → G H) (hlen : xs.length < 100000)
    (he : ∀ a ∈ xs, ∀ H, Same H1 H → TEo te ((wipe σ [i]).set i (some (h a))) H (F a))
    (hd : ∀ H, Same H1 H → H D = some (.lst (xs.map F)) → Qd H) :
    ∃ W : Nat → Nat → Hp → Prop, (∃ m, W 0 m (upd H1 D (.lst []))) ∧ ∀ j m H, W j m H →
      (J.stop j H ∧ Qd H) ∨ (J.go j H ∧ ∃ Nx : Hp → Prop, (∀ H', Nx H' → ∃ m', m' < m ∧ W (j + 1) m' H') ∧ ∀ x H', J.yld j H x H' → gName i x (wipe σ [i]) H' fun σ2 H2 => wipe σ2 [i] = wipe σ [i] ∧ tYes σ2 H2 fun b H3 =>
        if b = true then te σ2 H3 fun y H4 => ∃ acc, H4 D = some (.lst acc) ∧ acc.length < sizeLine ∧ Nx (upd H4 D (.lst (acc ++ [y]))) else Nx H3) :=
  lc_on w hn (fun _ => true) F nD hG hlen (fun _ _ _ _ => tto_yes) (fun a ha _ H s => he a ha H s) fun H s e => hd H s (by rw [e, fil_true])
end L2

/-! the ways of a statement meet again; slices of texts -/
namespace L2
open PySem PySem.Spec PyProof.Rows
theorem ps_mid {X : Cx} {st : Stmt} {t : TS} (h : PS X st t) : PS X st (fun D σ H => ∃ J : L2.St → Hp → Prop, t { D with nx := J } σ H ∧ ∀ σ' H', J σ' H' → D.nx σ' H') := by
  refine ⟨fun pins s σ H D I ⟨J, h1, h2⟩ => thn (h.run pins s σ H { D with nx := J } I h1) fun f s1 q => ?_⟩
  cases f with
  | next =>
    obtain ⟨σ', H', I', q⟩ := q
    exact ⟨σ', H', I', h2 _ _ q⟩
  | _ => exact q
theorem cut_txt (zs : List Str) (lo hi : Option Int) : ∃ ys : List Str, cutV (zs.map V.str) lo hi = ys.map V.str ∧ (∀ y ∈ ys, y ∈ zs) ∧ ys.length ≤ zs.length := by
  unfold cutV
  refine ⟨(zs.drop (HT.sIx (zs.map V.str).length 0 lo)).take (HT.sIx (zs.map V.str).length (zs.map V.str).length hi - HT.sIx (zs.map V.str).length 0 lo), by rw [List.map_take, List.map_drop], fun y hy => List.mem_of_mem_drop (List.mem_of_mem_take hy), ?_⟩
  rw [List.length_take, List.length_drop]
  omega
theorem cut_tail (xs : List V) : cutV xs (some 1) none = xs.drop 1 := by
  unfold cutV
  have e : HT.sIx xs.length 0 (some 1) = min 1 xs.length := HT.sIx_nat xs.length 0 1
  rw [e, HT.sIx_none]
  cases xs with
  | nil => rfl
  | cons x xs =>
    have e1 : min 1 (x :: xs).length = 1 := by rw [List.length_cons]; omega
    rw [e1]
    refine List.take_of_length_le ?_
    rw [List.length_drop]
    exact Nat.le_refl _
theorem Same.sql {K : PySem.W.Frag} {H H' : Hp} {a : Addr} {xs : List V} (e : Same H H') (h : SqL K H a xs) : SqL K H' a xs := by
  rcases h with (h | ⟨o, h⟩) | h
  · exact .inl (.inl (e _ _ h))
  · exact .inl (.inr ⟨o, e _ _ h⟩)
  · exact .inr h
/-- a list of names != [] -/
theorem ne_nil {K : PySem.W.Frag} {H : Hp} {p : Addr} {zs : List Str} {R : VK} (hp : SqL K H p (zs.map V.str)) (nz : ∀ z ∈ zs, nameB z = true) (h : ∀ H', Same H H' → R (.bl (!decide (zs = []))) H') :
    0 ≤ sizeLine ∧ ∀ t, H t = none → rNeD K (.ref p) (.ref t) (upd H t (.lst [])) R := by
  refine ⟨Nat.zero_le _, fun t nt => ⟨.list (dS zs), .list (dS []), dp_list ((same_new nt).sql hp), dp_list (zs := []) (lst_of upd_same), shaped_list nz, shaped_list (zs := []) (by intro z hz; cases hz), ?_⟩⟩
  rw [eqv_lists]
  exact h _ (same_new nt)
theorem eq_nil {K : PySem.W.Frag} {H : Hp} {p : Addr} {zs : List Str} {R : VK} (hp : SqL K H p (zs.map V.str)) (nz : ∀ z ∈ zs, nameB z = true) (h : ∀ H', Same H H' → R (.bl (decide (zs = []))) H') :
    0 ≤ sizeLine ∧ ∀ t, H t = none → rEqD K (.ref p) (.ref t) (upd H t (.lst [])) R := by
  refine ⟨Nat.zero_le _, fun t nt => ⟨.list (dS zs), .list (dS []), dp_list ((same_new nt).sql hp), dp_list (zs := []) (lst_of upd_same), shaped_list nz, shaped_list (zs := []) (by intro z hz; cases hz), ?_⟩⟩
  rw [eqv_lists]
  exact h _ (same_new nt)
end L2

/-! own binary operators, o.m() by a raw promise, a statement that is not reached -/
namespace L2
open PySem PySem.Spec PyProof.Rows
section
variable {X : Cx} {CX : CXT} {k : Nat} {f C : Addr} {sp : Sp} {E : XK}
/-- a | b, a & b of two instances of one class -/
def rBinO (C : Addr) (sp : Sp) (E : XK) : R2 := fun x y H Q => ∃ a dx fs b dy fy, x = .ref a ∧ y = .ref b ∧ H a = some (.ins C dx fs) ∧ H b = some (.ins C dy fy) ∧ sp [.ref a, .ref b] H (fun v H' => ∃ z, v = .ref z ∧ Q (.ref z) H') E
theorem op_binO {op : Operator} (hs : PySem.W.findIn X.K (.ref C) (PySem.dunder op.info.2) = some (some (.ref f))) (hf : PySem.W.isFn X.K (.ref f) = true) (hc : PySem.W.selfFirst X.K C = true) (F : FnR X.prog X.w X.K X.mg X.base CX k f sp) (hr : Room k X.A) (hx : Passes CX X E) : OpR X (binaryOp op) (rBinO C sp E) := by
  intro pins s σ H x y u v Q I rx ry h
  obtain ⟨a, dx, fs, b, dy, fy, rfl, rfl, ha, hb, h⟩ := h
  cases rx
  cases ry
  obtain ⟨ox, od, J⟩ := ins_at I ha
  obtain ⟨oy, od', J'⟩ := ins_at I hb
  obtain ⟨m, hF⟩ := I.fr
  refine PySem.W.binop_K hF I.ok.mod.kin J J'.type hc hs hf (wpAny_mono (run_sub F (sub0 hr) hx I (vs := [.ref a, .ref b]) (.cons rfl (.cons rfl .nil)) h) (fun v s' q => ?_) fun _ _ z => z)
  obtain ⟨v', H', I', rv, z, rfl, q⟩ := q
  cases rv
  exact ⟨.ref z, H', I', rfl, q⟩
theorem pe_methR0 {m : Str} {o : Expr} {ta : TE} {apos pos : Pos} {pl : Sem Bool} (he : PE X o ta) (c : Cls X.K C) (hm : Meth X.K C m f)
    (F : FnR X.prog X.w X.K X.mg X.base CX k f sp) (hr : Room k X.A) (hx : Passes CX X E)
    (ht : eval (.Call (.Attribute o m apos) [] [] pos) X.env = (do
      let ov ← eval o X.env
      standAt apos.atName
      let (f, first) ← holding [ov] (getMethod ov m pl)
      callWith pos f first (backTo pos (starEach [] X.env)) (backToKw pos (keywordEach [] X.env))) := by rfl) :
    PE X (.Call (.Attribute o m apos) [] [] pos) (tMethR C m sp E ta tNil) := by
  refine ⟨fun pins s σ H Q I h => ?_⟩
  refine PySem.W.methodCall_KW (pl := pl) (thn (he.run pins s σ H _ I h) fun u s1 ⟨x, H1, I1, rx, a, dx, fs, ex, ea, l, q⟩ => ?_) ht
  subst ex
  obtain rfl : u = Value.ref a := rx
  refine getmeth_ok I1 ea c hm l ?_
  exact PySem.W.callWith_K0 (first := [.ref a]) I1.kIn hm.kp (wpAny_call (run_fnR (us := [.ref a]) (vs := [.ref a]) F hr hx I1 (.cons rfl .nil) q))
theorem ps_off {st : Stmt} : PS X st (fun _ _ _ => False) := ⟨fun _ _ _ _ _ _ h => h.elim⟩
end
end L2

/-! x in a tuple of texts, whatever x is -/
namespace PySem
namespace TfI
open SeqAt MeetsSeq
section
variable {A : Around} {s : Shared}
theorem str_eq_dict (b : Str) (u : Tok) (l : Addr) (o : Obj) (es : Array DictEntry) (ep : Nat) (hc : o.cls = .type "dict") (hd : o.data = .dict es ep) :
    Meets (Builtin.«str.__eq__» ⟨[.str b u, .ref l], []⟩) (fun _ R s => s.heap.get? l = some o ∧ R (.ok (.ret .notImplemented)) s) :=
  .of_wp fun prog w A R s h => by
    obtain ⟨hp, g, d, tk, os⟩ := s
    obtain ⟨hl, h⟩ := h
    obtain ⟨oc, od, dt, sl⟩ := o
    simp only at hc hd
    subst hc
    subst hd
    have hsd := F.sub_str_dict
    wp_walk using wpAny_loadPart' hl, wpAny_load hl
    exact ⟨_, rfl, h⟩
theorem dict_eq_str (b : Str) (u : Tok) (l : Addr) (o : Obj) (es : Array DictEntry) (ep : Nat) (hc : o.cls = .type "dict") (hd : o.data = .dict es ep) :
    Meets (Builtin.«dict.__eq__» ⟨[.ref l, .str b u], []⟩) (fun _ R s => s.heap.get? l = some o ∧ R (.ok (.ret .notImplemented)) s) :=
  .of_wp fun prog w A R s h => by
    obtain ⟨hp, g, d, tk, os⟩ := s
    obtain ⟨hl, h⟩ := h
    obtain ⟨oc, od, dt, sl⟩ := o
    simp only at hc hd
    subst hc
    subst hd
    have hsd := F.sub_str_dict
    wp_walk using wpAny_loadPart' hl, wpAny_load hl
    exact ⟨_, rfl, h⟩
theorem eq_str_dict {l : Addr} {o : Obj} (b : Str) (u : Tok) {es : Array DictEntry} {ep : Nat} (ho : s.heap.get? l = some o) (hc : o.cls = .type "dict") (hd : o.data = .dict es ep) (hu : A.units < cLine) : EqAt A s (.str b u) (.ref l) false := fun prog w E Q h => by
  unfold eqBool
  refine wpAny_holding ?_
  refine wpAny_ite_split (fun hab => absurd (eq_of_beq hab) nofun) (fun _ => ?_)
  refine wpAny_bind ?_
  exact rc_eq_decline_or (k := false) (typeIs_str s b u) ⟨_, ho, hc⟩ (by decide) F.sub_dict_str F.slot_str_eq F.slot_dict_eq_refl
    (fun _ hq => call_meets F.slot_str_eq (typeIs_str s b u) F.entry_str_eq (F.args_str_eq_2 _ _) (str_eq_dict b u l o es ep hc hd) ⟨ho, hq⟩)
    (fun _ hq => call_meets F.slot_dict_eq_refl ⟨_, ho, hc⟩ F.entry_dict_eq (F.args_dict_eq_2 _ _) (dict_eq_str b u l o es ep hc hd) ⟨ho, hq⟩)
    (fun _ hq => wpAny_of_eq (rfl : isSame (.str b u) (.ref l) = pure false) hq) (.inr hu) (wpAny_truthy_bool h)
end
end TfI
end PySem
namespace L2
open PySem PySem.Spec PyProof.Rows
/-- a list, a tuple, a dict -/
def Box (K : PySem.W.Frag) (H : Hp) (x : V) : Prop := ∃ a : Addr, x = .ref a ∧ ((∃ xs, SqL K H a xs) ∨ (∃ xs, SqT K H a xs) ∨ ∃ kvs, H a = some (.dK kvs))
section
variable {X : Cx}
theorem eq_str_box {pins : List (Addr × Obj)} {σ : St} {H : Hp} {s : Shared} {x : V} {v : Value} {b : Str} {u : Tok} {A : Around} (I : Inv X pins σ H s) (h : Box X.K H x) (r : RelV x v) (hu : A.units < cLine) : SeqAt.EqAt A s (.str b u) v false := by
  obtain ⟨a, rfl, h⟩ := h
  cases r
  rcases h with ⟨xs, h⟩ | ⟨xs, h⟩ | ⟨kvs, h⟩
  · obtain ⟨its, _, pl, _⟩ := I.list h
    exact SeqAt.EqAt.str_list b u pl.isList hu
  · obtain ⟨its, _, pl, _⟩ := I.tuple h
    exact SeqAt.EqAt.str_tuple b u pl hu
  · obtain ⟨_, _, vs, _, o, es, ep, h1, h2, h3, _⟩ := (show ObjOk X.prog X.w H s.heap a (.dK kvs) from I.hok a _ h)
    exact PySem.TfI.eq_str_dict b u h1 h2.1 h3 hu
/-- x in (texts): x a list, a tuple, a dict -/
def rInB (K : PySem.W.Frag) (neg : Bool) : R2 := fun x y H Q => ∃ (p : Addr) (zs : List Str), y = .ref p ∧ (SqL K H p (zs.map V.str) ∨ SqT K H p (zs.map V.str)) ∧ Box K H x ∧ Q (.bl neg) H
/-- .. x anything of these -/
def rInX (K : PySem.W.Frag) (neg : Bool) : R2 := fun x y H Q => rIn K neg x y H Q ∨ rInB K neg x y H Q
theorem box_items {pins : List (Addr × Obj)} {σ : St} {H : Hp} {s : Shared} {x : V} {v : Value} {A : Around} (I : Inv X pins σ H s) (h : Box X.K H x) (r : RelV x v) (hu : A.units < cLine) : ∀ {zs : List Str} {its : List Value}, Vals (zs.map V.str) its → ∀ y ∈ its, SeqAt.EqAt A s y v false
  | [], _, .nil, y, hy => by cases hy
  | z :: zs, _, .cons rz rs, y, hy => by
    rcases List.mem_cons.mp hy with rfl | hy
    · obtain ⟨t, rfl⟩ := rz
      exact eq_str_box I h r hu
    · exact box_items I h r hu rs y hy
theorem op_inX (hu : X.A.units + 1 < cLine) : OpR X (compareOp .In) (rInX X.K false) := by
  intro pins s σ H x y v u Q I rx ry h
  rcases h with h | h
  · exact op_in_seq pins s σ H x y v u Q I rx ry h
  · obtain ⟨p, zs, rfl, hq, hb, q⟩ := h
    cases ry
    rcases hq with hq | hq
    · obtain ⟨its, r, pl, hz⟩ := I.list hq
      refine SeqAt.in_listAt (fun _ => false) pl.isList (fun w hw => box_items I hb rx hu r w (by simpa using hw)) ⟨.bl _, H, I, rfl, ?_⟩
      rw [show its.toArray.any (fun _ => false) = false by simp]
      exact q
    · obtain ⟨its, r, pl, hz⟩ := I.tuple hq
      refine SeqAt.in_tupleAt (fun _ => false) pl (fun w hw => box_items I hb rx hu r w (by simpa using hw)) ⟨.bl _, H, I, rfl, ?_⟩
      rw [show its.toArray.any (fun _ => false) = false by simp]
      exact q
end
end L2

/-! sets of texts: set(xs), sorted(set(xs)), len(set(xs)) -/
namespace L2
open PySem PySem.Spec PyProof.Rows
abbrev newSetO (w : World) : Obj := { cls := .type "set", dict := none, data := .set #[] 0 (.fresh 0 0 (!w.params.followText "set-order")) }
def txtOf (e : Int × Value) : Str := match e.2 with | .str x _ => x | _ => Str.empty
def TxtE (w : World) (e : Int × Value) : Prop := ∃ x tk, e.2 = Value.str x tk ∧ e.1 = hashStr w x
/-- the set of texts at a: its members are L, in some order -/
def SetS (w : World) (h : Heap) (a : Addr) (L : List Str) : Prop :=
  ∃ o es ep t, h.get? a = some o ∧ o.ExactSet ∧ o.data = .set es ep t ∧ (∀ e ∈ es.toList, TxtE w e) ∧ (es.toList.map txtOf).Perm L ∧ L.Nodup ∧
    es.size < scanBound ∧ t.fits es.size = true ∧ Ris t.place.toList ∧ (w.params.followText "set-order" = true ∨ t.led = true)
section
variable {P : Program} {w : World} {h h' : Heap} {a : Addr} {L : List Str}
theorem SetS.at (R : SetS w h a L) (k : ∀ o, h.get? a = some o → h'.get? a = some o) : SetS w h' a L := by
  obtain ⟨o, es, ep, t, ho, r⟩ := R
  exact ⟨o, es, ep, t, k o ho, r⟩
theorem txt_elems {l : List (Int × Value)} (g : ∀ e ∈ l, TxtE w e) : ElemsOf (PySem.strKind P w) l := fun e he => by
  obtain ⟨k, tk, h1, h2⟩ := g e he
  exact ⟨⟨k, by rw [h1]; exact strKind_is P w k tk, h2⟩, by rw [h1] <;> rfl⟩
theorem txt_is {e : Int × Value} (g : TxtE w e) (k : Str) : (PySem.strKind P w).is k e.2 = true ↔ txtOf e = k := by
  obtain ⟨k0, tk, h1, _⟩ := g
  unfold txtOf
  rw [h1]
  constructor
  · intro z
    obtain ⟨t, e⟩ := Value.isStrOf_shape (show Value.isStrOf k (.str k0 tk) = true from z)
    injection e
  · intro z
    show (PySem.strKind P w).is k (.str k0 tk) = true
    have z' : k0 = k := z
    rw [z']
    exact strKind_is P w k tk
theorem setS_fresh (w : World) {h : Heap} (ho : h.get? a = some (newSetO w)) : SetS w h a [] :=
  ⟨_, #[], 0, _, ho, ⟨rfl, rfl, rfl⟩, rfl, (fun e he => by simp at he), List.Perm.nil, List.nodup_nil, (by decide), (by rfl), List.Pairwise.nil, by
    show _ ∨ (!w.params.followText "set-order") = true
    cases w.params.followText "set-order"
    · exact .inr rfl
    · exact .inl rfl⟩
end
section
variable {P : Program} {w : World} {A : Around} {E : Value → Shared → Prop} {s : Shared} {a : Addr} {L : List Str}
theorem setS_tail {g : Bool → Sem Unit} (hg : ∀ (b : Bool) (s₁ : Shared) (Q' : Unit → Shared → Prop), Q' () s₁ → wpAny (model P w) A (g b) Q' E s₁)
    {o : Obj} {es : Array (Int × Value)} {ep : Nat} {t : SetTable} (ho : s.heap.get? a = some o) (hex : o.ExactSet) (hd : o.data = .set es ep t)
    {es1 : Array (Int × Value)} {t2 : SetTable} (g1 : ∀ e ∈ es1.toList, TxtE w e) (p1 : (es1.toList.map txtOf).Perm L) (nd : L.Nodup)
    (hb1 : es1.size < scanBound) (hf2 : t2.fits es1.size = true) (hr : Ris t2.place.toList) (hl : w.params.followText "set-order" = true ∨ t2.led = true) {wasDummy : Bool} {R : Option Bool → Shared → Prop}
    (hR : ∀ h', Heap.SameBut a s.heap h' → SetS w h' a L → R (some true) { s with heap := h' }) :
    wpAny (model P w) A (do
        storeSet a es1 t2
        if (!wasDummy && t2.tooFull) = true then do
            g (relayAll t2 es1 (SetTable.grown es1.size)).2.2
            storeSet a (relayAll t2 es1 (SetTable.grown es1.size)).1 (relayAll t2 es1 (SetTable.grown es1.size)).2.1
            pure (some true)
          else pure (some true)) R E s := by
  refine wpAny_bind (wpAny_storeSet_of ho hd ?_ (fits_of_scanBound hb1))
  have o1 := store_at (es' := es1) (t' := t2) ho hd
  have b1 := Heap.SameBut.update s.heap a (Obj.putSet es1 t2)
  split
  · have q1 := relayAll_perm t2 es1 (SetTable.grown es1.size)
    have q2 := relayAll_fits t2 es1 (SetTable.grown es1.size)
    have q3 := relayAll_ris t2 es1 (SetTable.grown es1.size)
    have q4 := relayAll_led t2 es1 (SetTable.grown es1.size)
    generalize relayAll t2 es1 (SetTable.grown es1.size) = Z at q1 q2 q3 q4 ⊢
    obtain ⟨es2, t3, gave⟩ := Z
    dsimp only at q1 q2 q3 q4 ⊢
    have sz : es2.size = es1.size := by rw [← Array.length_toList, q1.length_eq, Array.length_toList]
    have hb2 : es2.size < scanBound := by rw [sz]; exact hb1
    refine wpAny_bind (hg _ _ _ (wpAny_bind (wpAny_storeSet_of o1 rfl ?_ (fits_of_scanBound hb2))))
    have o2 := store_at (es' := es2) (t' := t3) o1 rfl
    refine wpAny_pure (hR _ (b1.trans (Heap.SameBut.update _ a _)) ⟨_, es2, _, t3, o2, hex, rfl, fun e he => g1 e (q1.mem_iff.mp he), (q1.map txtOf).trans p1, nd, hb2, q2, q3, ?_⟩)
    rcases hl with z | z
    · exact .inl z
    · exact .inr (by rw [q4]; exact z)
  · exact wpAny_pure (hR _ b1 ⟨_, es1, _, t2, o1, hex, rfl, g1, p1, nd, hb1, hf2, hr, hl⟩)
/-- one text more -/
theorem setS_add {x : Str} {tk : Tok} {Q : Bool → Shared → Prop} (R : SetS w s.heap a L) (room : L.length + 1 < scanBound)
    (hQ : ∀ h' b, Heap.SameBut a s.heap h' → SetS w h' a (if x ∈ L then L else L ++ [x]) → Q b { s with heap := h' }) :
    wpAny (model P w) A (setAddHashed a (.str x tk) ((PySem.strKind P w).hash x)) Q E s := by
  obtain ⟨o, es, ep, t, ho, hex, hd, g, pl, nd, hb, hf, hr, hl⟩ := R
  have key : (PySem.strKind P w).is x (.str x tk) = true := strKind_is P w x tk
  have sc : (Value.str x tk).scannable = true := rfl
  have el : ElemsOf (PySem.strKind P w) es.toList := txt_elems g
  have len : es.size = L.length := by
    have z := pl.length_eq
    rw [List.length_map, Array.length_toList] at z
    exact z
  unfold setAddHashed setAddHashedIn
  refine wpAny_holding (wpAny_bind (wpAny_setState_of ho hd hf ?_))
  dsimp only
  rw [byScan_of sc hb el]
  simp only [↓reduceIte]
  unfold setAddByScan
  refine wpAny_bind (wpAny_bind (wpAny_rule (wpAny_bind (wpAny_setScan_of key ho hd hf el ?_))))
  cases fi : List.findIdx? (fun e => (PySem.strKind P w).is x e.2) es.toList with
  | some j =>
    dsimp only
    obtain ⟨hj, pj, _⟩ := List.findIdx?_eq_some_iff_getElem.mp fi
    have mem : x ∈ L := pl.mem_iff.mp (List.mem_map.mpr ⟨es.toList[j], List.getElem_mem hj, (txt_is (P := P) (g _ (List.getElem_mem hj)) x).mp pj⟩)
    refine wpAny_pure (wpAny_pure (hQ s.heap _ (Heap.SameBut.refl a s.heap) ?_))
    rw [if_pos mem]
    exact ⟨o, es, ep, t, ho, hex, hd, g, pl, nd, hb, hf, hr, hl⟩
  | none =>
    dsimp only
    have nmem : x ∉ L := fun z => by
      obtain ⟨e, he, q⟩ := List.mem_map.mp (pl.mem_iff.mpr z)
      have c := List.findIdx?_eq_none_iff.mp fi e he
      rw [(txt_is (P := P) (g e he) x).mpr q] at c
      cases c
    have gw : ∀ (b : Bool) {s₁ : Shared} {Q' : Unit → Shared → Prop}, Q' () s₁ → wpAny (model P w) A (match b with | true => rule "set.scan.the-table-gave-way" | false => pure ()) Q' E s₁ :=
      fun b s₁ Q' q => by cases b <;> first | exact wpAny_pure q | exact wpAny_rule q
    have z1 := layNew_perm t es ((PySem.strKind P w).hash x) (.str x tk)
    have z2 := layNew_fits t es ((PySem.strKind P w).hash x) (.str x tk)
    have z3 := layNew_ris t es ((PySem.strKind P w).hash x) (.str x tk) hr
    have z4 := layNew_led t es ((PySem.strKind P w).hash x) (.str x tk)
    generalize layNew t es ((PySem.strKind P w).hash x) (.str x tk) = Z at z1 z2 z3 z4 ⊢
    obtain ⟨es1, t1, wasDummy, gave⟩ := Z
    dsimp only at z1 z2 z3 z4 ⊢
    rw [Array.toList_push] at z1
    have pk : (es1.toList.map txtOf).Perm (L ++ [x]) := by
      have q := z1.map txtOf
      rw [List.map_append] at q
      exact q.trans (pl.append_right _)
    have g1 : ∀ e ∈ es1.toList, TxtE w e := fun e he => by
      rcases List.mem_append.mp (z1.mem_iff.mp he) with z | z
      · exact g e z
      · rw [List.mem_singleton.mp z]; exact ⟨x, tk, rfl, rfl⟩
    have nd1 : (L ++ [x]).Nodup := List.nodup_append.mpr ⟨nd, List.nodup_cons.mpr ⟨by simp, List.nodup_nil⟩, fun y hy y' hy' e => nmem (by rw [← List.mem_singleton.mp hy', ← e]; exact hy)⟩
    have sz : es1.size = L.length + 1 := by
      have z := pk.length_eq
      rw [List.length_map, Array.length_toList, List.length_append] at z
      exact z
    have hb1 : es1.size < scanBound := by rw [sz]; exact room
    have led : w.params.followText "set-order" = true ∨ t1.led = true := by
      rcases hl with z | z
      · exact .inl z
      · exact .inr (by rw [z4]; exact z)
    have fin : ∀ h', Heap.SameBut a s.heap h' → SetS w h' a (L ++ [x]) → Q true { s with heap := h' } := fun h' sb r => hQ h' true sb (by rw [if_neg nmem]; exact r)
    refine wpAny_bind (gw _ ?_)
    split
    · refine wpAny_bind ?_
      rw [hashByValue_scannable 8 sc]
      refine wpAny_pure (setS_tail ?_ ho hex hd g1 pk nd1 hb1 ?_ ?_ ?_ ?_)
      · intro b s₁ Q' q; cases b <;> first | exact wpAny_pure q | exact wpAny_rule q
      · first | (split <;> first | exact z2 | exact SetTable.fits_plain_off z2) | exact z2
      · first | (split <;> exact z3) | exact z3
      · first | (split <;> exact led) | exact led
      · intro h' sb r; dsimp only; exact wpAny_pure (fin h' sb r)
    · refine wpAny_bind (wpAny_pure ?_)
      simp only [↓reduceIte]
      refine setS_tail ?_ ho hex hd g1 pk nd1 hb1 z2 z3 led ?_
      · intro b s₁ Q' q; cases b <;> first | exact wpAny_pure q | exact wpAny_rule q
      · intro h' sb r; dsimp only; exact wpAny_pure (fin h' sb r)
end
/-- the texts in the order in which they are first met -/
def firsts (xs : List Str) : List Str := xs.foldl (fun L x => if x ∈ L then L else L ++ [x]) []
theorem firsts_snoc (xs : List Str) (x : Str) : firsts (xs ++ [x]) = if x ∈ firsts xs then firsts xs else firsts xs ++ [x] := by
  unfold firsts
  rw [List.foldl_append]
  rfl
theorem firsts_len (xs : List Str) : (firsts xs).length ≤ xs.length := by
  have gen : ∀ (ys : List Str) (L : List Str), (ys.foldl (fun L x => if x ∈ L then L else L ++ [x]) L).length ≤ L.length + ys.length := by
    intro ys
    induction ys with
    | nil => intro L; exact Nat.le_refl _
    | cons y ys ih =>
      intro L
      refine Nat.le_trans (ih _) ?_
      rw [List.length_cons]
      show (if y ∈ L then L else L ++ [y]).length + _ ≤ _
      split
      · omega
      · rw [List.length_append, List.length_singleton]; omega
  exact Nat.le_trans (gen xs []) (by simp)
section
variable {P : Program} {w : World} {A : Around} {E : Value → Shared → Prop} {s : Shared}
/-- the loop of set.update over texts -/
theorem setS_loop {I : Addr} {fp wr : List Addr} {G : Array GenState → Array GenState → Prop} {n : Nat} {Pv : Nat → Value → Prop} {St : Nat → Shared → Prop} {R : Result → Shared → Prop}
    (W : WalksS P w A.in1 I fp wr G n Pv St) (S : Addr) (hSf : S ∉ fp) (xs : List Str) (hn : n = xs.length) (few : xs.length + 1 < scanBound) (hval : ∀ i v, Pv i v → ∃ x t, xs[i]? = some x ∧ v = .str x t) :
    ∀ (k i : Nat) (s : Shared), n - i = k → i ≤ n → St i s → SetS w s.heap S (firsts (xs.take i)) →
      (∀ s', Moved (S :: wr) G s s' → SetS w s'.heap S (firsts xs) → R (.ok (.ret .none)) s') →
      codeAny (model P w) A (.builtin "set.update.loop" ⟨[.ref S, .ref I], []⟩) R s := by
  have hSw : S ∉ wr := fun h => hSf (W.sub _ h)
  have wid : ∀ b ∈ wr, b ∈ S :: wr := fun b hb => List.mem_cons_of_mem _ hb
  intro k
  induction k with
  | zero =>
    intro i s hk hi hst hS hR
    have e : i = n := by omega
    subst e
    rw [hn, List.take_length] at hS
    refine codeAny_builtin F.entry_set_update_loop ?_
    rw [Around.under_plainId F.plain_set_update_loop _]
    show wpAny _ A.in1 (pyNext (.ref I) >>= _) _ _ s
    refine wpAny_bind (W.done s _ _ hst fun s' hm => ?_)
    exact wpAny_pure (hR s' (hm.mono wid) (hS.at fun o e => hm.heap S o hSw e))
  | succ k ih =>
    intro i s hk hi hst hS hR
    have lt : i < n := by omega
    refine codeAny_builtin F.entry_set_update_loop ?_
    rw [Around.under_plainId F.plain_set_update_loop _]
    show wpAny _ A.in1 (pyNext (.ref I) >>= _) _ _ s
    refine wpAny_bind (W.item i s _ _ lt hst fun v s' hP hst' hm => ?_)
    obtain ⟨x, t, hx, rfl⟩ := hval i v hP
    have hS' : SetS w s'.heap S (firsts (xs.take i)) := hS.at fun o e => hm.heap S o hSw e
    have tk : xs.take (i + 1) = xs.take i ++ [x] := by rw [List.take_add_one, hx]; rfl
    show wpAny _ A.in1 (holding [Value.str x t] (setAdd S (.str x t)) >>= _) _ _ s'
    refine wpAny_bind (wpAny_holding ?_)
    unfold setAdd
    refine wpAny_holding (wpAny_bind ((PySem.strKind P w).pyHash (strKind_is P w x t) ?_))
    have fl := firsts_len (xs.take i)
    rw [List.length_take] at fl
    refine setS_add (s := { s' with toks := s'.toks + 1 }) hS' (by omega) fun h' b sb r => ?_
    rw [← firsts_snoc, ← tk] at r
    refine wpAny_pure ⟨plainId_quiet F.plain_set_update_loop _, ih (i + 1) _ (by omega) lt (W.frame _ s' _ _ hst' (Nat.le_succ _) fun b hb o e => ?_) r fun s'' hm'' hS'' => ?_⟩
    · rw [sb.2 b (fun h : b = S => hSf (by rw [← h]; exact hb))]; exact e
    · refine hR s'' (Moved.trans W.gtrans ((hm.mono wid).then_heap (Nat.le_succ _) fun b o hb e => ?_) hm'') hS''
      rw [sb.2 b (fun h : b = S => hb (by rw [h]; exact List.mem_cons_self))]; exact e
end
section
variable {P : Program} {w : World} {A : Around} {E : Value → Shared → Prop} {s : Shared}
set_option maxHeartbeats 8000000 in
/-- set(xs), xs a list of texts -/
theorem setS_list {l : Addr} {items : Array Value} {xs : List Str} {Q : Value → Shared → Prop} (hh : A.handled = none) (hl : s.heap.IsList l items) (hv : ∀ (i : Nat) (v : Value), items[i]? = some v → ∃ x t, xs[i]? = some x ∧ v = .str x t) (hz : items.size = xs.length) (few : xs.length + 1 < scanBound)
    (h : ∀ (h' : Heap) (tk : Nat), SetS w h' s.heap.objs.size (firsts xs) → (∀ b o, s.heap.get? b = some o → h'.get? b = some o) → Q (.ref s.heap.objs.size) { s with heap := h', toks := tk }) :
    wpAny (model P w) A (call (.type "set") [.ref l]) Q E s := by
  obtain ⟨c, tl, hmro⟩ := F.called_set.mro
  have hmade := F.called_set.made
  have hsub := F.called_set.sub
  refine wpAny_call (codeAny_of_tree ?_)
  show wpAny _ _ (callAny (.type "set") _) _ _ _
  refine wpAny_pure ⟨Code.quiet_builtin _ (by decide +kernel), codeAny_builtin F.entry_type_call ?_⟩
  rw [Around.under_plain (weight_type_call_type "set" [.ref l] []) rfl]
  have h1 := F.called_set.notType
  have h2 := F.called_set.canCreate
  have hct := F.typeCall_set_1 (.ref l)
  repeat (any_goals (first | assumption | wp_step))
  refine codeAny_mono (code_set_led1 (.ref l) (E := E) (Q₁ := fun obj s₁ => obj = .ref s.heap.objs.size ∧ s₁ = { s with heap := s.heap.push (newSetO w) }) ⟨rfl, rfl⟩) fun r s₁ hr => ?_
  cases r with
  | error e => exact hr
  | ok fl =>
    cases fl with
    | ret obj =>
      obtain ⟨rfl, rfl⟩ := hr
      have hS : (s.heap.push (newSetO w)).get? s.heap.objs.size = some (newSetO w) := Heap.get?_push_size _ rfl
      have hT : Shared.TypeIs { s with heap := s.heap.push (newSetO w) } (.ref s.heap.objs.size) "set" := ⟨_, hS, rfl⟩
      have hli := F.called_set.init.lookup
      have hbi := F.called_set.init.bind (.ref s.heap.objs.size)
      repeat (any_goals (first | assumption | wp_step))
      refine codeAny_mono (codeAny_call_builtin (R := wants (fun r s₂ => r = .none ∧ ∃ h' tk, s₂ = { s with heap := h', toks := tk } ∧ SetS w h' s.heap.objs.size (firsts xs) ∧ (∀ b o, s.heap.get? b = some o → h'.get? b = some o)) E) F.called_set.init.plain F.entry_set_init (check_set_init_1 hT ?_)) fun r₂ s₂ hr₂ => ?_
      · obtain ⟨ol, hol, hcl, nl, hdl⟩ := hl
        obtain ⟨ocls, odict, odata, oslots⟩ := ol
        simp only at hcl hdl
        subst hcl; subst hdl
        have hol' : (s.heap.push (newSetO w)).get? l = some { cls := .type "list", dict := odict, data := .seq items nl, slots := oslots } := Heap.get?_push_of_some _ hol
        have hsls := F.sub_list_set
        have hslf := F.sub_list_frozenset
        have hne : (Value.type "list" == Value.type "dict") = false := by decide
        have hl1 : (s.heap.push (newSetO w)).IsList l items := ⟨_, hol', rfl, nl, rfl⟩
        unfold Builtin.«set.__init__» noKeywords Builtin.Frozenset.updateFrom
        generalize hPI : pyIter = PI
        wp_walk
        subst hPI
        refine wpAny_pyIter_list hl1 ?_
        refine wpAny_bind (wpAny_runValue ?_)
        have lt : l < s.heap.objs.size := Heap.lt_size hol
        have hh3 : A.in1.in1.in1.handled = none := by simp [hh]
        have sz : (s.heap.push (newSetO w)).objs.size = s.heap.objs.size + 1 := Heap.size_push ..
        have neI : l ≠ (s.heap.push (newSetO w)).objs.size := by
          rw [sz]
          exact Nat.ne_of_lt (Nat.lt_succ_of_lt lt)
        have nf : s.heap.objs.size ∉ [(s.heap.push (newSetO w)).objs.size, l] := by
          rw [sz]
          simp only [List.mem_cons, List.not_mem_nil, or_false, not_or]
          exact ⟨Nat.ne_of_lt (Nat.lt_succ_self _), Nat.ne_of_gt lt⟩
        refine setS_loop ((Walks.list hh3 _ l neI items).toS) s.heap.objs.size nf xs hz few hv (items.size - 0) 0 _ (by omega) (Nat.zero_le _) ⟨⟨_, Heap.get?_push_size _ rfl, rfl, rfl⟩, (hl1.push _)⟩ (setS_fresh w (Heap.get?_push_of_some _ hS)) ?hR
        case hR =>
          intro s' hm hS'
          obtain ⟨h', g2, d', tk', os'⟩ := s'
          have eg : g2 = s.gens := hm.gens
          have ed : d' = s.drawn := hm.drawn
          have eo : os' = s.os := hm.os
          subst eg; subst ed; subst eo
          show wpAny _ _ _ _ _ _
          refine wpAny_pure ?_
          show wpAny _ _ (ret Value.none) _ _ _
          refine wpAny_pure ⟨rfl, h', tk', rfl, hS', fun b o e => ?_⟩
          have lb := Heap.lt_size e
          refine hm.heap b o (fun z => ?_) (Heap.get?_push_of_some _ (Heap.get?_push_of_some _ e))
          rw [sz] at z
          simp only [List.mem_cons, List.not_mem_nil, or_false] at z
          rcases z with z | z
          · exact absurd z (Nat.ne_of_lt lb)
          · exact absurd z (Nat.ne_of_lt (Nat.lt_succ_of_lt lb))
      · cases r₂ with
        | error e => exact hr₂
        | ok fl₂ =>
          cases fl₂ with
          | ret r =>
            obtain ⟨rfl, h', tk, rfl, hS', hk'⟩ := hr₂
            repeat (any_goals (first | assumption | wp_step))
            exact h _ _ hS' hk'
          | _ => exact hr₂.elim
    | _ => exact hr.elim
set_option maxHeartbeats 8000000 in
/-- set(xs), xs a tuple of texts -/
theorem setS_tuple {l : Addr} {items : Array Value} {xs : List Str} {Q : Value → Shared → Prop} (hh : A.handled = none) (hl : s.heap.IsTuple l items) (hv : ∀ (i : Nat) (v : Value), items[i]? = some v → ∃ x t, xs[i]? = some x ∧ v = .str x t) (hz : items.size = xs.length) (few : xs.length + 1 < scanBound)
    (h : ∀ (h' : Heap) (tk : Nat), SetS w h' s.heap.objs.size (firsts xs) → (∀ b o, s.heap.get? b = some o → h'.get? b = some o) → Q (.ref s.heap.objs.size) { s with heap := h', toks := tk }) :
    wpAny (model P w) A (call (.type "set") [.ref l]) Q E s := by
  obtain ⟨c, tl, hmro⟩ := F.called_set.mro
  have hmade := F.called_set.made
  have hsub := F.called_set.sub
  refine wpAny_call (codeAny_of_tree ?_)
  show wpAny _ _ (callAny (.type "set") _) _ _ _
  refine wpAny_pure ⟨Code.quiet_builtin _ (by decide +kernel), codeAny_builtin F.entry_type_call ?_⟩
  rw [Around.under_plain (weight_type_call_type "set" [.ref l] []) rfl]
  have h1 := F.called_set.notType
  have h2 := F.called_set.canCreate
  have hct := F.typeCall_set_1 (.ref l)
  repeat (any_goals (first | assumption | wp_step))
  refine codeAny_mono (code_set_led1 (.ref l) (E := E) (Q₁ := fun obj s₁ => obj = .ref s.heap.objs.size ∧ s₁ = { s with heap := s.heap.push (newSetO w) }) ⟨rfl, rfl⟩) fun r s₁ hr => ?_
  cases r with
  | error e => exact hr
  | ok fl =>
    cases fl with
    | ret obj =>
      obtain ⟨rfl, rfl⟩ := hr
      have hS : (s.heap.push (newSetO w)).get? s.heap.objs.size = some (newSetO w) := Heap.get?_push_size _ rfl
      have hT : Shared.TypeIs { s with heap := s.heap.push (newSetO w) } (.ref s.heap.objs.size) "set" := ⟨_, hS, rfl⟩
      have hli := F.called_set.init.lookup
      have hbi := F.called_set.init.bind (.ref s.heap.objs.size)
      repeat (any_goals (first | assumption | wp_step))
      refine codeAny_mono (codeAny_call_builtin (R := wants (fun r s₂ => r = .none ∧ ∃ h' tk, s₂ = { s with heap := h', toks := tk } ∧ SetS w h' s.heap.objs.size (firsts xs) ∧ (∀ b o, s.heap.get? b = some o → h'.get? b = some o)) E) F.called_set.init.plain F.entry_set_init (check_set_init_1 hT ?_)) fun r₂ s₂ hr₂ => ?_
      · obtain ⟨ol, hol, hcl, nl, hdl⟩ := hl
        obtain ⟨ocls, odict, odata, oslots⟩ := ol
        simp only at hcl hdl
        subst hcl; subst hdl
        have hol' : (s.heap.push (newSetO w)).get? l = some { cls := .type "tuple", dict := odict, data := .seq items nl, slots := oslots } := Heap.get?_push_of_some _ hol
        have hsls := F.sub_tuple_set
        have hslf := F.sub_tuple_frozenset
        have hne : (Value.type "tuple" == Value.type "dict") = false := by decide
        have hl1 : (s.heap.push (newSetO w)).IsTuple l items := ⟨_, hol', rfl, nl, rfl⟩
        unfold Builtin.«set.__init__» noKeywords Builtin.Frozenset.updateFrom
        generalize hPI : pyIter = PI
        wp_walk
        subst hPI
        refine wpAny_pyIter_tuple hl1 ?_
        refine wpAny_bind (wpAny_runValue ?_)
        have lt : l < s.heap.objs.size := Heap.lt_size hol
        have hh3 : A.in1.in1.in1.handled = none := by simp [hh]
        have sz : (s.heap.push (newSetO w)).objs.size = s.heap.objs.size + 1 := Heap.size_push ..
        have neI : l ≠ (s.heap.push (newSetO w)).objs.size := by
          rw [sz]
          exact Nat.ne_of_lt (Nat.lt_succ_of_lt lt)
        have nf : s.heap.objs.size ∉ [(s.heap.push (newSetO w)).objs.size, l] := by
          rw [sz]
          simp only [List.mem_cons, List.not_mem_nil, or_false, not_or]
          exact ⟨Nat.ne_of_lt (Nat.lt_succ_self _), Nat.ne_of_gt lt⟩
        refine setS_loop ((Walks.tuple hh3 _ l neI items).toS) s.heap.objs.size nf xs hz few hv (items.size - 0) 0 _ (by omega) (Nat.zero_le _) ⟨⟨_, Heap.get?_push_size _ rfl, rfl, rfl⟩, (hl1.push _)⟩ (setS_fresh w (Heap.get?_push_of_some _ hS)) ?hR
        case hR =>
          intro s' hm hS'
          obtain ⟨h', g2, d', tk', os'⟩ := s'
          have eg : g2 = s.gens := hm.gens
          have ed : d' = s.drawn := hm.drawn
          have eo : os' = s.os := hm.os
          subst eg; subst ed; subst eo
          show wpAny _ _ _ _ _ _
          refine wpAny_pure ?_
          show wpAny _ _ (ret Value.none) _ _ _
          refine wpAny_pure ⟨rfl, h', tk', rfl, hS', fun b o e => ?_⟩
          have lb := Heap.lt_size e
          refine hm.heap b o (fun z => ?_) (Heap.get?_push_of_some _ (Heap.get?_push_of_some _ e))
          rw [sz] at z
          simp only [List.mem_cons, List.not_mem_nil, or_false] at z
          rcases z with z | z
          · exact absurd z (Nat.ne_of_lt lb)
          · exact absurd z (Nat.ne_of_lt (Nat.lt_succ_of_lt lb))
      · cases r₂ with
        | error e => exact hr₂
        | ok fl₂ =>
          cases fl₂ with
          | ret r =>
            obtain ⟨rfl, h', tk, rfl, hS', hk'⟩ := hr₂
            repeat (any_goals (first | assumption | wp_step))
            exact h _ _ hS' hk'
          | _ => exact hr₂.elim
    | _ => exact hr.elim
/-- sorted(the set) -/
theorem sortedS_set {a : Addr} {L : List Str} {Q : Value → Shared → Prop} (R : SetS w s.heap a L) (hh : A.handled = none) (h64 : L.length < 64)
    (hQ : ∀ s' p (out : Array Value) (c : Nat) (ys : List Str), (∀ b o, s.heap.get? b = some o → s'.heap.get? b = some o) → s'.gens = s.gens → s'.os = s.os → s.heap.objs.size ≤ p →
      s'.heap.get? p = some (seqObj "list" out c) → StrsAre out.toList ys → ys.Perm L → sortedS ys = true → Q (.ref p) s') :
    wpAny (model P w) A (call (.builtin "sorted") [.ref a]) Q E s := by
  obtain ⟨o, es, ep, t, ho, hex, hd, g, pl, nd, hb, hf, hr, hl⟩ := R
  refine Calls.call_function_entry kind_sorted plain_sorted entry_sorted (args_sorted1 _) ?_
  unfold Builtin.«sorted»
  refine wpAny_bind (m := checkCount "sorted" 1 1 _) (wpAny_pure ?_)
  refine wpAny_bind (collect_set (A := A.in1) hh ⟨o, ho, hex.1, hd⟩ hf hb hr hl fun s1 vs k1 hz g1 o1 pm => ?_)
  have txs : ∀ us : List Value, (∀ u ∈ us, ∃ x tk, u = Value.str x tk) → StrsAre us (us.map fun u => txtOf (0, u)) := by
    intro us
    induction us with
    | nil => intro _; exact .nil
    | cons u us ih =>
      intro hu
      obtain ⟨x, tk, rfl⟩ := hu u List.mem_cons_self
      exact .cons x tk (ih fun v hv => hu v (List.mem_cons_of_mem _ hv))
  have hS : StrsAre vs (vs.map fun u => txtOf (0, u)) := txs vs fun v hv => by
    obtain ⟨e, he, q⟩ := List.mem_map.mp (pm.mem_iff.mp hv)
    obtain ⟨x, tk, e1, _⟩ := g e he
    exact ⟨x, tk, by rw [← q]; exact e1⟩
  have pk : (vs.map fun u => txtOf (0, u)).Perm L := by
    have q := pm.map fun u => txtOf (0, u)
    rw [List.map_map] at q
    exact q.trans pl
  have vl : vs.length = L.length := by
    have z := pk.length_eq
    rw [List.length_map] at z
    exact z
  refine wpAny_bind (wpAny_newList ?_ (by rw [sizeLine_eq]; omega))
  have oL : (s1.heap.push (seqObj "list" vs.toArray 0)).get? s1.heap.objs.size = some (seqObj "list" vs.toArray 0) := Heap.get?_push_size _ rfl
  refine wpAny_bind (wpAny_holding (wpAny_call_entry slot_list_sort ⟨_, oL, rfl⟩ entry_list_sort
    (list_sort_treeK strKind_oneLt oL hS.keysOf (fun v₁ v₂ rest e => keyKind_strs (by rw [← e]; exact hS)) (by rw [vl]; exact h64) fun st' hp hs => ?_) (args_list_sort _)))
  obtain ⟨ys, f1, f2, f3⟩ := sorted_out_str hS hp hs
  obtain ⟨c, hc⟩ := sortedHeap_at (vs := vs) (out := (arrOf st').map (·.2)) oL
  refine ⟨_, rfl, wpAny_pure ⟨_, rfl, hQ _ s1.heap.objs.size _ c ys (fun b u e => ?_) g1 o1 hz hc f1 (f2.trans pk) f3⟩⟩
  have q := k1 b u e
  have lt := Heap.lt_size q
  show (sortedHeap (s1.heap.push (seqObj "list" vs.toArray 0)) s1.heap.objs.size vs _).get? b = some u
  rw [sortedHeap_old (Nat.ne_of_lt lt) (by rw [size_push']; exact Nat.lt_succ_of_lt lt)]
  exact Heap.get?_push_of_some _ q
end
/-- a set of texts, tracked -/
def SetX (w : World) (a : Addr) (L : List Str) : HO := .ext fun h => SetS w h a L
theorem setX_new {P : Program} {w : World} {H : Hp} {h : Heap} {a : Addr} {L : List Str} (R : SetS w h a L) : ObjOk P w H h a (SetX w a L) := by
  have ⟨o, es, ep, t, ho, r⟩ := R
  exact ⟨R, ⟨o, ho⟩, fun h1 h2 p k => SetS.at p k⟩
theorem vals_txs : ∀ {xs : List Str} {us : List Value}, Vals (xs.map V.str) us → ∀ (i : Nat) (v : Value), us[i]? = some v → ∃ x t, xs[i]? = some x ∧ v = .str x t
  | [], _, .nil, i, v, h => by simp at h
  | x :: xs, _, .cons r t, 0, v, h => by
    obtain ⟨tk, rfl⟩ := r
    have e := Option.some.inj h
    exact ⟨x, tk, rfl, e.symm⟩
  | x :: xs, _, .cons r t, i + 1, v, h => vals_txs t i v h
section
variable {X : Cx}
def rSetX (K : PySem.W.Frag) (w : World) : List V → Hp → VK → Prop := fun vs H Q => ∃ (l : Addr) (xs : List Str), vs = [.ref l] ∧ (SqL K H l (xs.map V.str) ∨ SqT K H l (xs.map V.str)) ∧ xs.length ≤ 60 ∧ ∀ p, H p = none → Q (.ref p) (upd H p (SetX w p (firsts xs)))
theorem cr_setX (hc : X.calm = true) : CallR X (.type "set") (rSetX X.K X.w) := by
  intro pins s σ H vs us Q I r h
  obtain ⟨l, xs, rfl, hl, hf, q⟩ := h
  rw [Vals.ref1 r]
  have fin : ∀ (h' : Heap) (tk : Nat), SetS X.w h' s.heap.objs.size (firsts xs) → (∀ b o, s.heap.get? b = some o → h'.get? b = some o) → EP X pins σ Q (.ref s.heap.objs.size) { s with heap := h', toks := tk } := fun h' tk R k =>
    ⟨.ref s.heap.objs.size, _, I.laid (t' := tk) k (Nat.le_refl _) (setX_new R), rfl, q _ (I.hok.fresh (Nat.le_refl _))⟩
  have sb : xs.length + 1 < scanBound := by unfold scanBound; omega
  rcases hl with hl | hl
  · obtain ⟨its, rv, pl, hz⟩ := I.list hl
    exact setS_list (I.ok.hd hc) pl.isList (fun i v e => vals_txs rv i v (by simpa using e)) (by rw [List.size_toArray, ← rv.length, List.length_map]) sb fin
  · obtain ⟨its, rv, pl, hz⟩ := I.tuple hl
    exact setS_tuple (I.ok.hd hc) pl (fun i v e => vals_txs rv i v (by simpa using e)) (by rw [List.size_toArray, ← rv.length, List.length_map]) sb fin
def rSortX (w : World) : List V → Hp → VK → Prop := fun vs H Q => ∃ (a : Addr) (L : List Str), vs = [.ref a] ∧ H a = some (SetX w a L) ∧ L.length < 64 ∧ ∀ (ys : List Str) (p : Addr), ys.Perm L → sortedS ys = true → H p = none → Q (.ref p) (upd H p (.lst (ys.map V.str)))
theorem cr_sortX (hc : X.calm = true) : CallR X (.builtin "sorted") (rSortX X.w) := by
  intro pins s σ H vs us Q I r h
  obtain ⟨a, L, rfl, ha, h64, q⟩ := h
  have R : SetS X.w s.heap a L := (I.hok a _ ha).1
  rw [Vals.ref1 r]
  refine sortedS_set R (I.ok.hd hc) h64 fun s' p out c ys k g o hp hg hst pm so => ?_
  have hlen : (ys.map V.str).length ≤ sizeLine := by rw [List.length_map, pm.length_eq, sizeLine_eq]; omega
  have hn : H p = none := I.hok.fresh hp
  have J : Inv X pins σ (upd H p (.lst (ys.map V.str))) { s with heap := s'.heap, gens := s'.gens, drawn := s'.drawn, toks := s'.toks } :=
    I.call (ch := []) (Un.laid k hp hn) (I.hok.laid k hp ⟨hlen, out.toList, c, vals_of_strs hst, hg⟩) (by rw [g]; exact I.bare) (fun _ z => nomatch z)
  have e : s' = { s with heap := s'.heap, gens := s'.gens, drawn := s'.drawn, toks := s'.toks } := by
    cases s'
    cases s
    cases o
    rfl
  rw [e]
  exact ⟨.ref p, _, J, rfl, q ys p pm so hn⟩
def rLenX (w : World) : List V → Hp → VK → Prop := fun vs H Q => ∃ (a : Addr) (L : List Str), vs = [.ref a] ∧ H a = some (SetX w a L) ∧ Q (.int L.length) H
theorem cr_lenX : CallR X (.builtin "len") (rLenX X.w) := by
  intro pins s σ H vs us Q I r h
  obtain ⟨a, L, rfl, ha, q⟩ := h
  obtain ⟨o, es, ep, t, ho, hex, hd, g, pl, nd, hb, hf, hr, hl⟩ : SetS X.w s.heap a L := (I.hok a _ ha).1
  rw [Vals.ref1 r]
  have len : es.size = L.length := by
    have z := pl.length_eq
    rw [List.length_map, Array.length_toList] at z
    exact z
  refine call_len_set ho hex hd hf (by unfold scanBound at hb; omega) ⟨.int L.length, H, I.tok _, ⟨_, by rw [len]⟩, q⟩
end
end L2

/-! the order of texts; the sorted list of different texts is one -/
namespace L2
open PySem PySem.Spec PyProof.Rows
def leS (a b : Str) : Bool := !ltCps b.cps.toList a.cps.toList
theorem leS_iff {a b : Str} : leS a b = true ↔ a.cps.toList ≤ b.cps.toList := by
  unfold leS
  rw [ltCps_eq]
  simp [List.not_lt]
theorem leS_trans {a b c : Str} (h : leS a b = true) (k : leS b c = true) : leS a c = true := leS_iff.mpr (List.le_trans (leS_iff.mp h) (leS_iff.mp k))
theorem leS_total (a b : Str) : (leS a b || leS b a) = true := by
  rw [Bool.or_eq_true, leS_iff, leS_iff]
  exact List.le_total _ _
theorem str_ext {a b : Str} (h : a.cps.toList = b.cps.toList) : a = b := by
  obtain ⟨x⟩ := a
  obtain ⟨y⟩ := b
  congr 1
  exact Array.toList_inj.mp h
theorem leS_anti {a b : Str} (h : leS a b = true) (k : leS b a = true) : a = b := str_ext (List.le_antisymm (leS_iff.mp h) (leS_iff.mp k))
theorem rising_pw : ∀ (l : List Str) (x : Str), risingS x l = true → (x :: l).Pairwise (fun a b => leS a b = true)
  | [], x, _ => List.pairwise_singleton _ _
  | y :: l, x, h => by
    have h2 : (leS x y && risingS y l) = true := h
    rw [Bool.and_eq_true] at h2
    have ih := rising_pw l y h2.2
    refine List.pairwise_cons.mpr ⟨fun z hz => ?_, ih⟩
    rcases List.mem_cons.mp hz with rfl | hz
    · exact h2.1
    · exact leS_trans h2.1 ((List.pairwise_cons.mp ih).1 z hz)
theorem pw_rising : ∀ (l : List Str) (x : Str), (x :: l).Pairwise (fun a b => leS a b = true) → risingS x l = true
  | [], x, _ => rfl
  | y :: l, x, h => by
    obtain ⟨h1, h2⟩ := List.pairwise_cons.mp h
    show (leS x y && risingS y l) = true
    rw [Bool.and_eq_true]
    exact ⟨h1 y List.mem_cons_self, pw_rising l y h2⟩
theorem sortedS_pw {l : List Str} (h : sortedS l = true) : l.Pairwise (fun a b => leS a b = true) := by
  cases l with
  | nil => exact List.Pairwise.nil
  | cons x l => exact rising_pw l x h
theorem pw_sortedS {l : List Str} (h : l.Pairwise (fun a b => leS a b = true)) : sortedS l = true := by
  cases l with
  | nil => rfl
  | cons x l => exact pw_rising l x h
theorem sorted_one : ∀ {l l' : List Str}, l.Perm l' → l.Pairwise (fun a b => leS a b = true) → l'.Pairwise (fun a b => leS a b = true) → l = l'
  | [], l', p, _, _ => (List.nil_perm.mp p).symm
  | x :: l, [], p, _, _ => by have := p.length_eq; simp at this
  | x :: l, y :: l', p, h, h' => by
    obtain ⟨h1, h2⟩ := List.pairwise_cons.mp h
    obtain ⟨k1, k2⟩ := List.pairwise_cons.mp h'
    have e : x = y := by
      rcases List.mem_cons.mp (p.mem_iff.mp (List.mem_cons_self (a := x) (l := l))) with e | m
      · exact e
      · rcases List.mem_cons.mp (p.mem_iff.mpr (List.mem_cons_self (a := y) (l := l'))) with e | m'
        · exact e.symm
        · exact leS_anti (h1 y m') (k1 x m)
    subst e
    rw [sorted_one (List.Perm.cons_inv p) h2 k2]
theorem mem_firsts {z : Str} {xs : List Str} : z ∈ firsts xs ↔ z ∈ xs := by
  have gen : ∀ (ys L : List Str), z ∈ ys.foldl (fun L x => if x ∈ L then L else L ++ [x]) L ↔ z ∈ L ∨ z ∈ ys := by
    intro ys
    induction ys with
    | nil => intro L; simp
    | cons y ys ih =>
      intro L
      rw [List.foldl_cons, ih]
      split
      · rename_i hy
        rw [List.mem_cons]
        constructor
        · rintro (h | h)
          · exact .inl h
          · exact .inr (.inr h)
        · rintro (h | rfl | h)
          · exact .inl h
          · exact .inl hy
          · exact .inr h
      · rw [List.mem_append, List.mem_singleton, List.mem_cons, or_assoc]
  rw [firsts, gen]
  simp
theorem nodup_firsts (xs : List Str) : (firsts xs).Nodup := by
  have gen : ∀ (ys L : List Str), L.Nodup → (ys.foldl (fun L x => if x ∈ L then L else L ++ [x]) L).Nodup := by
    intro ys
    induction ys with
    | nil => intro L h; exact h
    | cons y ys ih =>
      intro L h
      refine ih _ ?_
      show (if y ∈ L then L else L ++ [y]).Nodup
      split
      · exact h
      · rename_i hy
        exact List.nodup_append.mpr ⟨h, List.nodup_cons.mpr ⟨by simp, List.nodup_nil⟩, fun a ha b hb e => hy (by rw [← List.mem_singleton.mp hb, ← e]; exact ha)⟩
  exact gen xs [] List.nodup_nil
/-- the different ones, ascending -/
def canon (zs : List Str) : List Str := (firsts zs).mergeSort leS
theorem canon_perm (zs : List Str) : (canon zs).Perm (firsts zs) := List.mergeSort_perm _ _
theorem canon_pw (zs : List Str) : (canon zs).Pairwise (fun a b => leS a b = true) := List.pairwise_mergeSort (le := leS) (fun _ _ _ h k => leS_trans h k) leS_total _
theorem canon_is {zs ys : List Str} (p : ys.Perm (firsts zs)) (s : sortedS ys = true) : ys = canon zs := sorted_one (p.trans (canon_perm zs).symm) (sortedS_pw s) (canon_pw zs)
theorem mem_canon {z : Str} {zs : List Str} : z ∈ canon zs ↔ z ∈ zs := (canon_perm zs).mem_iff.trans mem_firsts
theorem nodup_canon (zs : List Str) : (canon zs).Nodup := (canon_perm zs).nodup_iff.mpr (nodup_firsts zs)
theorem canon_len (zs : List Str) : (canon zs).length ≤ zs.length := by rw [(canon_perm zs).length_eq]; exact firsts_len zs
theorem canon_congr {xs ys : List Str} (h : ∀ z, z ∈ xs ↔ z ∈ ys) : canon xs = canon ys := by
  refine sorted_one ((List.perm_ext_iff_of_nodup (nodup_canon xs) (nodup_canon ys)).mpr fun z => ?_) (canon_pw xs) (canon_pw ys)
  rw [mem_canon, mem_canon, h]
/-- what is sorted and has no repeats is its own -/
theorem canon_self {ys : List Str} (nd : ys.Nodup) (pw : ys.Pairwise (fun a b => leS a b = true)) : canon ys = ys := by
  refine sorted_one ((List.perm_ext_iff_of_nodup (nodup_canon ys) nd).mpr fun z => mem_canon) (canon_pw ys) pw
theorem canon_canon (zs : List Str) : canon (canon zs) = canon zs := canon_self (nodup_canon zs) (canon_pw zs)
/-- a dict with the keys L -/
abbrev keyT (z : Str) : Key × V := (Sum.inr z, .bl true)
theorem put_keyT (L : List Str) (x : Str) : putK (L.map keyT) (Sum.inr x) (.bl true) = (if x ∈ L then L else L ++ [x]).map keyT := by
  unfold putK
  by_cases h : x ∈ L
  · have e : ((L.map keyT).any fun kv => decide (kv.1 = Sum.inr x)) = true := List.any_eq_true.mpr ⟨keyT x, List.mem_map.mpr ⟨x, h, rfl⟩, decide_eq_true rfl⟩
    rw [if_pos e, if_pos h, List.map_map]
    refine List.map_congr_left fun z _ => ?_
    show (if (Sum.inr z : Key) = Sum.inr x then ((Sum.inr z : Key), V.bl true) else keyT z) = keyT z
    split <;> rfl
  · have e : ¬ (((L.map keyT).any fun kv => decide (kv.1 = Sum.inr x)) = true) := fun z => by
      obtain ⟨kv, hm, hk⟩ := List.any_eq_true.mp z
      obtain ⟨y, hy, rfl⟩ := List.mem_map.mp hm
      have ey : (Sum.inr y : Key) = Sum.inr x := of_decide_eq_true hk
      exact h (by rw [← Sum.inr.inj ey]; exact hy)
    rw [if_neg e, if_neg h, List.map_append]
    rfl
end L2

/-! what stays: all but tables and dice -/
namespace Tf
open PySem PySem.Spec PyProof.Rows L2 LamX
/-- no table and no dice -/
def Solid (o : HO) : Prop := (∀ ps, o ≠ .tbl ps) ∧ ∀ x y z : Int, o ≠ .lst [.int x, .int y, .int z]
def Kept (H H' : Hp) : Prop := ∀ b o, H b = some o → Solid o → H' b = some o
/-- all but tables and what stands at d -/
def KpD (d : Addr) (H H' : Hp) : Prop := ∀ b o, b ≠ d → H b = some o → (∀ ps, o ≠ .tbl ps) → H' b = some o
theorem Kept.refl (H : Hp) : Kept H H := fun _ _ h _ => h
theorem Kept.trans {H H1 H2 : Hp} (a : Kept H H1) (b : Kept H1 H2) : Kept H H2 := fun c o h s => b c o (a c o h s) s
theorem KpD.refl (d : Addr) (H : Hp) : KpD d H H := fun _ _ _ h _ => h
theorem KpD.trans {d : Addr} {H H1 H2 : Hp} (a : KpD d H H1) (b : KpD d H1 H2) : KpD d H H2 := fun c o n h s => b c o n (a c o n h s) s
theorem dice_is {H : Hp} {d : Addr} (h : Dice H d) : ∃ x y z : Int, H d = some (.lst [.int x, .int y, .int z]) := let ⟨a, b, c, _, e⟩ := h; ⟨a, b, c, e⟩
theorem KpD.kept {d : Addr} {H H' : Hp} (k : KpD d H H') (h : Dice H d) : Kept H H' := fun b o e s => k b o (fun z => by
  subst z
  obtain ⟨x, y, z, e2⟩ := dice_is h
  exact s.2 x y z (Option.some.inj (e.symm.trans e2))) e s.1
end Tf
namespace L2
open PySem PySem.Spec PyProof.Rows LamX Tf
theorem Same.kept {H H' : Hp} (s : Same H H') : Kept H H' := fun b o h _ => s b o h
theorem Same.kpd {d : Addr} {H H' : Hp} (s : Same H H') : KpD d H H' := fun b o _ h _ => s b o h
theorem Nr.kpd {d : Addr} {H H' : Hp} (s : Nr d H H') : KpD d H H' := fun b o n h _ => s b o n h
end L2
namespace LamX
open PySem PySem.Spec PyProof.Rows L2 Tf
theorem ExtN.kept {H H' : Hp} (s : ExtN H H') : Kept H H' := fun b o h n => s b o h n.1
theorem ExtN.kpd {d : Addr} {H H' : Hp} (s : ExtN H H') : KpD d H H' := fun b o _ h n => s b o h n
theorem Tabs.same {T : List (Addr × Str)} {H H' : Hp} (t : Tabs T H) (s : Same H H') : Tabs T H' := t.ext s
/-- the dice may change -/
theorem Tabs.nr {T : List (Addr × Str)} {H H' : Hp} {d : Addr} (t : Tabs T H) (n : Nr d H H') (h : Dice H d) : Tabs T H' := fun p hp => by
  obtain ⟨ps, e1, e2, e3⟩ := t p hp
  obtain ⟨x, y, z, ed⟩ := dice_is h
  refine ⟨ps, n _ _ (fun c => ?_) e1, e2, fun pos cv hc => ?_⟩
  · rw [c, ed] at e1
    cases e1
  · obtain ⟨c, f1, f2⟩ := e3 pos cv hc
    refine ⟨c, f1, n _ _ (fun z => ?_) f2⟩
    rw [z, ed] at f2
    have f3 := Option.some.inj f2
    unfold CodeO at f3
    cases f3
/-- a list may change -/
theorem Tabs.lst {T : List (Addr × Str)} {H : Hp} {l : Addr} {xs : List V} {o : HO} (t : Tabs T H) (h : H l = some (.lst xs)) : Tabs T (upd H l o) := fun p hp => by
  obtain ⟨ps, e1, e2, e3⟩ := t p hp
  refine ⟨ps, ?_, e2, fun pos cv hc => ?_⟩
  · rw [upd_ne (fun c => ?_)]
    · exact e1
    · rw [c, h] at e1
      cases e1
  · obtain ⟨c, f1, f2⟩ := e3 pos cv hc
    refine ⟨c, f1, ?_⟩
    rw [upd_ne (fun z => ?_)]
    · exact f2
    · rw [z, h] at f2
      have f3 := Option.some.inj f2
      unfold CodeO at f3
      cases f3
end LamX

/-! defs that want to know that no repr is under way (guards), and the end for them -/
namespace TfG
open PySem PySem.Spec PyProof.Rows L2 LamX
/-- a def's promise, kept where no guard stands -/
structure FnG (P : Program) (w : World) (K : PySem.W.Frag) (mg : Str → Option Value) (base : Heap) (CX : CXT) (k : Nat) (f : Addr) (fd : FuncData) (ps : List Str) (sp : Sp) : Prop where
  len : ∀ vs H Q E, sp vs H Q E → vs.length = ps.length
  run : ∀ (A : Around) (outer : List Env) (s : Shared) (H : Hp) (args : Args) (us : List Value) (vs : List V) (Q : VK) (E : XK), A.guards = some [] → Room k A → Env0 P w K mg base A outer s H → BindsTo s fd args (ps.zip us) → Vals vs us → sp vs H Q E → codeAny (model P w) A (.call (.ref f) args) (CR CX outer P w H s Q E) s
/-- a def by its text, its code object at c -/
structure FunC (K : PySem.W.Frag) (x qual : Str) (st : Stmt) (f : Addr) (fd : FuncData) (c : Addr) : Prop where
  ex : ∃ (oc : Value) (od : Option Addr) (kV doc pm : Value) (an : Option Addr) (ct : Value) (osl : Array (Option Value)), fd = PySem.W.fnOf x qual (defArgs st) (defBody st) (defScope st) .none kV doc pm an (.ref c) ct ∧ K.lookup f = some ⟨oc, od, .func fd, osl⟩ ∧ PySem.W.codeIn K (.ref c) qual = true
  kp : PySem.W.keepIn K (.ref f) = true
section
variable {P : Program} {w : World} {K : PySem.W.Frag} {mg : Str → Option Value} {base : Heap}
theorem FunC.okG {x qual : Str} {st : Stmt} {f c : Addr} {fd : FuncData} {N ps : List Str} {k : Nat} {sp : Sp} (F : FunC K x qual st f fd c) (S : FnScope N ps (defScope st)) (len : ∀ vs H Q E, sp vs H Q E → vs.length = ps.length)
    (hbody : ∀ (A : Around) (outer : List Env) (s : Shared) (H : Hp) (vs : List V) (Q : VK) (E : XK), A.guards = some [] → Room k (A.deeper (envOfC qual (defScope st) s.heap.objs.size f (.ref c))) → sp vs H Q E →
      ∃ t, PSs (cxOf L2.CX0 P w K mg base N qual (defScope st) f (.ref c) A outer s H E).nox (defBody st) t ∧ t { nx := fun _ H' => Q .non H', rt := Q } (L2.start N vs) H) : FnG P w K mg base L2.CX0 (k + 1) f fd ps sp := by
  obtain ⟨oc, od, kV, doc, pm, an, ct, osl, rfl, lk, hcd⟩ := F.ex
  refine ⟨len, fun A outer s H args us vs Q E hg hr e0 hb r h => LamX.run_ofS lk hcd S hr e0 hb r (len _ _ _ _ h) fun hr' => ?_⟩
  obtain ⟨t, ht, q⟩ := hbody A outer s H vs Q E hg hr' h
  exact ⟨t, ht.nox, q⟩
theorem FunC.binds {x qual : Str} {st : Stmt} {f c : Addr} {fd : FuncData} {ps : List Str} (F : FunC K x qual st f fd c)
    (h : ∀ (kV doc pm : Value) (an : Option Addr) (cdv ct : Value) (us : List Value), us.length = ps.length → bindArgs (PySem.W.fnOf x qual (defArgs st) (defBody st) (defScope st) .none kV doc pm an cdv ct) ⟨us, []⟩ = pure (ps.zip us)) : Binds K fd ps [] := by
  obtain ⟨oc, od, kV, doc, pm, an, ct, osl, rfl, lk, hcd⟩ := F.ex
  exact .all (h kV doc pm an _ ct)
end
section
variable {X : Cx} {k : Nat} {f : Addr} {fd : FuncData} {ps : List Str} {sp : Sp} {CX : CXT} {E : XK} {x : Str} {p pos : Pos} {e : Expr} {es : List Expr} {t : TA}
/-- x(e, ..) of such a def -/
theorem pe_callG (F : FnG X.prog X.w X.K X.mg X.base CX k f fd ps sp) (gu : X.A.guards = some []) (hr : Room k X.A) (hg : Gl X x) (hm : X.mg x = some (.ref f)) (hk : PySem.W.keepIn X.K (.ref f) = true) (hb : Binds X.K fd ps []) (hx : Passes CX X E) (ha : PA X (e :: es) t)
    (hdb : (x == ("__debug__" : Str)) = false := by decide) (he : starEach (e :: es) X.env = (false, eval e X.env) :: starEach es X.env := by rfl) (hpl : (backTo pos (starEach es X.env)).any (·.1) = false := by rfl) : PE X (.Call (.Name x p) (e :: es) [] pos) (tCall sp [] E t) := by
  refine ⟨fun pins s σ H Q I h => wpAny_Call_Name_kw (ld_glob I hg hm ?_ hdb)⟩
  refine PySem.W.callWith_K (h₀ := X.base) I.ok.mod.kin hk (thn (ha.run pos pins s σ H _ I h) fun us s1 ⟨vs, H1, I1, r, q⟩ => ⟨I1.kIn, ?_⟩) he hpl
  have q : sp vs H1 Q E := by
    have q0 : sp (vs ++ []) H1 Q E := q
    rw [List.append_nil] at q0
    exact q0
  have l : (us ++ []).length = ps.length := by rw [List.append_nil, ← r.length]; exact F.len _ _ _ _ q
  have b := hb s1 us I1.kIn l
  rw [List.append_nil] at b
  refine wpAny_call (codeAny_mono (F.run X.A X.stack s1 H1 ⟨us, []⟩ us vs Q E gu hr I1.env0 b r q) fun r' s' z => ?_)
  match r', z with
  | .error e', z => exact hx pins σ H1 s1 e' s' I1 z
  | .ok (.ret u), z => exact I1.after z
  | .ok .next, z => exact False.elim z
  | .ok .brk, z => exact False.elim z
  | .ok .cont, z => exact False.elim z
end
section
variable {P : Program} {w : World} {K : PySem.W.Frag} {mg mb : Str → Option Value} {CX : CXT} {k : Nat} {fa a : Addr} {cs : List (Addr × Addr)} {fd : FuncData} {x : Str} {sp : Sp} {s₁ : Shared} {vs : List Value} {ns : List Int}
/-- the abstract heap of the call: the tables, and the script where the written part does not tell it -/
def H0 (K : PySem.W.Frag) (ts : List Addr) (a : Addr) (o : Obj) (xs : List V) : Hp := fun b => if b ∈ ts then some (.tbl #[]) else if b = a ∧ K.lookup a = none then some (.frz o (.lst xs)) else none
theorem H0_cases (K : PySem.W.Frag) (ts : List Addr) (a : Addr) (o : Obj) (xs : List V) (b : Addr) : (H0 K ts a o xs b = none) ∨ (b ∈ ts ∧ H0 K ts a o xs b = some (.tbl #[])) ∨ (b = a ∧ b ∉ ts ∧ K.lookup a = none ∧ H0 K ts a o xs b = some (.frz o (.lst xs))) := by
  unfold H0
  by_cases h1 : b ∈ ts
  · exact .inr (.inl ⟨h1, if_pos h1⟩)
  · by_cases h2 : b = a ∧ K.lookup a = none
    · exact .inr (.inr ⟨h2.1, h1, h2.2, by rw [if_neg h1, if_pos h2]⟩)
    · exact .inl (by rw [if_neg h1, if_neg h2])
theorem law_callG (KX : K.In s₁.heap) (hns : s₁.heap.Ns mainGlobals mg) (hb : s₁.heap.Ns builtinsNs mb) (hbb : ∀ x : Str, x ≠ "__name__" → mb x = bootBuiltins x) (hlim : s₁.heap.NoLimit) (hg : s₁.gens = #[])
    (hT : ∀ p ∈ cs, s₁.heap.get? p.2 = some { cls := .none, data := .fields #[] }) (nT : ∀ p ∈ cs, K.lookup p.2 = none) (C : ∀ p ∈ cs, PySem.W.CodeHd s₁.heap p.1 p.2)
    (hbm : ∃ (bm : Addr) (ob : Obj), mg "__builtins__" = some (.ref bm) ∧ bm ≠ builtinsNs ∧ s₁.heap.get? bm = some ob ∧ ob.cls = .type "module" ∧ ob.dict = some builtinsNs ∧ ob.data = .plain)
    (ha : s₁.heap.get? a = some { cls := .type "list", data := .seq vs.toArray }) (hi : IntsAre vs ns) (hl : ns.length ≤ sizeLine) (hr : Room k callerA)
    (F : ∀ base : Heap, K.In base → base.Ns mainGlobals mg → (∀ p ∈ cs, TabB base mg p.1 p.2) → FnG P w K mg base CX k fa fd [x] sp) (hbind : ∀ (s : Shared) (u : Value), BindsTo s fd ⟨[u], []⟩ [(x, u)])
    (hsp : ∀ H : Hp, (∀ p ∈ cs, H p.2 = some (.tbl #[])) → SqL K H a (ns.map V.int) → sp [.ref a] H (fun v _ => v = .bl true) fun _ _ _ => False)
    (hCX : ∀ H e s', CX [] H s₁ (fun _ _ _ => False) e s' → False) :
    codeAny (model P w) callerA (.call (.ref fa) ⟨[.ref a], []⟩) (fun r s' => r = .ok (.ret (.bool true)) ∧ OldK s₁.heap s'.heap ∧ s'.os = s₁.os ∧ AllBare s'.gens) s₁ := by
  obtain ⟨ts, ets⟩ : ∃ ts, ts = cs.map (·.2) := ⟨_, rfl⟩
  have mem : ∀ p ∈ cs, p.2 ∈ ts := fun p hp => by rw [ets]; exact List.mem_map.mpr ⟨p, hp, rfl⟩
  have inT : ∀ b ∈ ts, ∃ p ∈ cs, p.2 = b := fun b hb' => by rw [ets] at hb'; exact List.mem_map.mp hb'
  have tab : ∀ b ∈ ts, s₁.heap.get? b = some { cls := .none, data := .fields #[] } := fun b hb' => by
    obtain ⟨p, hp, rfl⟩ := inT b hb'
    exact hT p hp
  have naT : a ∉ ts := fun z => by
    have e := (tab a z).symm.trans ha
    have e2 := congrArg Obj.data (Option.some.inj e)
    cases e2
  obtain ⟨H, eH⟩ : ∃ H, H = H0 K ts a { cls := .type "list", data := .seq vs.toArray } (ns.map V.int) := ⟨_, rfl⟩
  have cas : ∀ b, H b = none ∨ (b ∈ ts ∧ H b = some (.tbl #[])) ∨ (b = a ∧ b ∉ ts ∧ K.lookup a = none ∧ H b = some (.frz { cls := .type "list", data := .seq vs.toArray } (.lst (ns.map V.int)))) := fun b => by
    rw [eH]
    exact H0_cases K ts a _ _ b
  have hTab : ∀ b ∈ ts, H b = some (.tbl #[]) := fun b hb' => by
    rw [eH]
    exact if_pos hb'
  -- what no table and no list is stays untracked
  have free : ∀ {b : Addr} {o : Obj}, s₁.heap.get? b = some o → o.data ≠ .fields #[] → (∀ us n, o.data ≠ .seq us n) → H b = none := fun {b o} e n1 n2 => by
    rcases cas b with z | ⟨z, _⟩ | ⟨rfl, _⟩
    · exact z
    · exact (n1 (by rw [Option.some.inj (e.symm.trans (tab b z))])).elim
    · exact (n2 vs.toArray 0 (by rw [Option.some.inj (e.symm.trans ha)])).elim
  have dct : ∀ {b : Addr} {m : Str → Option Value}, s₁.heap.Ns b m → (hidT s₁.heap H).Ns b m := fun {b m} z => by
    obtain ⟨o, es, ep, e, d, r⟩ := z
    exact ⟨o, es, ep, hidT_get e (free e (by rw [d]; exact fun z => by cases z) fun us n z => by rw [d] at z; cases z), d, r⟩
  have KB : K.In (hidT s₁.heap H) := fun b o e => by
    refine hidT_get (KX b o e) ?_
    rcases cas b with z | ⟨z, _⟩ | ⟨rfl, _, z, _⟩
    · exact z
    · obtain ⟨p, hp, rfl⟩ := inT b z
      rw [nT p hp] at e
      cases e
    · rw [z] at e
      cases e
  have TB : ∀ p ∈ cs, TabB (hidT s₁.heap H) mg p.1 p.2 := fun p hp => by
    refine ⟨?_, ?_, ?_⟩
    · obtain ⟨o, us, file, tf, flags, tg, inF, text, tt, e1, r1, r2, r3, r4⟩ := C p hp
      refine ⟨o, us, file, tf, flags, tg, inF, text, tt, hidT_get e1 (free e1 (fun z => ?_) fun us' n z => ?_), r1, r2, r3, r4⟩
      · rw [r2] at z
        have z2 := (Data.fields.inj z)
        rw [z2] at r3
        simp at r3
      · rw [r2] at z
        cases z
    · obtain ⟨bm, ob, b1, b2, b3, b4, b5, b6⟩ := hbm
      have f3 := hidT_get b3 (free b3 (by rw [b6]; exact fun z => by cases z) fun us n z => by rw [b6] at z; cases z)
      refine ⟨bm, ob, b1, b2, fun z => ?_, fun z => ?_, f3, b4, b5, b6⟩
      · obtain ⟨o, es, ep, e, d, _⟩ := hns
        rw [z] at b3
        rw [Option.some.inj (e.symm.trans b3), b6] at d
        cases d
      · rw [z] at b3
        have z2 := congrArg Obj.data (Option.some.inj ((hT p hp).symm.trans b3))
        rw [b6] at z2
        cases z2
    · intro z
      obtain ⟨o, es, ep, e, d, _⟩ := hns
      rw [z] at e
      rw [← Option.some.inj ((hT p hp).symm.trans e)] at d
      cases d
  have lenV := hi.length
  have rv := vals_ints hi
  have SQ : SqL K H a (ns.map V.int) := by
    cases hk : K.lookup a with
    | none =>
      refine .inl (.inr ⟨{ cls := .type "list", data := .seq vs.toArray }, ?_⟩)
      rw [eH]
      unfold H0
      rw [if_neg naT, if_pos ⟨rfl, hk⟩]
    | some o =>
      have eo := Option.some.inj ((KX a o hk).symm.trans ha)
      subst eo
      exact .inr ⟨_, vs.toArray, _, hk, rfl, rfl, rfl, by rw [List.size_toArray, lenV]; exact hl, by simpa using rv⟩
  have OK : HOk P w H s₁.heap := fun b u e => by
    rcases cas b with z | ⟨z1, z2⟩ | ⟨rfl, _, _, z⟩
    · rw [z] at e
      cases e
    · rw [← Option.some.inj (z2.symm.trans e)]
      exact tab b z1
    · rw [← Option.some.inj (z.symm.trans e)]
      exact ⟨ha, by rw [List.length_map]; exact hl, vs, _, rv, ha⟩
  have M : L2.Mod K mg (hidT s₁.heap H) := ⟨KB, dct hns, ⟨mb, dct hb, hbb⟩, let ⟨mc, h1, h2⟩ := hlim; ⟨mc, dct h1, h2⟩⟩
  have E0 : Env0 P w K mg (hidT s₁.heap H) callerA [] s₁ H := ⟨rfl, M, fun b o e => of_hidT e, Nat.le_of_eq (hidT_size _ _), trivial, fun b z => absurd (show b ∈ ([] : List Addr) from z) List.not_mem_nil, OK, AllBare.of_eq hg⟩
  refine codeAny_mono ((F _ KB (dct hns) TB).run callerA [] s₁ H ⟨[.ref a], []⟩ [.ref a] [.ref a] _ _ rfl hr E0 (hbind s₁ (.ref a)) (.cons rfl .nil) (hsp H (fun p hp => hTab _ (mem p hp)) SQ)) fun r s' q => ?_
  match r, q with
  | .error e, q => exact (hCX H e s' q).elim
  | .ok .next, q => exact False.elim q
  | .ok .brk, q => exact False.elim q
  | .ok .cont, q => exact False.elim q
  | .ok (.ret u), q =>
    obtain ⟨v, H', os, bare, un, ok', r', q'⟩ := q
    have ev : v = .bl true := q'
    subst ev
    obtain rfl : u = Value.bool true := r'
    have same : ∀ b o, b ∉ ts → s₁.heap.get? b = some o → s'.heap.get? b = some o := fun b o nb e => by
      rcases cas b with z | ⟨z, _⟩ | ⟨rfl, _, _, z⟩
      · exact un.keep b o e z (fun y => by cases y) (fun y => by cases y)
      · exact (nb z).elim
      · have g1 := (OK b _ z).1
        have g2 := (ok' b _ (un.frzs b _ _ z)).1
        rw [Option.some.inj (e.symm.trans g1)]
        exact g2
    have grew : ∀ b ∈ ts, ∃ more : Array Value, s'.heap.get? b = some { cls := .none, data := .fields more } := fun b hb' => by
      obtain ⟨more, z⟩ := un.tbls b #[] (hTab b hb')
      exact ⟨_, ok' b _ z⟩
    refine ⟨rfl, ⟨fun b o e => ?_, fun b o e => ?_⟩, os, bare⟩
    · by_cases hb' : b ∈ ts
      · obtain ⟨p, hp, rfl⟩ := inT b hb'
        obtain ⟨more, g⟩ := grew _ hb'
        rw [Option.some.inj (e.symm.trans (hT p hp))]
        exact .inr (.inl ⟨((C p hp).tab (hT p hp)).isCodeTable, rfl, #[], more, rfl, by rw [Array.empty_append]; exact g⟩)
      · exact .inl (same b o hb' e)
    · by_cases hb' : b ∈ ts
      · exact let ⟨_, g⟩ := grew b hb'; ⟨_, g⟩
      · exact ⟨o, same b o hb' e⟩
end
/-- what is known of the law's promise at the head's heap -/
def LawG (l : PySem.W.OpenLaw) (w : World) (K : PySem.W.Frag) (CX : CXT) (k n : Nat) (x : Str) (mg : Str → Option Value) (fa : Addr) (h : Heap) : Prop :=
  ∃ (fd : FuncData) (cs : List (Addr × Addr)) (sp : Sp), ((∀ p ∈ cs, h.get? p.2 = some { cls := .none, data := .fields #[] }) ∧ (∀ p ∈ cs, K.lookup p.2 = none) ∧ ∀ p ∈ cs, PySem.W.CodeHd h p.1 p.2) ∧ (∀ (s : Shared) (u : Value), BindsTo s fd ⟨[u], []⟩ [(x, u)]) ∧
    (∀ (H : Hp) (a : Addr) (ns : List Int), ns.length ≤ n → (∀ z ∈ ns, Builtin.Int.intBits z ≤ 1048576) → (∀ p ∈ cs, H p.2 = some (.tbl #[])) → SqL K H a (ns.map V.int) → sp [.ref a] H (fun v _ => v = .bl true) fun _ _ _ => False) ∧
    ∀ base : Heap, K.In base → base.Ns mainGlobals mg → (∀ p ∈ cs, TabB base mg p.1 p.2) → FnG l.prog w K mg base CX k fa fd [x] sp
theorem walk_G {l : PySem.W.OpenLaw} {n k : Nat} {q : Program} {loose : List Str} {XP : (Str → Option Value) → Heap → Prop} {YP : World → Heap → Prop} {d : DefRec} {K : Params → PySem.W.Frag} {CX : World → CXT} {x : Str}
    (hn : l.most = some n) (hn2 : n ≤ sizeLine) (hdf : d.params.defaults = []) (hr : Room k callerA) (hY : ∀ (w : World) (h : Heap), YP w h → (K w.params).In h)
    (F : ∀ (w : World) (mg : Str → Option Value) (fa : Addr) (h : Heap), YP w h → (K w.params).In h → h.Ns mainGlobals mg → (∀ (x : Str) (c P : Addr), ((recsOf q).any fun e => e.name == x) = true → PySem.W.tabIn (K w.params) x = some (c, P) → PySem.W.CodeHd h c P ∧ h.get? P = some { cls := .none, data := .fields #[] }) → mg d.name = some (.ref fa) → LawG l w (K w.params) (CX w) k n x mg fa h)
    (hCX : ∀ (w : World) (H : Hp) (s : Shared) (e : Value) (s' : Shared), CX w [] H s (fun _ _ _ => False) e s' → False) : PySem.W.WalkO q loose XP YP l.row.toRowW d [] (fun f vs => PySem.call f vs) :=
  Att.attach_callB hn hdf fun w s₀ s₁ mg mb fa o pm cd doc a vs ns G Y _ _ _ hmg hobj hints hlen hbits hg => by
    have KX := hY w _ Y
    obtain ⟨fd, cs, sp, ⟨hT, nT, C⟩, hb, hsp, hF⟩ := F w mg fa _ Y KX G.T.g (fun x c P' hr ht => by
      obtain ⟨e, he⟩ := Option.isSome_iff_exists.mp (show ((recsOf q).find? fun e => e.name == x).isSome = true by rw [List.find?_isSome]; exact List.any_eq_true.mp hr)
      exact PySem.W.tab_of G.T KX he ht) hmg
    exact law_callG KX G.T.g G.T.b G.T.builtins G.T.nolimit hg hT nT C G.T.bmain hobj hints (Nat.le_trans hlen hn2) hr hF hb (fun H hH hS => hsp H a ns hlen hbits hH hS) fun H e s' => hCX w H s₁ e s'
theorem tab_in {K : PySem.W.Frag} {x : Str} {f c P : Addr} {oc a : Value} {od b : Option Addr} {sl z : Array (Option Value)} {fd : FuncData} {vs : Array Value} (h0 : PySem.W.nsIn K mainGlobals x = some (some (.ref f))) (h1 : K.lookup f = some ⟨oc, od, .func fd, sl⟩) (hc : fd.code = .ref c) (h2 : K.lookup c = some ⟨a, b, .fields vs, z⟩) (h3 : vs[11]? = some (.ref P)) : PySem.W.tabIn K x = some (c, P) := by
  unfold PySem.W.tabIn
  simp only [h0, h1, hc, h2, h3]
theorem func_mk {K : PySem.W.Frag} {x qual : Str} {st : Stmt} {f c : Addr} {oc : Value} {od an : Option Addr} {osl : Array (Option Value)} {kV doc pm ct : Value} (l : K.lookup f = some ⟨oc, od, .func (PySem.W.fnOf x qual (defArgs st) (defBody st) (defScope st) .none kV doc pm an (.ref c) ct), osl⟩) (hc : PySem.W.codeIn K (.ref c) qual = true) (kp : PySem.W.keepIn K (.ref f) = true) : FunC K x qual st f (PySem.W.fnOf x qual (defArgs st) (defBody st) (defScope st) .none kV doc pm an (.ref c) ct) c := ⟨⟨_, _, _, _, _, _, _, _, rfl, l, hc⟩, kp⟩
end TfG

/-! while an exception is handled: tuples are walked to their end, list comprehensions over tuples -/
namespace TfH
open PySem PySem.Spec PyProof.Rows L2 HotX
section
variable {P : Program} {w : World} {A : Around} {E : Value → Shared → Prop} {s : Shared}
/-- no item is left -/
theorem next_end_hot {it t x1 : Addr} {i : Nat} {its : Array Value} {Q : Option Value → Shared → Prop} (hot : HotAt A x1 s.heap) (hi : s.heap.IsTupleIter it t i) (ht : s.heap.IsTuple t its) (hx : its[i]? = none) (ne : x1 ≠ it)
    (q : ∀ h', Heap.ExtBut it s.heap h' → Q none { s with heap := h' }) : wpAny (model P w) A (pyNext (.ref it)) Q E s := by
  obtain ⟨oi, gi, ci, di⟩ := id hi
  obtain ⟨ot, gt, _, nt, dt⟩ := ht
  obtain ⟨hh, o1, v1, g1, d1, c1⟩ := hot
  unfold pyNext
  refine wpAny_bind (wpAny_attempt (wpAny_callSpecial?_slot (name := Str.ofString "__next__") hi.typeIs F.slot_tuple_iterator_next (wpAny_call_entry F.slot_tuple_iterator_next hi.typeIs F.entry_tuple_iterator_next ?_ (F.args_tuple_iterator_next_1 _))))
  show wpAny _ _ (field (.ref it) 0 >>= _) _ _ s
  refine wpAny_bind (wpAny_field gi di (x := .ref t) rfl ?_)
  show wpAny _ _ (if (Value.ref t == Value.none) = true then _ else _) _ _ s
  have nn : ¬ ((Value.ref t == Value.none) = true) := Bool.false_ne_true
  rw [if_neg nn]
  show wpAny _ _ (field (.ref it) 1 >>= _) _ _ s
  refine wpAny_bind (wpAny_field gi di (x := .int i 0) rfl ?_)
  show wpAny _ _ (seqItems? (.ref t) >>= _) _ _ s
  refine wpAny_bind (wpAny_seqItems gt dt ?_)
  simp only [Int.toNat_natCast, hx]
  refine wpAny_bind (wpAny_rule (wpAny_bind (wpAny_setField gi di (by simp) ?_)))
  have e1 : (s.heap.update it (Obj.mapFields (·.setIfInBounds 0 Value.none))).get? x1 = some o1 := by rw [Heap.get?_update_other _ _ (Ne.symm ne)]; exact g1
  have k1 : ∀ b o, b ≠ it → s.heap.get? b = some o → (s.heap.update it (Obj.mapFields (·.setIfInBounds 0 Value.none))).get? b = some o := fun b o nb g => by rw [Heap.get?_update_other _ _ (Ne.symm nb)]; exact g
  generalize s.heap.update it (Obj.mapFields (·.setIfInBounds 0 Value.none)) = h1 at e1 k1 ⊢
  show wpAny _ _ (newExc (.type "StopIteration") [] >>= _) _ _ _
  refine wpAny_bind ?_
  simp only [newExc, newTuple]
  refine wpAny_bind (wpAny_newObj_type ?_ (by size_fits))
  refine wpAny_bind (m := firstArgMember _ _) (wpAny_of_eq (a := Value.none) (by first | rfl | (simp only [firstArgMember]; rfl)) (wpAny_newObj_type ?_ (by size_fits)))
  refine raiseNew_hot ⟨hh, o1, v1, Heap.get?_push_of_some _ (Heap.get?_push_of_some _ e1), d1, c1⟩ (Nat.ne_of_lt (Heap.lt_size (Heap.get?_push_of_some _ e1))) (Heap.get?_push_size _ rfl) rfl (by simp; omega) ?_
  refine wpAny_bind (wpAny_isInstance (T := "StopIteration") (b := true) ⟨_, Heap.get?_update_self _ (Heap.get?_push_size _ rfl) rfl, rfl⟩ isSubtype_stop (wpAny_pure (q _ fun b o nb g => ?_)))
  rw [Heap.get?_update_other _ _ (Nat.ne_of_gt (Heap.lt_size (Heap.get?_push_of_some _ (k1 b o nb g))))]
  exact Heap.get?_push_of_some _ (Heap.get?_push_of_some _ (k1 b o nb g))
end
section
open L2H
variable {X : Cx}
/-- [elt for tg in e if ..], e a tuple, while an exception is handled -/
theorem pe_lcH {elt tg e : Expr} {ifs : List Expr} {sc : Scope} {own : List (Str × Nat)} {pos : Pos} {tl : TE} {g : TG} {tt : TT} {te : TE} (hot : HotC X) (hst : X.stack = X.env :: X.outer) (hfm : X.env.frame = some X.env.locals) (nd : X.N.Nodup) (hl : PE X e tl) (ok : BlkOk X.N X.env.scope sc own)
    (pg : ∀ (s : Shared) (H : Hp) (C : Addr) (cl : List (Str × Addr)) (fp : List Addr), PG (X.blk s H sc (compEnvC sc cl C X.env) fp) tg g) (pt : ∀ (s : Shared) (H : Hp) (C : Addr) (cl : List (Str × Addr)) (fp : List Addr), PTs (X.blk s H sc (compEnvC sc cl C X.env) fp) ifs tt)
    (pe : ∀ (s : Shared) (H : Hp) (C : Addr) (cl : List (Str × Addr)) (fp : List Addr), PE (X.blk s H sc (compEnvC sc cl C X.env) fp) elt te) (fold : ∀ x, foldedSetIterable e X.env x = pure x := by intro _; rfl) : PE X (.ListComp elt [⟨tg, e, ifs, 0⟩] sc pos) (tLc (iTup X.K tl) g tt te (own.map (·.2))) := by
  refine ⟨fun pins s σ H Q I h => ?_⟩
  rw [eval_ListComp]
  have caps : ∀ y ∈ sc.names, y.2 = .free → ∃ c, X.env.cells.lookup y.1 = some c := fun y hy z => (ok.free y hy z).elim (fun k => I.ok.has _ (.inl k)) fun k => I.ok.has _ (.inr k)
  refine wpAny_comprehension_free (use := none) rfl fold (closure_ok caps) ok.kind (fun y hy z => by rw [ok.uniq y hy, z]) (thn (hl.run pins s σ H _ I h) fun xv s1 hx => ?_)
  obtain ⟨x, H1, I1, r1, a, rfl, ⟨xs, hq⟩, q⟩ := hx
  obtain rfl : xv = Value.ref a := r1
  obtain ⟨its, rv, tup, hz⟩ := I1.tuple hq
  refine wpAny_pyIter_tuple (show s1.heap.IsTuple a its.toArray from tup) ?_
  obtain ⟨it, eit⟩ : ∃ it, it = s1.heap.objs.size := ⟨_, rfl⟩
  rw [← eit]
  -- the iterator
  obtain ⟨s2, es2⟩ : ∃ s2 : Shared, s2 = { s1 with heap := s1.heap.push { cls := .type "tuple_iterator", data := .fields #[.ref a, .int 0 0] } } := ⟨_, rfl⟩
  rw [← es2]
  have k12 : ∀ b o, s1.heap.get? b = some o → s2.heap.get? b = some o := fun b o g => by rw [es2]; exact Heap.get?_push_of_some _ g
  have I2 : Inv X pins σ H1 s2 := by rw [es2]; exact I1.kept (t' := s1.toks) fun b o g => Heap.get?_push_of_some _ g
  have itr2 : s2.heap.IsTupleIter it a 0 := by rw [es2, eit]; exact ⟨_, Heap.get?_push_size _ rfl, rfl, rfl⟩
  have lt2 : it < s2.heap.objs.size := by
    obtain ⟨o, g, _⟩ := itr2
    exact Heap.lt_size g
  have n1 : H1 it = none := by rw [eit]; exact I1.hok.fresh (Nat.le_refl _)
  have fp1 : FpOk X pins H1 it := I1.fpOk (by rw [eit]; exact Nat.le_refl _) n1
  refine wpAny_newObj_type (newEnv_comp ?_) (by show 0 ≤ sizeLine; decide)
  obtain ⟨D, eD⟩ : ∃ D, D = s2.heap.objs.size := ⟨_, rfl⟩
  rw [← eD]
  have nD : H1 D = none := by rw [eD]; exact I2.hok.fresh (Nat.le_refl _)
  obtain ⟨W, ⟨m0, w0⟩, turn⟩ := q D nD
  -- the list
  obtain ⟨s3, es3⟩ : ∃ s3 : Shared, s3 = { s2 with heap := s2.heap.push { cls := .type "list", data := .seq ([] : List Value).toArray } } := ⟨_, rfl⟩
  have hp3 : s3.heap = s2.heap.push { cls := .type "list", data := .seq ([] : List Value).toArray } := by rw [es3]
  have k23 : ∀ b o, s2.heap.get? b = some o → s3.heap.get? b = some o := fun b o g => by rw [hp3]; exact Heap.get?_push_of_some _ g
  obtain ⟨H3, eH3⟩ : ∃ H3, H3 = upd H1 D (.lst []) := ⟨_, rfl⟩
  rw [← eH3] at w0
  have I3 : Inv X pins σ H3 s3 := by
    rw [es3, eH3]
    refine I2.laid (t' := s2.toks) (fun b o g => Heap.get?_push_of_some _ g) (by rw [eD]; exact Nat.le_refl _) ⟨Nat.zero_le _, [], 0, .nil, ?_⟩
    rw [eD]
    exact Heap.get?_push_size _ rfl
  have neD : it ≠ D := by rw [eD]; exact Nat.ne_of_lt lt2
  have n3 : H3 it = none := by rw [eH3, upd_ne neD]; exact n1
  have fp3 : ∀ b ∈ [it], FpOk X pins H3 b ∧ b < s3.heap.objs.size := fun b hb => by
    obtain rfl := List.mem_singleton.mp hb
    exact ⟨⟨n3, fp1.2⟩, by rw [hp3, Heap.size_push]; exact Nat.lt_succ_of_lt lt2⟩
  have I4 := block_start I3 ok nd fp3
  rw [show ({ s2 with heap := s2.heap.push { cls := .type "list", data := .seq ([] : List Value).toArray } } : Shared) = s3 from es3.symm]
  -- the block
  obtain ⟨ce, ece⟩ : ∃ ce, ce = compEnvC sc (cellsFrom (s3.heap.objs.size + 1) sc.names (cloFrom X.env.cells sc.names [])) s3.heap.objs.size X.env := ⟨_, rfl⟩
  have bg := pg s3 H3 s3.heap.objs.size (cellsFrom (s3.heap.objs.size + 1) sc.names (cloFrom X.env.cells sc.names [])) [it]
  have bt := pt s3 H3 s3.heap.objs.size (cellsFrom (s3.heap.objs.size + 1) sc.names (cloFrom X.env.cells sc.names [])) [it]
  have be := pe s3 H3 s3.heap.objs.size (cellsFrom (s3.heap.objs.size + 1) sc.names (cloFrom X.env.cells sc.names [])) [it]
  rw [← ece] at I4 bg bt be
  show codeAny _ _ (.compStart (.ListComp elt [⟨tg, e, ifs, 0⟩] sc pos) 0 (.ref it) (.ref D) (compEnvC sc (cellsFrom (s3.heap.objs.size + 1) sc.names (cloFrom X.env.cells sc.names [])) s3.heap.objs.size X.env)) (compPost (model X.prog X.w) X.A X.xe none _ (.ref D) s3.heap.objs.size) { s3 with heap := pushCells (s3.heap.push { cls := .type "dict", data := .dict #[] }) sc.names }
  rw [← ece]
  have loc : ce.locals = s3.heap.objs.size := by rw [ece]; rfl
  obtain ⟨s4, es4⟩ : ∃ s4 : Shared, s4 = { s3 with heap := pushCells (s3.heap.push { cls := .type "dict", data := .dict #[] }) sc.names } := ⟨_, rfl⟩
  rw [← es4] at I4 ⊢
  have k34 : ∀ b o, s3.heap.get? b = some o → s4.heap.get? b = some o := fun b o g => by rw [es4]; exact pushCells_keeps _ _ _ _ (Heap.get?_push_of_some _ g)
  -- the handled exception is kept in sight
  obtain ⟨p, hp1, hp2⟩ := hot
  have pin3 := I3.pin p (List.mem_append_left _ hp2)
  have I5 : Inv (X.blk s3 H3 sc ce [it]) [p] (wipe σ (own.map (·.2))) H3 s4 := by
    refine I4.pins_of fun r hr => ?_
    obtain rfl := List.mem_singleton.mp hr
    refine ⟨k34 _ _ pin3.1, pin3.2.1, ?_, ?_, pin3.2.2.2.2⟩
    · show r.1 ≠ ce.locals
      rw [loc]
      exact Nat.ne_of_lt (Heap.lt_size pin3.1)
    · intro hm
      have hm : r.1 ∈ frs X.stack := hm
      rw [hst] at hm
      obtain ⟨en, he, z⟩ := List.mem_filterMap.mp hm
      rcases List.mem_cons.mp he with he | he
      · rw [he, hfm] at z
        exact pin3.2.2.1 (Option.some.inj z).symm
      · exact pin3.2.2.2.1 (List.mem_filterMap.mpr ⟨en, he, z⟩)
  have itr4 : s4.heap.IsTupleIter it a 0 := (itr2.at fun o g => k23 _ _ g).at fun o g => k34 _ _ g
  have npi : p.1 ≠ it := fun z => by
    have z2 := fp1.2.2.2.2.2 p (List.mem_append_left _ hp2)
    exact z2 z
  have still : ∀ {σ' : L2.St} {H' : Hp} {s' : Shared}, Inv (X.blk s3 H3 sc ce [it]) [p] σ' H' s' → H' it = none → FpOk (X.blk s3 H3 sc ce [it]) [p] H' it := fun {σ' H' s'} J n => ⟨n, (J.ok.exf it (List.mem_singleton.mpr rfl)).1, J.ok.exfs it (List.mem_singleton.mpr rfl), .inl (List.mem_singleton.mpr rfl), fun y c z => (J.ok.exf it (List.mem_singleton.mpr rfl)).2 y c z, fun r hr => by
    have hr : r ∈ ([] : List (Addr × Obj)) ++ [p] := hr
    rw [List.nil_append] at hr
    obtain rfl := List.mem_singleton.mp hr
    exact npi⟩
  have loop : codeAny (model X.prog X.w) X.A (.compLoop (.ListComp elt [⟨tg, e, ifs, 0⟩] sc pos) 0 (.ref it) (.ref D) ce) (compPost (model X.prog X.w) X.A X.xe none (EP X pins σ Q) (.ref D) s3.heap.objs.size) s4 := by
    refine compLoop_any (fun n s' => ∃ i H', Inv (X.blk s3 H3 sc ce [it]) [p] (wipe σ (own.map (·.2))) H' s' ∧ s'.heap.IsTupleIter it a i ∧ H' it = none ∧ W i n H') ?_ m0 ⟨0, H3, I5, itr4, n3, w0⟩
    rintro n s5 ⟨i, H5, J5, it5, n5, w5⟩
    obtain ⟨f0, f1, f2, f3, f4, f5⟩ := still J5 n5
    rcases turn i n H5 w5 with ⟨⟨ys, hy, hlen⟩, qq⟩ | ⟨⟨ys, y, hy, hyi⟩, Nx, hNx, step⟩
    · obtain ⟨its', rv', tup', _⟩ := J5.tuple hy
      have pin5 := J5.pin p (List.mem_append_right _ (List.mem_singleton.mpr rfl))
      obtain ⟨hh, v1, e1, c1⟩ := hp1
      have hl5 := rv'.length
      refine next_end_hot (x1 := p.1) ⟨hh, p.2, v1, pin5.1, e1, c1⟩ it5 (show s5.heap.IsTuple a its'.toArray from tup') (by simp; omega) npi fun h' eb => ?_
      have J6 : Inv (X.blk s3 H3 sc ce [it]) [p] (wipe σ (own.map (·.2))) H5 { s5 with heap := h' } := J5.turned (t' := s5.toks) (fun b o hb g => eb b o hb g) f0 f1 f3 f4 f5
      have I7 : Inv X pins σ H5 { s5 with heap := h' } := I3.call' (ch := [it]) J6.os J6.base J6.hok J6.bare fun b hb => ⟨(fp3 b hb).1.2.2.2.1, (fp3 b hb).1.2.1, (fp3 b hb).1.2.2.2.2.1, (fp3 b hb).1.2.2.2.2.2⟩
      have nC : H5 s3.heap.objs.size = none := by
        have z : H5 ce.locals = none := J6.free
        rwa [loc] at z
      obtain ⟨m, hn, _⟩ := J6.loc
      have hn : Heap.Ns h' ce.locals m := hn
      rw [loc] at hn
      refine ⟨m, hn, fun h'' sb => ?_⟩
      obtain ⟨g0, g1, _, g3, g4, g5⟩ := I3.fpOk (Nat.le_refl s3.heap.objs.size) nC
      exact ⟨.ref D, H5, I7.turned (t' := s5.toks) (fun b o hb g => (sb.2 b hb).trans g) g0 g1 g3 g4 g5, rfl, qq⟩
    · obtain ⟨its', rv', tup', _⟩ := J5.tuple hy
      obtain ⟨u, hu, ru⟩ := rv'.get hyi
      refine wpAny_pyNext_tuple_item it5 (show s5.heap.IsTuple a its'.toArray from tup') (x := u) (by simpa using hu) fun h' it6 sb => ?_
      have J6 : Inv (X.blk s3 H3 sc ce [it]) [p] (wipe σ (own.map (·.2))) H5 { s5 with heap := h' } := J5.turned (t' := s5.toks) (fun b o hb g => (sb.2 b hb).trans g) f0 f1 f3 f4 f5
      obtain ⟨o6, g6, c6, d6⟩ := id it6
      refine go_of (s := { s5 with heap := h' }) g6 c6 d6 (by decide) ?_
      have J7 : Inv (X.blk s3 H3 sc ce [it]) [p, (it, o6)] (wipe σ (own.map (·.2))) H5 { s5 with heap := h' } := by
        refine J6.pins_of fun r hr => ?_
        rcases List.mem_cons.mp hr with hr | hr
        · rw [hr]
          exact J6.pin p (List.mem_append_right _ (List.mem_singleton.mpr rfl))
        · obtain rfl := List.mem_singleton.mp hr
          exact ⟨g6, f0, f1, f2, fun v z => by have z : o6.data = .cell v := z; rw [d6] at z; cases z⟩
      refine thnF (bg.run _ _ _ H5 y u _ J7 ru (step y H5 ⟨rfl, fun zs hz' => by rw [J5.tuple_inj hz' hy]; exact hyi⟩)) fun _ s8 ⟨σ8, H8, J8, hw8, q8⟩ => ?_
      refine thnF (bt.run _ s8 σ8 H8 _ J8 q8) fun b s9 ⟨H9, J9, q9⟩ => ?_
      have fin : ∀ {s' : Shared} {H' : Hp}, Inv (X.blk s3 H3 sc ce [it]) [p, (it, o6)] σ8 H' s' → Nx H' → ∃ m, m < n ∧ ∃ i H', Inv (X.blk s3 H3 sc ce [it]) [p] (wipe σ (own.map (·.2))) H' s' ∧ s'.heap.IsTupleIter it a i ∧ H' it = none ∧ W i m H' := fun {s' H'} K nx => by
        obtain ⟨m', hm, w'⟩ := hNx H' nx
        have z := K.pin (it, o6) (List.mem_append_right _ (List.mem_cons_of_mem _ (List.mem_singleton.mpr rfl)))
        have len : (wipe σ (own.map (·.2))).length = σ8.length := by rw [← hw8, wipe_length]
        refine ⟨m', hm, i + 1, H', ((K.pins_of (pins' := [p]) fun r hr => ?_).weak len fun j v g => ?_), ⟨o6, z.1, c6, d6⟩, z.2.1, w'⟩
        · obtain rfl := List.mem_singleton.mp hr
          exact K.pin r (List.mem_append_right _ List.mem_cons_self)
        · rw [← hw8] at g
          exact (wipe_some g).1
      cases b with
      | false =>
        rw [if_neg Bool.false_ne_true] at q9
        exact fin J9 q9
      | true =>
        rw [if_pos rfl] at q9
        refine thnF (be.run _ s9 σ8 H9 _ J9 q9) fun z s10 ⟨yv, H10, J10, r10, acc, hD10, hz10, nx⟩ => ?_
        exact app_ok (X := X.blk s3 H3 sc ce [it]) J10 hD10 hz10 r10 fun s11 J11 => fin J11 nx
  exact codeAny_compStart_list loop (wpAny_pyIter_tupleiter itr4 loop)
end
end TfH

set_option maxHeartbeats 8000000 in
set_option maxHeartbeats 8000000 in
/-! set() while an exception is handled -/
namespace L2
open PySem PySem.Spec PyProof.Rows HotX
section
variable {P : Program} {w : World} {A : Around} {E : Value → Shared → Prop} {s : Shared}
/-- a tuple is walked while the exception at x1 is handled -/
theorem walksH {A : Around} {x1 : Addr} {o1 : Obj} {v1 : Array Value} (hh : A.handled = some (.ref x1)) (it t x : Addr) (n1 : t ≠ it) (n2 : x1 ≠ it) (d1 : o1.data = .fields v1) (c1 : v1[2]? = some .none) (items : Array Value) (ex : x = x1 := by rfl) :
    Walks P w A it [it, t, x] [it] items.size (fun i v => items[i]? = some v) (fun i h => h.IsTupleIter it t i ∧ h.IsTuple t items ∧ h.get? x1 = some o1) := by
  subst ex
  refine ⟨fun b hb => ?_, fun i h h' st k => ?_, fun i s Q E hi st q => ?_, fun s Q E st q => ?_, fun _ _ _ _ st q => wpAny_pyIter_tupleiter st.1 q⟩
  · rw [List.mem_singleton.mp hb]
    exact List.mem_cons_self
  · exact ⟨st.1.at fun o e => k it List.mem_cons_self o e, st.2.1.at fun o e => k t (List.mem_cons_of_mem _ List.mem_cons_self) o e, k x (List.mem_cons_of_mem _ (List.mem_cons_of_mem _ List.mem_cons_self)) _ st.2.2⟩
  · refine wpAny_pyNext_tuple_item st.1 st.2.1 (x := items[i]) (by simp [hi]) fun h' st' sb => ?_
    exact q _ h' s.toks (by simp [hi]) ⟨st', st.2.1.extBut sb.extBut n1, sb.extBut _ _ n2 st.2.2⟩ fun b o hb e => sb.extBut b o (fun z => hb (List.mem_singleton.mpr z)) e
  · exact TfH.next_end_hot (x1 := x) ⟨hh, o1, v1, st.2.2, d1, c1⟩ st.1 st.2.1 (by simp) n2 fun h' eb => q h' s.toks fun b o hb e => eb b o (fun z => hb (List.mem_singleton.mpr z)) e
set_option maxHeartbeats 8000000 in
/-- set(xs), xs a tuple of texts, while the exception at x1 is handled -/
theorem setS_tupleH {l x1 : Addr} {o1 : Obj} {v1 : Array Value} {items : Array Value} {xs : List Str} {Q : Value → Shared → Prop} (hh : A.handled = some (.ref x1)) (g1 : s.heap.get? x1 = some o1) (d1 : o1.data = .fields v1) (c1 : v1[2]? = some .none) (hl : s.heap.IsTuple l items) (hv : ∀ (i : Nat) (v : Value), items[i]? = some v → ∃ x t, xs[i]? = some x ∧ v = .str x t) (hz : items.size = xs.length) (few : xs.length + 1 < scanBound)
    (h : ∀ (h' : Heap) (tk : Nat), SetS w h' s.heap.objs.size (firsts xs) → (∀ b o, s.heap.get? b = some o → h'.get? b = some o) → Q (.ref s.heap.objs.size) { s with heap := h', toks := tk }) :
    wpAny (model P w) A (call (.type "set") [.ref l]) Q E s := by
  obtain ⟨c, tl, hmro⟩ := F.called_set.mro
  have hmade := F.called_set.made
  have hsub := F.called_set.sub
  refine wpAny_call (codeAny_of_tree ?_)
  show wpAny _ _ (callAny (.type "set") _) _ _ _
  refine wpAny_pure ⟨Code.quiet_builtin _ (by decide +kernel), codeAny_builtin F.entry_type_call ?_⟩
  rw [Around.under_plain (weight_type_call_type "set" [.ref l] []) rfl]
  have h1 := F.called_set.notType
  have h2 := F.called_set.canCreate
  have hct := F.typeCall_set_1 (.ref l)
  repeat (any_goals (first | assumption | wp_step))
  refine codeAny_mono (code_set_led1 (.ref l) (E := E) (Q₁ := fun obj s₁ => obj = .ref s.heap.objs.size ∧ s₁ = { s with heap := s.heap.push (newSetO w) }) ⟨rfl, rfl⟩) fun r s₁ hr => ?_
  cases r with
  | error e => exact hr
  | ok fl =>
    cases fl with
    | ret obj =>
      obtain ⟨rfl, rfl⟩ := hr
      have hS : (s.heap.push (newSetO w)).get? s.heap.objs.size = some (newSetO w) := Heap.get?_push_size _ rfl
      have hT : Shared.TypeIs { s with heap := s.heap.push (newSetO w) } (.ref s.heap.objs.size) "set" := ⟨_, hS, rfl⟩
      have hli := F.called_set.init.lookup
      have hbi := F.called_set.init.bind (.ref s.heap.objs.size)
      repeat (any_goals (first | assumption | wp_step))
      refine codeAny_mono (codeAny_call_builtin (R := wants (fun r s₂ => r = .none ∧ ∃ h' tk, s₂ = { s with heap := h', toks := tk } ∧ SetS w h' s.heap.objs.size (firsts xs) ∧ (∀ b o, s.heap.get? b = some o → h'.get? b = some o)) E) F.called_set.init.plain F.entry_set_init (check_set_init_1 hT ?_)) fun r₂ s₂ hr₂ => ?_
      · obtain ⟨ol, hol, hcl, nl, hdl⟩ := hl
        obtain ⟨ocls, odict, odata, oslots⟩ := ol
        simp only at hcl hdl
        subst hcl; subst hdl
        have hol' : (s.heap.push (newSetO w)).get? l = some { cls := .type "tuple", dict := odict, data := .seq items nl, slots := oslots } := Heap.get?_push_of_some _ hol
        have hsls := F.sub_tuple_set
        have hslf := F.sub_tuple_frozenset
        have hne : (Value.type "tuple" == Value.type "dict") = false := by decide
        have hl1 : (s.heap.push (newSetO w)).IsTuple l items := ⟨_, hol', rfl, nl, rfl⟩
        unfold Builtin.«set.__init__» noKeywords Builtin.Frozenset.updateFrom
        generalize hPI : pyIter = PI
        wp_walk
        subst hPI
        refine wpAny_pyIter_tuple hl1 ?_
        refine wpAny_bind (wpAny_runValue ?_)
        have lt : l < s.heap.objs.size := Heap.lt_size hol
        have hh3 : A.in1.in1.in1.handled = some (.ref x1) := by simp [hh]
        have lt1 : x1 < s.heap.objs.size := Heap.lt_size g1
        have ne1 : x1 ≠ (s.heap.push (newSetO w)).objs.size := by
          rw [Heap.size_push]
          exact Nat.ne_of_lt (Nat.lt_succ_of_lt lt1)
        have sz : (s.heap.push (newSetO w)).objs.size = s.heap.objs.size + 1 := Heap.size_push ..
        have neI : l ≠ (s.heap.push (newSetO w)).objs.size := by
          rw [sz]
          exact Nat.ne_of_lt (Nat.lt_succ_of_lt lt)
        have nf : s.heap.objs.size ∉ [(s.heap.push (newSetO w)).objs.size, l, x1] := by
          rw [sz]
          simp only [List.mem_cons, List.not_mem_nil, or_false, not_or]
          exact ⟨Nat.ne_of_lt (Nat.lt_succ_self _), Nat.ne_of_gt lt, Nat.ne_of_gt lt1⟩
        refine setS_loop ((walksH hh3 _ l x1 neI ne1 d1 c1 items).toS) s.heap.objs.size nf xs hz few hv (items.size - 0) 0 _ (by omega) (Nat.zero_le _) ⟨⟨_, Heap.get?_push_size _ rfl, rfl, rfl⟩, (hl1.push _), Heap.get?_push_of_some _ (Heap.get?_push_of_some _ g1)⟩ (setS_fresh w (Heap.get?_push_of_some _ hS)) ?hR
        case hR =>
          intro s' hm hS'
          obtain ⟨h', g2, d', tk', os'⟩ := s'
          have eg : g2 = s.gens := hm.gens
          have ed : d' = s.drawn := hm.drawn
          have eo : os' = s.os := hm.os
          subst eg; subst ed; subst eo
          show wpAny _ _ _ _ _ _
          refine wpAny_pure ?_
          show wpAny _ _ (ret Value.none) _ _ _
          refine wpAny_pure ⟨rfl, h', tk', rfl, hS', fun b o e => ?_⟩
          have lb := Heap.lt_size e
          refine hm.heap b o (fun z => ?_) (Heap.get?_push_of_some _ (Heap.get?_push_of_some _ e))
          rw [sz] at z
          simp only [List.mem_cons, List.not_mem_nil, or_false] at z
          rcases z with z | z
          · exact absurd z (Nat.ne_of_lt lb)
          · exact absurd z (Nat.ne_of_lt (Nat.lt_succ_of_lt lb))
      · cases r₂ with
        | error e => exact hr₂
        | ok fl₂ =>
          cases fl₂ with
          | ret r =>
            obtain ⟨rfl, h', tk, rfl, hS', hk'⟩ := hr₂
            repeat (any_goals (first | assumption | wp_step))
            exact h _ _ hS' hk'
          | _ => exact hr₂.elim
    | _ => exact hr.elim
end
section
open L2H
variable {X : Cx}
/-- set(x), x a tuple of texts -/
def rSetH (K : PySem.W.Frag) (w : World) : List V → Hp → VK → Prop := fun vs H Q => ∃ (l : Addr) (xs : List Str), vs = [.ref l] ∧ SqT K H l (xs.map V.str) ∧ xs.length ≤ 60 ∧ ∀ p, H p = none → Q (.ref p) (upd H p (SetX w p (firsts xs)))
theorem cr_setH (hot : HotC X) : CallR X (.type "set") (rSetH X.K X.w) := by
  intro pins s σ H vs us Q I r h
  obtain ⟨l, xs, rfl, hl, hf, q⟩ := h
  rw [Vals.ref1 r]
  obtain ⟨p, ⟨hh, v1, d1, c1⟩, hp⟩ := hot
  have pin := I.pin p (List.mem_append_left _ hp)
  obtain ⟨its, rv, pl, hz⟩ := I.tuple hl
  refine setS_tupleH hh pin.1 d1 c1 pl (fun i v e => vals_txs rv i v (by simpa using e)) (by rw [List.size_toArray, ← rv.length, List.length_map]) (by unfold scanBound; omega) fun h' tk R k => ?_
  exact ⟨.ref s.heap.objs.size, _, I.laid (t' := tk) k (Nat.le_refl _) (setX_new R), rfl, q _ (I.hok.fresh (Nat.le_refl _))⟩
end
end L2

/-! x(lambda: body, e, ..): the errors of the body bear no context (L2N) -/
namespace LamN
open PySem PySem.Spec PyProof.Rows L2 LamX
/-- where the body runs -/
def cxB (X : Cx) (A : Around) (outer : List Env) (s : Shared) (H : Hp) (E : XK) (sc : Scope) (f c : Addr) : Cx :=
  (lamCx X A outer s H E sc f c).tr [] fun e s1 => wpAny (model X.prog X.w) (A.deeper (lamEnv X sc s.heap.objs.size f c)) (leaving (lamEnv X sc s.heap.objs.size f c) e) (fun _ s2 => L2N.CX X.prog X.w outer H s E e s2) (fun e2 s2 => L2N.CX X.prog X.w outer H s E e2 s2) s1
/-- what the def that got the lambda makes of it and of its further arguments -/
def Gives (X : Cx) (N : List Str) (x : Str) (sc : Scope) (g : Addr) (cd : Value) (body : List Stmt) (a q : Str) (TT : (XK → Hp → VK → Prop) → List V → Hp → VK → Prop) : Prop :=
  ∀ (f c : Addr) (s : Shared) (H : Hp) (Q : VK) (tl : XK → Hp → VK → Prop) (vs : List V),
    (∀ (W : WX) (pn : List (Addr × Obj)) (xe : Value → Shared → Prop) (E : XK) (p1 p2 : Pos), L2N.Takes ((cxOf L2.CX0 X.prog X.w X.K X.mg X.base N x sc g cd X.A X.stack s H E0).tr pn xe) W →
      PE ((cxOf L2.CX0 X.prog X.w X.K X.mg X.base N x sc g cd X.A X.stack s H E0).tr pn xe) (.Call (.Name a p1) [] [] p2) (fun σZ HZ Q => σZ[0]? = some (some (.ref f)) ∧ HZ c = some (CodeO c q) ∧ (∀ cls d H', E cls d H' → W cls d σZ H') ∧ tl E HZ Q)) →
    H c = some (CodeO c q) → TT tl vs H Q → ∃ t, PSs (cxOf L2.CX0 X.prog X.w X.K X.mg X.base N x sc g cd X.A X.stack s H E0).nox body t ∧ t { nx := fun _ H' => Q .non H', rt := Q } (L2.start N (.ref f :: vs)) H
def tGive (T : List (Addr × Str)) (TT : (XK → Hp → VK → Prop) → List V → Hp → VK → Prop) (q : Str) (n : Nat) (t : XK → TE) (t2 : TA) : TE := fun σ H Q => Tabs T H ∧ ∀ (H1 : Hp) (c : Addr), ExtN H H1 → Tabs T H1 → H1 c = some (CodeO c q) → t2 σ H1 fun vs H2 => vs.length = n ∧ H2 c = some (CodeO c q) ∧ TT (fun E H' Q' => t E σ H' Q') vs H2 Q
section
variable {X : Cx}
/-- the lambda is called -/
theorem acts {pins : List (Addr × Obj)} {σ : L2.St} {H : Hp} {s : Shared} {N : List Str} {x a : Str} {sc lsc : Scope} {g f c : Addr} {cd pm ct : Value} {ps : Arguments} {body : Expr} {k : Nat} {pn : List (Addr × Obj)} {xe : Value → Shared → Prop} {W : WX} {E : XK} {tb : TE} {p1 p2 : Pos}
    (I : Inv X pins σ H s) (L : LamS X.env.scope lsc) (hf : s.heap.get? f = some (PySem.W.kla_obj "<lambda>" (X.env.qual ++ "<lambda>") ps body lsc (cloFrom X.env.cells lsc.names []) pm c ct)) (nf : H f = none) (nfr : f ∉ frs X.stack)
    (bind : bindArgs (PySem.W.kla_fn "<lambda>" (X.env.qual ++ "<lambda>") ps body lsc (cloFrom X.env.cells lsc.names []) pm (.ref c) ct) ⟨[], []⟩ = pure []) (tk : L2N.Takes ((cxOf L2.CX0 X.prog X.w X.K X.mg X.base N x sc g cd X.A X.stack s H E0).tr pn xe) W)
    (hr : Room (k + 1) (X.A.deeper (envOfC x sc s.heap.objs.size g cd))) (hb : ∀ (A : Around) (outer : List Env) (s : Shared) (H : Hp), Room k (A.deeper (lamEnv X lsc s.heap.objs.size f c)) → PE (cxB X A outer s H E lsc f c) body tb)
    (hN : N[0]? = some a) (hv : Vis sc a) (nd : (a == ("__debug__" : Str)) = false) (nc : (a == ("__classdict__" : Str)) = false) :
    PE ((cxOf L2.CX0 X.prog X.w X.K X.mg X.base N x sc g cd X.A X.stack s H E0).tr pn xe) (.Call (.Name a p1) [] [] p2) (fun σZ HZ Q => σZ[0]? = some (some (.ref f)) ∧ HZ c = some (CodeO c (X.env.qual ++ "<lambda>")) ∧ (∀ cls d H', E cls d H' → W cls d σZ H') ∧ tb σ HZ Q) := by
  refine ⟨fun pinsZ sZ σZ HZ Q IZ h => ?_⟩
  obtain ⟨h1, h2, hW, h3⟩ := h
  refine wpAny_Call_Name_kw (thn ((pe_var (pos := p1) (i := 0) hN hv nd nc).run pinsZ sZ σZ HZ (fun v G => v = .ref f ∧ G = HZ) IZ ⟨.ref f, h1, rfl, rfl⟩) fun u s1 ⟨v, G, I1, r1, ev, eG⟩ => ?_)
  subst ev
  rw [eG] at I1
  obtain rfl : u = Value.ref f := r1
  have of1 := I1.base.keep f _ hf nf nfr (fun z => nomatch (show f ∈ ([] : List Addr) from z))
  refine PySem.W.callWith_F0 ⟨_, _, _, _, of1⟩ ?_
  obtain ⟨⟨oc, vs, t, g1, g2, g3⟩, _, _⟩ := I1.hok c _ h2
  have run : codeAny (model X.prog X.w) (X.A.deeper (envOfC x sc s.heap.objs.size g cd)) (.call (.ref f) ⟨[], []⟩) (CR (L2N.CX X.prog X.w) (envOfC x sc s.heap.objs.size g cd :: X.stack) X.prog X.w HZ s1 Q E) s1 := by
    refine PySem.W.kla_callFunE hr.depth of1 rfl L.co L.gen rfl ⟨c, oc, vs, t, rfl, g1, g2, g3⟩ ?_
    rw [bind]
    refine wpAny_pure (wpAny_newFunctionEnv (fun y hy => (L.own y hy).2) (fun y hy => (nomatch hy)) (fun h₁ hns hsb => ⟨I1.nolimit.fresh _ hsb, ?_⟩) L.kind)
    show codeAny _ _ (.expr body (lamEnv X lsc s1.heap.objs.size f c)) _ _
    have kp : ∀ b o, s1.heap.get? b = some o → h₁.get? b = some o := fun b o e => hsb.extBut b o (Nat.ne_of_lt (Heap.lt_size e)) (Heap.get?_push_of_some _ e)
    have J := lam_start2 (E := E) I L I1.env0 hr.hd I1.base hns kp (f := f) (c' := c) (tk := s1.toks + ([] : List (Str × Value)).length)
    refine PySem.W.kla_codeExpr (wpAny_mono ((hb _ _ s1 HZ (hr.deeper _)).run [] _ _ HZ Q (J.toTry _) h3) (fun v s' q => ?_) fun e s' q => q)
    obtain ⟨v', H', J', rv, q⟩ := q
    exact ⟨v', H', J'.os, J'.bare, J'.base, J'.hok, rv, q⟩
  refine wpAny_call (codeAny_mono run fun r s' q => ?_)
  match r, q with
  | .error e, q => exact tk _ _ (L2N.XE.of_call I1 hW q)
  | .ok (.ret u), q => exact I1.after q
  | .ok .next, q => exact False.elim q
  | .ok .brk, q => exact False.elim q
  | .ok .cont, q => exact False.elim q
/-- x(lambda: body, e, ..) -/
theorem pe_give {T : List (Addr × Str)} {TT : (XK → Hp → VK → Prop) → List V → Hp → VK → Prop} {x a : Str} {as N : List Str} {g c P : Addr} {k : Nat} {st : Stmt} {fd : FuncData} {ps : Arguments} {body : Expr} {lsc : Scope} {t : XK → TE} {t2 : TA} {es : List Expr} {p lpos pos : Pos}
    (F : Fun X.K x x st g fd) (hg : Gl X x) (hm : X.mg x = some (.ref g)) (hb : Binds X.K fd (a :: as) []) (S : FnScope N (a :: as) (defScope st)) (hN : N[0]? = some a) (hva : Vis (defScope st) a) (hG : ∀ cd, Gives X N x (defScope st) g cd (defBody st) a (X.env.qual ++ "<lambda>") TT)
    (TB : TabB X.base X.mg c P) (hcode : X.env.code = .ref c) (hmT : (P, X.env.qual ++ "<lambda>") ∈ T) (hu : ∀ p ∈ T, p.1 = P → p.2 = X.env.qual ++ "<lambda>") (hr : Room (k + 2) X.A) (L : LamS X.env.scope lsc)
    (hbody : ∀ (A : Around) (outer : List Env) (s : Shared) (H : Hp) (E : XK) (f c : Addr), Room k (A.deeper (lamEnv X lsc s.heap.objs.size f c)) → PE (cxB X A outer s H E lsc f c) body (t E)) (ha : PA X es t2)
    (hdef : defaultsOf ps X.env = ([], []) := by rfl) (bind : ∀ (q : Str) (cl : List (Str × Addr)) (pm cv ctv : Value), bindArgs (PySem.W.kla_fn "<lambda>" q ps body lsc cl pm cv ctv) ⟨[], []⟩ = pure [] := by intros; rfl)
    (hs : X.stack = X.env :: X.outer := by rfl) (hfm : X.env.frame = some X.env.locals := by rfl)
    (hse : starEach (.Lambda ps body lsc lpos :: es) X.env = (false, eval (.Lambda ps body lsc lpos) X.env) :: starEach es X.env := by rfl) (hpl : (backTo pos (starEach es X.env)).any (·.1) = false := by rfl)
    (hdb : (x == ("__debug__" : Str)) = false := by decide) (nd : (a == ("__debug__" : Str)) = false := by decide) (nc : (a == ("__classdict__" : Str)) = false := by decide) :
    PE X (.Call (.Name x p) (.Lambda ps body lsc lpos :: es) [] pos) (tGive T TT (X.env.qual ++ "<lambda>") as.length t t2) := by
  obtain ⟨oc, od, kV, doc, pm0, an, cdv, ct0, osl, rfl, lk, hcg⟩ := F.ex
  refine ⟨fun pins s σ H Q I h => ?_⟩
  obtain ⟨hT, h⟩ := h
  refine wpAny_Call_Name_kw (ld_glob I hg hm (PySem.W.callWith_K (h₀ := X.base) I.ok.mod.kin F.kp ?_ hse hpl) hdb)
  rw [hse]
  show wpAny _ _ (spliced ((false, eval (.Lambda ps body lsc lpos) X.env) :: backTo pos (starEach es X.env))) _ _ s
  refine Calls.spliced_cons (lam_make2 I TB hcode hmT hu hT hdef (L.has I.ok) fun f c' pm' ctv H1 s' I1 eN T1 hf hfn hfr hco => ?_)
  have hfr' : f ∉ frs (X.env :: X.outer) := by rw [← hs]; exact hfr
  have nL : f ≠ X.env.locals := fun z => hfr' (List.mem_filterMap.mpr ⟨X.env, List.mem_cons_self, by rw [hfm, z]⟩)
  have nF : f ∉ X.fs := fun hm => by
    obtain ⟨e, he, q⟩ := List.mem_filterMap.mp hm
    exact hfr' (List.mem_filterMap.mpr ⟨e, List.mem_cons_of_mem _ he, q⟩)
  have I1p : Inv X ((f, PySem.W.kla_obj "<lambda>" (X.env.qual ++ "<lambda>") ps body lsc (cloFrom X.env.cells lsc.names []) pm' c' ctv) :: pins) σ H1 s' := by
    refine I1.pins_of fun r hr => ?_
    rcases List.mem_cons.mp hr with e | e
    · subst e
      exact ⟨hf, hfn, nL, nF, fun v => by intro z; cases z⟩
    · exact I1.pin r (List.mem_append_right _ e)
  refine thn (ha.run pos _ s' σ H1 _ I1p (h H1 c' eN T1 hco)) fun us s2 ⟨vs, H2, I2p, rv, lv, hco2, q2⟩ => ⟨I2p.kIn, ?_⟩
  have I2 := ClX.unpin I2p
  have hf2 := ClX.pin_at I2p
  have hfn2 := ClX.pin_un I2p
  have lu : (Value.ref f :: us).length = (a :: as).length := by rw [List.length_cons, List.length_cons, ← rv.length, lv]
  have rc : codeAny (model X.prog X.w) X.A (.call (.ref g) ⟨.ref f :: us, []⟩) (CR L2.CX0 X.stack X.prog X.w H2 s2 Q E0) s2 := by
    have hb' := hb s2 (.ref f :: us) I2.kIn (by rw [List.append_nil]; exact lu)
    rw [List.append_nil] at hb'
    refine run_ofS (N := N) (ps := a :: as) (us := .ref f :: us) (vs := .ref f :: vs) lk hcg S hr I2.env0 hb' (.cons rfl rv) (by rw [List.length_cons, List.length_cons, lv]) fun hr' => ?_
    obtain ⟨t', ht', hq'⟩ := hG cdv f c' s2 H2 Q (fun E H' Q' => t E σ H' Q') vs (fun W pn xe E p1 p2 tk => acts I2 L hf2 hfn2 hfr (bind _ _ _ _ _) tk hr' (fun A outer s H hr2 => hbody A outer s H E f c' hr2) hN hva nd nc) hco2 q2
    exact ⟨t', ht'.nox, hq'⟩
  refine wpAny_call (codeAny_mono rc fun r s3 q => ?_)
  match r, q with
  | .error e, q => exact (show False from q).elim
  | .ok (.ret u), q => exact I2.after q
  | .ok .next, q => exact False.elim q
  | .ok .brk, q => exact False.elim q
  | .ok .cont, q => exact False.elim q
end
end LamN

/-! the law's draws: dice, roll, pick -/
namespace Tf
open PySem PySem.Spec PyProof.Rows L2
def top (i : Nat) : Stmt := PySem.Challenge.pw_treefits_k02_languages_joined.main.body.getD i (.Pass ⟨0, 0, 0, 0⟩)
abbrev sRoll : Stmt := top 16
abbrev sPick : Stmt := top 17
abbrev sDice : Stmt := top 15
theorem scRoll : FnScope ["_law_dice_here", "_law_upto", "_law_found", "_law_one", "_law_two"] ["_law_dice_here", "_law_upto"] (defScope sRoll) := ⟨rfl, rfl, rfl, by decide +kernel, rfl, by decide +kernel, by decide +kernel⟩
theorem scPick : FnScope ["_law_dice_here", "_law_items"] ["_law_dice_here", "_law_items"] (defScope sPick) := ⟨rfl, rfl, rfl, by decide +kernel, rfl, by decide +kernel, by decide +kernel⟩
theorem scDice : FnScope ["_law_script", "_law_spot", "_law_cell", "_law_great", "_law_blend"] ["_law_script", "_law_spot"] (defScope sDice) := ⟨rfl, rfl, rfl, by decide +kernel, rfl, by decide +kernel, by decide +kernel⟩
/-- roll(dice, n): a number from 0 to n - 1; the dice change -/
def spRoll : Sp := fun vs H Q _ => ∃ (d : Addr) (n : Int), vs = [.ref d, .int n] ∧ Dice H d ∧ 0 < n ∧ n < 1000000 ∧
  ∀ (r : Int) (H' : Hp), 0 ≤ r → r < n → Nr d H H' → Dice H' d → Q (.int r) H'
section
variable {P : Program} {w : World} {K : PySem.W.Frag} {mg : Str → Option Value} {base : Heap}
theorem ok_roll {f : Addr} {fd : FuncData} {k : Nat} (F : Fun K "_law_roll" "_law_roll" sRoll f fd) (mi : mg "int" = none) : FnOk P w K mg base CX0 (k + 1) f fd ["_law_dice_here", "_law_upto"] spRoll := by
  refine F.ok scRoll (fun vs H Q E h => ?_) (fun cdv A outer s H vs Q E hr h => ?_)
  · obtain ⟨d, n, rfl, _⟩ := h
    rfl
  · obtain ⟨d, n, rfl, ⟨a, b, c, ha, hd⟩, n0, n1, q⟩ := h
    refine ⟨_, pss_cons (ps_if (pt_cmpR op_gt (pe_ix ix_list (pv 0) pe_int (fun _ _ => rfl)) pe_int (nomark _))
        (pss_cons (ps_set (i := 2) scRoll.nd rfl (.inl rfl) (pe_op op_modN (pe_callTy call_int1 (by rfl) mi (by decide +kernel) (pa_cons (pe_ix ix_list (pv 0) pe_int (fun _ _ => rfl)) pa_nil)) (pv 1)))
        (pss_cons (ps_asg (pe_op op_fdivN (pe_ix ix_list (pv 0) pe_int (fun _ _ => rfl)) (pv 1)) (pg_sub (pv 0) pe_int set_list))
        (pss_one (ps_ret (pv 2))))) pss_nil)
      (pss_cons (ps_asg (pe_op op_add (pe_ix ix_list (pv 0) pe_int (fun _ _ => rfl)) pe_int) (pg_sub (pv 0) pe_int set_list))
      (pss_cons (ps_set (i := 3) scRoll.nd rfl (.inl rfl) (pe_op op_modN (pe_callTy call_int1 (by rfl) mi (by decide +kernel) (pa_cons (pe_op op_add (pe_ix ix_list (pv 0) pe_int (fun _ _ => rfl)) (pe_op op_mul pe_int (pe_ix ix_list (pv 0) pe_int (fun _ _ => rfl)))) pa_nil)) pe_int))
      (pss_cons (ps_set (i := 4) scRoll.nd rfl (.inl rfl) (pe_op op_add (pe_op op_mul (pe_op op_modN (pe_callTy call_int1 (by rfl) mi (by decide +kernel) (pa_cons (pe_op op_mul (pv 3) (pv 3)) pa_nil)) pe_int) (pv 3)) (pe_op op_mul pe_int (pe_ix ix_list (pv 0) pe_int (fun _ _ => rfl)))))
      (pss_one (ps_ret (pe_op op_modN (pe_callTy call_int1 (by rfl) mi (by decide +kernel) (pa_cons (pe_op op_fdivN (pe_op op_modN (pe_callTy call_int1 (by rfl) mi (by decide +kernel) (pa_cons (pe_op op_add (pv 4) (pe_ix ix_list (pv 0) pe_int (fun _ _ => rfl))) pa_nil)) pe_int) pe_int) pa_nil)) (pv 1))))))), ?_⟩
    have hA : SqL K H d [.int a, .int b, .int c] := lst_of hd
    refine ⟨.ref d, rfl, d, _, 0, .int a, rfl, rfl, hA, rfl, a, 0, rfl, rfl, _, rfl, ite2 (fun e => ?_) (fun e => ?_)⟩
    · refine ⟨.ref d, rfl, d, _, 0, .int a, rfl, rfl, hA, rfl, .inl ⟨a, rfl, .int n, rfl, a, n, rfl, rfl, by omega, ?_⟩⟩
      refine ⟨.ref d, rfl, d, _, 0, .int a, rfl, rfl, hA, rfl, .int n, rfl, a, n, rfl, rfl, ⟨by omega, by omega⟩, ?_⟩
      refine ⟨.ref d, rfl, d, [.int a, .int b, .int c], 0, 0, rfl, rfl, hd, rfl, ?_⟩
      refine ⟨.int (a.fmod n), rfl, q _ _ (Int.fmod_nonneg_of_pos _ n0) (Int.fmod_lt_of_pos _ n0) Nr.upd ⟨a.fdiv n, b, c, Int.fdiv_nonneg ha (by omega), upd_same⟩⟩
    · have hA' : ∀ x y z : V, SqL K (upd H d (.lst [x, y, z])) d [x, y, z] := fun x y z => lst_of upd_same
      refine ⟨.ref d, rfl, d, _, 2, .int c, rfl, rfl, hA, rfl, c, 1, rfl, rfl, ?_⟩
      refine ⟨.ref d, rfl, d, [.int a, .int b, .int c], 2, 2, rfl, rfl, hd, rfl, ?_⟩
      have hB : SqL K (upd H d (.lst [.int a, .int b, .int (c + 1)])) d [.int a, .int b, .int (c + 1)] := hA' _ _ _
      -- _law_one
      have o0 := Int.fmod_nonneg_of_pos (b + 982451653 * (c + 1)) (show (0 : Int) < 67280421310721 by decide)
      have o1 := Int.fmod_lt_of_pos (b + 982451653 * (c + 1)) (show (0 : Int) < 67280421310721 by decide)
      refine ⟨.ref d, rfl, d, _, 1, .int b, rfl, rfl, hB, rfl, .ref d, rfl, d, _, 2, .int (c + 1), rfl, rfl, hB, rfl, 982451653, c + 1, rfl, rfl, .inl ⟨by decide, by decide⟩, b, _, rfl, rfl, .inl ⟨_, rfl, _, 67280421310721, rfl, rfl, (show (67280421310721 : Int) ≠ 0 by decide), ?_⟩⟩
      -- _law_two
      refine ⟨_, rfl, _, rfl, _, _, rfl, rfl, .inl ⟨Int.lt_of_lt_of_le (by decide) o0, Int.lt_trans o1 (by decide)⟩, .inl ⟨_, rfl, _, 576460752303423433, rfl, rfl, (show (576460752303423433 : Int) ≠ 0 by decide), _, rfl, _, _, rfl, rfl, .inr ⟨Int.lt_of_lt_of_le (by decide) o0, Int.lt_trans o1 (by decide)⟩, .ref d, rfl, d, _, 2, .int (c + 1), rfl, rfl, hB, rfl, 8191, c + 1, rfl, rfl, .inl ⟨by decide, by decide⟩, _, _, rfl, rfl, ?_⟩⟩
      refine ⟨_, rfl, .ref d, rfl, d, _, 1, .int b, rfl, rfl, hB, rfl, _, b, rfl, rfl, .inl ⟨_, rfl, _, 2199023255531, rfl, rfl, (show (2199023255531 : Int) ≠ 0 by decide), _, 64, rfl, rfl, ⟨by decide, by decide⟩, .inl ⟨_, rfl, .int n, rfl, _, n, rfl, rfl, (show n ≠ 0 by omega), ?_⟩⟩⟩
      exact q _ _ (Int.fmod_nonneg_of_pos _ n0) (Int.fmod_lt_of_pos _ n0) Nr.upd ⟨a, b, c + 1, ha, upd_same⟩
/-- pick(dice, items): one of them -/
def spPick (K : PySem.W.Frag) : Sp := fun vs H Q _ => ∃ (d l : Addr) (xs : List V), vs = [.ref d, .ref l] ∧ Dice H d ∧ H l = some (.lst xs) ∧ d ≠ l ∧ xs ≠ [] ∧ xs.length < 1000 ∧
  ∀ (v : V) (H' : Hp), v ∈ xs → Nr d H H' → Dice H' d → Q v H'
theorem ok_pick {f fR : Addr} {fd fdR : FuncData} {k : Nat} (F : Fun K "_law_pick" "_law_pick" sPick f fd) (FR : Fun K "_law_roll" "_law_roll" sRoll fR fdR) (bR : Binds K fdR ["_law_dice_here", "_law_upto"] []) (gR : mg "_law_roll" = some (.ref fR)) (mi : mg "int" = none) (ml : mg "len" = none) : FnOk P w K mg base CX0 (k + 2) f fd ["_law_dice_here", "_law_items"] (spPick K) := by
  have GR : FnOk P w K mg base CX0 (k + 1) fR fdR ["_law_dice_here", "_law_upto"] spRoll := ok_roll FR mi
  refine F.ok scPick (fun vs H Q E h => ?_) (fun cdv A outer s H vs Q E hr h => ?_)
  · obtain ⟨d, l, xs, rfl, _⟩ := h
    rfl
  · obtain ⟨d, l, xs, rfl, hd, hl, ne, x0, x1, q⟩ := h
    refine ⟨_, pss_one (ps_ret (pe_ix ix_list (pv 1) (pe_call GR hr (by rfl) gR FR.kp bR .nil pass0 (pa_cons (pv 0) (pa_cons (pe_callB call_len_seq (by rfl) ml PySem.boot_len (pa_cons (pv 1) pa_nil)) pa_nil))) (fun _ _ => rfl))), ?_⟩
    have l0 : 0 < xs.length := List.length_pos_iff.mpr x0
    refine ⟨.ref l, rfl, .ref d, rfl, .ref l, rfl, l, xs, rfl, .inl (lst_of hl), d, (xs.length : Int), rfl, hd, by omega, by omega, fun r H' r0 r1 nr dc => ?_⟩
    have hi : r.toNat < xs.length := by omega
    refine ⟨l, xs, r, xs[r.toNat], rfl, rfl, lst_of (nr l _ ne.symm hl), ?_, q _ _ (List.getElem_mem hi) nr dc⟩
    exact at_of (j := r.toNat) (by omega) (List.getElem?_eq_getElem hi)
/-- dice(script, spot) -/
def spDice (K : PySem.W.Frag) : Sp := fun vs H Q _ => ∃ (a : Addr) (ns : List Int) (i : Int), vs = [.ref a, .int i] ∧ SqL K H a (ns.map V.int) ∧ 0 ≤ i ∧ i < 1000 ∧
  ∀ (d : Addr) (H' : Hp), Same H H' → H d = none → Dice H' d → Q (.ref d) H'
theorem ok_dice {f : Addr} {fd : FuncData} {k : Nat} (F : Fun K "_law_dice" "_law_dice" sDice f fd) (mi : mg "int" = none) (ml : mg "len" = none) (ma : mg "abs" = none) (mx : mg "max" = none) : FnOk P w K mg base CX0 (k + 1) f fd ["_law_script", "_law_spot"] (spDice K) := by
  refine F.ok scDice (fun vs H Q E h => ?_) (fun cdv A outer s H vs Q E hr h => ?_)
  · obtain ⟨a, ns, i, rfl, _⟩ := h
    rfl
  · obtain ⟨a, ns, i, rfl, hS, i0, i1, q⟩ := h
    refine ⟨_, pss_cons (ps_set (i := 2) scDice.nd rfl (.inl rfl) (pe_ifExp (pt_cmpR op_lt (pv 1) (pe_callB call_len_seq (by rfl) ml PySem.boot_len (pa_cons (pv 0) pa_nil)) (nomark _)) (pe_ix ix_list (pv 0) (pv 1) (fun _ _ => rfl)) (pe_op op_add (pe_op op_mul pe_int (pv 1)) pe_int)))
      (pss_cons (ps_set (i := 3) scDice.nd rfl (.inl rfl) (pe_op op_modN (pe_callTy call_int1 (by rfl) mi (by decide +kernel) (pa_cons (pe_callB call_abs (by rfl) ma (by decide +kernel) (pa_cons (pv 2) pa_nil)) pa_nil)) (pe_op op_powW (pe_op op_pow pe_int pe_int) pe_int)))
      (pss_cons (ps_set (i := 4) scDice.nd rfl (.inl rfl) (pe_op op_add (pe_op op_add (pe_op op_add (pe_op op_mul (pv 3) pe_int) (pe_op op_mul pe_int (pv 1))) (pe_op op_mul pe_int (pe_callTy call_int1 (by rfl) mi (by decide +kernel) (pa_cons (pe_cmpR op_lt (pv 2) pe_int (nomark _)) pa_nil)))) pe_int))
      (pss_one (ps_ret (pe_lst (pa_cons (pe_callB (call_max2 rfl) (by rfl) mx (by decide +kernel) (pa_cons pe_int (pa_cons (pe_op op_sub (pv 3) (pe_op op_pow pe_int pe_int)) pa_nil))) (pa_cons (pe_op op_modN (pe_callTy call_int1 (by rfl) mi (by decide +kernel) (pa_cons (pv 4) pa_nil)) pe_int) (pa_cons pe_int pa_nil)))))))), ?_⟩
    have big : (Builtin.Int.intBits ((10 : Int) ^ (59 : Int).toNat) : Int) * 11 ≤ 2 ^ 27 := by decide +kernel
    have pos : (0 : Int) < ((10 : Int) ^ (59 : Int).toNat) ^ (11 : Int).toNat := by decide +kernel
    refine ⟨.int i, rfl, .ref a, rfl, a, _, rfl, .inl hS, _, _, rfl, rfl, _, rfl, ite2 (fun e => ?_) (fun e => ?_)⟩
    · have e1 : i < ((ns.map V.int).length : Int) := of_decide_eq_true e
      have e2 : i.toNat < (ns.map V.int).length := by omega
      have e3 : i.toNat < ns.length := by rw [List.length_map] at e2; exact e2
      refine ⟨.ref a, rfl, .int i, rfl, a, _, i, .int ns[i.toNat], rfl, rfl, hS, at_of (j := i.toNat) (by omega) (by rw [List.getElem?_map, List.getElem?_eq_getElem e3]; rfl), ?_⟩
      refine ⟨_, rfl, _, rfl, .inl ⟨_, rfl, 10, 59, rfl, rfl, ⟨by decide, by decide, by decide⟩, _, 11, rfl, rfl, ⟨by decide, big⟩, _, _, rfl, rfl, (by intro z; rw [z] at pos; exact absurd pos (by decide)), ?_⟩⟩
      refine ⟨_, rfl, _, 2862933555777941757, rfl, rfl, .inr ⟨by decide, by decide⟩, .int i, rfl, 61, i, rfl, rfl, .inl ⟨by decide, by decide⟩, _, _, rfl, rfl, _, rfl, _, 0, rfl, rfl, .inr ⟨_, rfl, 13, _, rfl, rfl, .inl ⟨by decide, by decide⟩, _, _, rfl, rfl, _, 5, rfl, rfl, ?_⟩⟩
      refine ⟨_, rfl, 10, 18, rfl, rfl, ⟨by decide, by decide, by decide⟩, _, _, rfl, rfl, 0, _, rfl, _, rfl, .inl ⟨_, rfl, _, 2305843009213693951, rfl, rfl, (show (2305843009213693951 : Int) ≠ 0 by decide), ?_⟩⟩
      refine ⟨by show 3 ≤ sizeLine; decide, fun d nd => ?_⟩
      refine q d _ (same_new nd) nd ⟨_, _, 0, ?_, upd_same⟩
      show (0 : Int) ≤ if _ > (0 : Int) then _ else 0
      split <;> omega
    · refine ⟨.int i, rfl, 29, i, rfl, rfl, .inl ⟨by decide, by decide⟩, _, 12, rfl, rfl, ?_⟩
      refine ⟨_, rfl, _, rfl, .inl ⟨_, rfl, 10, 59, rfl, rfl, ⟨by decide, by decide, by decide⟩, _, 11, rfl, rfl, ⟨by decide, big⟩, _, _, rfl, rfl, (by intro z; rw [z] at pos; exact absurd pos (by decide)), ?_⟩⟩
      refine ⟨_, rfl, _, 2862933555777941757, rfl, rfl, .inr ⟨by decide, by decide⟩, .int i, rfl, 61, i, rfl, rfl, .inl ⟨by decide, by decide⟩, _, _, rfl, rfl, _, rfl, _, 0, rfl, rfl, .inr ⟨_, rfl, 13, _, rfl, rfl, .inl ⟨by decide, by decide⟩, _, _, rfl, rfl, _, 5, rfl, rfl, ?_⟩⟩
      refine ⟨_, rfl, 10, 18, rfl, rfl, ⟨by decide, by decide, by decide⟩, _, _, rfl, rfl, 0, _, rfl, _, rfl, .inl ⟨_, rfl, _, 2305843009213693951, rfl, rfl, (show (2305843009213693951 : Int) ≠ 0 by decide), ?_⟩⟩
      refine ⟨by show 3 ≤ sizeLine; decide, fun d nd => ?_⟩
      refine q d _ (same_new nd) nd ⟨_, _, 0, ?_, upd_same⟩
      show (0 : Int) ≤ if _ > (0 : Int) then _ else 0
      split <;> omega
end
end Tf

/-! mixed(dice, items): the items in a drawn order -/
namespace Tf
open PySem PySem.Spec PyProof.Rows L2
abbrev sMixed : Stmt := top 18
theorem scMixed : FnScope ["_law_dice_here", "_law_items", "_law_left", "_law_found"] ["_law_dice_here", "_law_items"] (defScope sMixed) := ⟨rfl, rfl, rfl, by decide +kernel, rfl, by decide +kernel, by decide +kernel⟩
def spMixed (K : PySem.W.Frag) : Sp := fun vs H Q _ => ∃ (d l : Addr) (zs : List Str), vs = [.ref d, .ref l] ∧ Dice H d ∧ (SqL K H l (zs.map V.str) ∨ SqT K H l (zs.map V.str)) ∧ (∀ z ∈ zs, nameB z = true) ∧ zs.length < 1000 ∧
  ∀ (ys : List Str) (p : Addr) (H' : Hp), ys.Perm zs → Nr d H H' → Dice H' d → H p = none → H' p = some (.lst (ys.map V.str)) → Q (.ref p) H'
theorem perm_erase {α : Type} : ∀ (l : List α) (i : Nat) (y : α), l[i]? = some y → (y :: l.eraseIdx i).Perm l
  | [], i, y, h => by simp at h
  | x :: l, 0, y, h => by
    have e : x = y := Option.some.inj h
    subst e
    exact List.Perm.refl _
  | x :: l, i + 1, y, h => by
    have ih := perm_erase l i y h
    show (y :: x :: l.eraseIdx i).Perm (x :: l)
    exact (List.Perm.swap x y _).trans (ih.cons x)
theorem era_map {α β : Type} (f : α → β) : ∀ (xs : List α) (j : Nat), (xs.map f).eraseIdx j = (xs.eraseIdx j).map f
  | [], _ => rfl
  | _ :: _, 0 => rfl
  | x :: xs, j + 1 => by
    show f x :: (xs.map f).eraseIdx j = f x :: (xs.eraseIdx j).map f
    rw [era_map f xs j]
section
variable {P : Program} {w : World} {K : PySem.W.Frag} {mg : Str → Option Value} {base : Heap}
theorem ok_mixed {f fR : Addr} {fd fdR : FuncData} {k : Nat} (F : Fun K "_law_mixed" "_law_mixed" sMixed f fd) (FR : Fun K "_law_roll" "_law_roll" sRoll fR fdR) (bR : Binds K fdR ["_law_dice_here", "_law_upto"] []) (gR : mg "_law_roll" = some (.ref fR)) (mi : mg "int" = none) (ml : mg "len" = none) (mL : mg "list" = none) : FnOk P w K mg base CX0 (k + 2) f fd ["_law_dice_here", "_law_items"] (spMixed K) := by
  have GR : FnOk P w K mg base CX0 (k + 1) fR fdR ["_law_dice_here", "_law_upto"] spRoll := ok_roll FR mi
  refine F.ok scMixed (fun vs H Q E h => ?_) (fun cdv A outer s H vs Q E hr h => ?_)
  · obtain ⟨d, l, zs, rfl, _⟩ := h
    rfl
  · obtain ⟨d, l, zs, rfl, hd, hl, nz, z1, q⟩ := h
    have hu : (A.deeper (envOfC "_law_mixed" (defScope sMixed) s.heap.objs.size f cdv)).units + 64 < cLine := by have := hr.un; omega
    refine ⟨_, pss_cons (ps_par (i := 2) (j := 3) (by rfl) scMixed.nd rfl rfl (by decide) rfl rfl (pa_cons (pe_callTy call_list_of (by rfl) mL (by decide +kernel) (pa_cons (pv 1) pa_nil)) (pa_cons (pe_lst pa_nil) pa_nil)) (by rfl))
      (pss_cons (ps_while PassesOwn.never (pt_cmpR (op_neD hu) (pv 2) (pe_lst pa_nil) (nomark _))
        (pss_one (ps_expr (pe_bm PySem.F.plainAttrs_list PySem.F.slot_list_append PySem.F.type_list_append mt_append (pv 3)
          (pa_cons (pe_bm PySem.F.plainAttrs_list PySem.F.slot_list_pop PySem.F.type_list_pop mt_popAt (pv 2) (pa_cons (pe_call GR hr (by rfl) gR FR.kp bR .nil pass0 (pa_cons (pv 0) (pa_cons (pe_callB call_len_seq (by rfl) ml PySem.boot_len (pa_cons (pv 2) pa_nil)) pa_nil))) pa_nil)) pa_nil)))))
      (pss_one (ps_ret (pv 3)))), ?_⟩
    refine ⟨.ref l, rfl, l, zs.map V.str, rfl, hl, fun pl npl => ⟨Nat.zero_le _, fun pf npf => ⟨_, _, rfl, ?_⟩⟩⟩
    have s1 : Same H (upd H pl (.lst (zs.map V.str))) := same_new npl
    have nf1 : H pf = none := s1.free npf
    have npp : pl ≠ pf := fun e => by rw [← e, upd_same] at npf; cases npf
    obtain ⟨a0, b0, c0, ha0, hd0⟩ := hd
    have ndl : pl ≠ d := (ne_of_none hd0 npl).symm
    have ndf : pf ≠ d := (ne_of_none hd0 nf1).symm
    refine ⟨fun m σ H3 => ∃ ls fs : List Str, m = ls.length ∧ σ = [some (.ref d), some (.ref l), some (.ref pl), some (.ref pf)] ∧ (fs ++ ls).Perm zs ∧ (∀ b o, b ≠ d → H b = some o → H3 b = some o) ∧ Dice H3 d ∧ H3 pl = some (.lst (ls.map V.str)) ∧ H3 pf = some (.lst (fs.map V.str)),
      ⟨zs.length, zs, [], rfl, rfl, List.Perm.refl _, ?_, ?_, ?_, ?_⟩, ?_⟩
    · intro b o nb e
      rw [upd_ne (ne_of_none e nf1), upd_ne (ne_of_none e npl)]
      exact e
    · refine ⟨a0, b0, c0, ha0, ?_⟩
      rw [upd_ne ndf.symm, upd_ne ndl.symm]
      exact hd0
    · rw [upd_ne npp, upd_same]
    · rw [upd_same]
      rfl
    · rintro m σ H3 ⟨ls, fs, rfl, rfl, pm, kp, dc, el, ef⟩
      have nls : ∀ z ∈ ls, nameB z = true := fun z hz => nz z (pm.mem_iff.mp (List.mem_append_right _ hz))
      have lenp := pm.length_eq
      rw [List.length_append] at lenp
      refine ⟨.ref pl, rfl, Nat.zero_le _, fun t nt => ?_⟩
      have st : Same H3 (upd H3 t (.lst [])) := same_new nt
      refine ⟨.list (dS ls), .list (dS []), dp_list (lst_of (st _ _ el)), dp_list (zs := []) (lst_of upd_same), shaped_list nls, shaped_list (zs := []) (by intro z hz; cases hz), ?_⟩
      rw [eqv_lists]
      have dc2 : Dice (upd H3 t (.lst [])) d := dc.same st
      have el2 := st _ _ el
      have ef2 := st _ _ ef
      have kp2 : ∀ b o, b ≠ d → H b = some o → (upd H3 t (.lst [])) b = some o := fun b o nb e => st _ _ (kp b o nb e)
      generalize upd H3 t (.lst []) = H4 at dc2 el2 ef2 kp2 ⊢
      cases ls with
      | nil =>
        refine ⟨false, by simp, ?_⟩
        refine ⟨.ref pf, rfl, q fs pf H4 (by simpa using pm) kp2 dc2 nf1 ef2⟩
      | cons z ls =>
        have lz : ((z :: ls).map V.str).length = ls.length + 1 := by simp
        refine ⟨true, by simp, fun σ' H' => ∃ ls' fs' : List Str, ls'.length < (z :: ls).length ∧ σ' = [some (.ref d), some (.ref l), some (.ref pl), some (.ref pf)] ∧ (fs' ++ ls').Perm zs ∧ (∀ b o, b ≠ d → H b = some o → H' b = some o) ∧ Dice H' d ∧ H' pl = some (.lst (ls'.map V.str)) ∧ H' pf = some (.lst (fs'.map V.str)), fun σ' H' ⟨ls', fs', h1, h2, h3⟩ => ⟨ls'.length, h1, ls', fs', rfl, h2, h3⟩, ?_⟩
        refine ⟨.ref pf, rfl, .inl ⟨rfl, _, lst_of ef2⟩, .ref pl, rfl, .inl ⟨rfl, _, lst_of el2⟩, .ref d, rfl, .ref pl, rfl, pl, _, rfl, .inl (lst_of el2), d, _, rfl, dc2, ?_, ?_, fun r H5 r0 r1 nr dc5 => ?_⟩
        · rw [lz]; omega
        · rw [lz]
          have : (z :: ls).length = ls.length + 1 := rfl
          omega
        · rw [lz] at r1
          have el5 := nr pl _ ndl el2
          have ef5 := nr pf _ ndf ef2
          have hi : r.toNat < (z :: ls).length := by show r.toNat < ls.length + 1; omega
          have gi : ((z :: ls).map V.str)[r.toNat]? = some (.str (z :: ls)[r.toNat]) := by rw [List.getElem?_map, List.getElem?_eq_getElem hi]; rfl
          have pe := perm_erase (z :: ls) r.toNat _ (List.getElem?_eq_getElem hi)
          refine ⟨pl, _, r, r.toNat, _, rfl, rfl, el5, by omega, by omega, ?_, gi, ?_⟩
          · exact PySem.seqIndex_of r0 (by rw [lz]; exact r1)
          · refine ⟨pf, _, _, rfl, rfl, by rw [upd_ne npp.symm]; exact ef5, ?_, ?_⟩
            · rw [List.length_map]
              exact small1000 (by omega)
            · refine ⟨(z :: ls).eraseIdx r.toNat, fs ++ [(z :: ls)[r.toNat]], ?_, rfl, ?_, ?_, ?_, ?_, ?_⟩
              · have := pe.length_eq
                rw [List.length_cons] at this
                omega
              · rw [List.append_assoc]
                exact (pe.append_left fs).trans pm
              · intro b o nb e
                have nbp : b ≠ pl := fun z => by rw [z, npl] at e; cases e
                have nbf : b ≠ pf := fun z => by rw [z, nf1] at e; cases e
                rw [upd_ne nbf, upd_ne nbp]
                exact nr b o nb (kp2 b o nb e)
              · obtain ⟨a5, b5, c5, h5, e5⟩ := dc5
                exact ⟨a5, b5, c5, h5, by rw [upd_ne ndf.symm, upd_ne ndl.symm]; exact e5⟩
              · rw [upd_ne npp, upd_same, era_map]
              · rw [upd_same, List.map_append]
                rfl
end
end Tf

/-! is_name -/
namespace Tf
open PySem PySem.Spec PyProof.Rows L2
abbrev sName : Stmt := top 10
theorem scName : FnScope ["value", "sign"] ["value"] (defScope sName) := ⟨rfl, rfl, rfl, by decide +kernel, rfl, by decide +kernel, by decide +kernel⟩
/-- not a text -/
def NoStr (K : PySem.W.Frag) (H : Hp) (x : V) : Prop := ∃ t : String, TyX K H x (.type t) ∧ kitB t "str" = some false
/-- a text of at most a thousand signs, or no text -/
def Some1 (K : PySem.W.Frag) (H : Hp) (x : V) : Prop := (∃ z : Str, x = .str z ∧ z.length ≤ 1000) ∨ NoStr K H x
/-- whether a value is a name -/
def isN : V → Bool
  | .str z => nameB z
  | _ => false
def spName (K : PySem.W.Frag) : Sp := fun vs H Q _ => ∃ x : V, vs = [x] ∧ Some1 K H x ∧ ((∃ z, x = .str z) ∨ isN x = false) ∧ ∀ H', Same H H' → Q (.bl (isN x)) H'
section
variable {P : Program} {w : World} {K : PySem.W.Frag} {mg : Str → Option Value} {base : Heap}
theorem ok_name {f : Addr} {fd : FuncData} {k : Nat} {t8 ts : Tok} (F : Fun K "is_name" "is_name" sName f fd) (mI : mg "isinstance" = none) (mS : mg "str" = none) (mL : mg "len" = none) (mA : mg "all" = none) (g8 : mg "MAX_SIGNS" = some (.int 8 t8)) (gs : mg "SIGNS" = some (.str signs ts)) : FnOk P w K mg base CX0 (k + 1) f fd ["value"] (spName K) := by
  refine F.ok scName (fun vs H Q E h => ?_) (fun cdv A outer s H vs Q E hr h => ?_)
  · obtain ⟨x, rfl, _⟩ := h
    rfl
  · obtain ⟨x, rfl, h1, h2, q⟩ := h
    refine ⟨_, pss_cons (ps_if (PW.pt (pw_or (pt_not (pt_val (pe_callB call_isi (by rfl) mI (by decide +kernel) (pa_cons (pv 0) (pa_cons (pe_bltn (v := .ty "str") (by rfl) mS (by decide +kernel) rfl) pa_nil)))))
          (pw_or1 (pt_not (pt_chain op_le op_le pe_int (pe_callB call_len_str (by rfl) mL PySem.boot_len (pa_cons (pv 0) pa_nil)) (pe_glob (v := .int 8) rfl g8 ⟨_, rfl⟩))))))
        (pss_one (ps_ret pe_bl)) pss_nil)
      (pss_one (ps_ret (pe_callB (cr_all rfl) (by rfl) mA (by decide +kernel) (pa_cons (pe_lc (own := [("sign", 1)]) (g := gName 1) (tt := tYes) (by rfl) scName.nd (pi_str (pv 0)) (blkOk_by (own := [("sign", 1)]) (N := ["value", "sign"]) (sc := defScope sName) (by decide +kernel)) (fun _ _ _ _ _ => pg_name (i := 1) scName.nd rfl (Or.inl rfl)) (fun _ _ _ _ _ => pts_nil)
          (fun _ _ _ _ _ => pe_cmpR op_in_sign (pv 1) (pe_glob (v := .str signs) rfl gs ⟨_, rfl⟩) (by rfl))) pa_nil)))), ?_⟩
    rcases h1 with ⟨z, rfl, hz⟩ | ⟨t, ht, kt⟩
    · have zs : z.length ≤ sizeLine := Nat.le_trans hz (by decide)
      refine ⟨.str z, rfl, .str z, .ty "str", .type "str", .type "str", true, rfl, .ty _, .base (.str z), kit_ty (by decide +kernel), true, rfl, iteF ?_⟩
      refine ⟨.str z, rfl, z, rfl, zs, 1, (z.length : Int), rfl, rfl, _, rfl, ?_⟩
      have bad : (¬ (1 ≤ z.length ∧ z.length ≤ 8)) → Q (.bl false) H := fun c => by
        have e : isN (.str z) = false := by
          show nameB z = false
          cases hb : nameB z with
          | false => rfl
          | true => exact absurd (nameB_len hb) c
        rw [e] at q
        exact q H (Same.refl H)
      refine ite2 (fun c1 => ?_) (fun c1 => ⟨false, rfl, iteT (bad ?_)⟩)
      · have c1' : (1 : Int) ≤ (z.length : Int) := of_decide_eq_true c1
        refine ⟨(z.length : Int), 8, rfl, rfl, _, rfl, ?_⟩
        by_cases c2 : z.length ≤ 8
        · have d2 : decide ((z.length : Int) ≤ 8) = true := decide_eq_true (by omega)
          rw [d2]
          refine iteF ?_
          -- the signs
          refine ⟨.str z, rfl, z, rfl, fun D nD => lc_on (h := fun c => V.str ⟨#[c]⟩) walk_txt rfl (fun _ => true) (fun c => .bl (decide (c ∈ signs.cps.toList))) nD (fun _ _ => trivial) ?_ (fun c _ H2 _ => tto_yes) (fun c _ _ H2 s2 Q' q' => ⟨_, rfl, c, signs, rfl, rfl, q' H2 (Same.refl H2)⟩) fun H2 s2 e2 => ?_⟩
          · rw [Array.length_toList]
            show z.length < 100000
            omega
          · refine ⟨D, z.cps.toList.map fun c => decide (c ∈ signs.cps.toList), rfl, lst_of ?_, ?_⟩
            · rw [e2, List.map_map, fil_true]
              rfl
            · have e : isN (.str z) = (z.cps.toList.map fun c => decide (c ∈ signs.cps.toList)).all id := by
                show nameB z = _
                unfold nameB
                rw [decide_eq_true (show 1 ≤ z.length by omega), decide_eq_true c2, List.all_map]
                rfl
              rw [e] at q
              exact q H2 s2
        · have d2 : decide ((z.length : Int) ≤ 8) = false := decide_eq_false (by omega)
          rw [d2]
          exact iteT (bad (by omega))
      · have c1' : ¬ (1 : Int) ≤ (z.length : Int) := fun z => c1 (decide_eq_true z)
        omega
    · refine ⟨x, rfl, x, .ty "str", .type t, .type "str", false, rfl, .ty _, ht, kit_ty kt, false, rfl, iteT ?_⟩
      have e : isN x = false := by
        rcases h2 with ⟨z, rfl⟩ | e
        · cases ht with
          | base b =>
            cases b
            exact absurd kt (by decide +kernel)
        · exact e
      rw [e] at q
      exact iteT (q H (Same.refl H))
end
end Tf

/-! different_names -/
namespace Tf
open PySem PySem.Spec PyProof.Rows L2
abbrev veBm : List Value := [.type "ValueError", .type "Exception", .type "BaseException", .type "object"]
/-- an error class over TreeError -/
abbrev TreeTxt (P : Program) (K : PySem.W.Frag) (mg : Str → Option Value) (x : Str) (C D fI : Addr) : Prop := PySem.TfS.SupTxt P K mg "ValueError" "ValueError.__new__" "ValueError" "ValueError.__init__" x "message" "TreeError.__init__" [] C D fI
theorem pmk_tree {X : Cx} {x : Str} {C D fI : Addr} {a : Expr} {ta : TA} {p pos : Pos} {k : Nat} (T : TreeTxt X.prog X.K X.mg x C D fI) (hr : Room k X.A) (ha : PA X [a] ta) (hg : Gl X x := by rfl) (hdb : (x == ("__debug__" : Str)) = false := by decide)
    (he : starEach (a :: []) X.env = (false, eval a X.env) :: starEach [] X.env := by rfl) (hpl : (backTo pos (starEach [] X.env)).any (·.1) = false := by rfl) : L2N.PMk X (.Call (.Name x p) [a] [] pos) (tMkS C ta) :=
  pmk_supN PySem.W.kxs_ValueError (PySem.TfS.init_of PySem.F.excBase_ValueError) PySem.F.excBase_ValueError T hr ha (by decide +kernel) (by decide +kernel) (by decide +kernel) (by decide +kernel) (by decide +kernel) (fun _ _ _ _ _ _ _ _ _ _ _ _ => rfl) hg hdb he hpl
abbrev sDiff : Stmt := top 11
theorem scDiff : FnScope ["values", "value"] ["values"] (defScope sDiff) := ⟨rfl, rfl, rfl, by decide +kernel, rfl, by decide +kernel, by decide +kernel⟩
/-- not a tuple -/
def NoTup (K : PySem.W.Frag) (H : Hp) (x : V) : Prop := ∃ t : Value, TyX K H x t ∧ PySem.W.kitOne K t (.type "tuple") = some false
/-- a value that may stand in a tuple of names -/
def Item (K : PySem.W.Frag) (H : Hp) (x : V) : Prop := Some1 K H x ∧ ((∃ z, x = .str z) ∨ isN x = false)
/-- the texts among the values -/
def txts (xs : List V) : List Str := xs.filterMap fun x => match x with | .str z => some z | _ => none
def spDiff (K : PySem.W.Frag) (CI : Addr) : Sp := fun vs H Q E => ∃ x : V, vs = [x] ∧
  ((NoTup K H x ∧ ∀ H', Same H H' → E (.ref CI) none H') ∨
   (∃ (a : Addr) (xs : List V), x = .ref a ∧ SqT K H a xs ∧ (∀ y ∈ xs, ∀ H', Same H H' → Item K H' y) ∧ xs.length ≤ 60 ∧
     (xs.all isN = false → ∀ H', Same H H' → E (.ref CI) none H') ∧
     (xs.all isN = true → ∀ (p : Addr) (H' : Hp), Same H H' → H p = none → H' p = some (.tup ((canon (txts xs)).map V.str)) → Q (.ref p) H')))
theorem ty_tup {K : PySem.W.Frag} {H : Hp} {a : Addr} {xs : List V} (h : SqT K H a xs) : TyX K H (.ref a) (.type "tuple") := by
  rcases h with (h | ⟨o, h⟩) | h
  · exact .base (.tup h)
  · exact .fTuple h
  · obtain ⟨o, its, n, h1, h2, h3, h4⟩ := h
    exact .kTuple h1 h2
theorem txts_cons_str (z : Str) (xs : List V) : txts (.str z :: xs) = z :: txts xs := rfl
theorem all_names : ∀ {xs : List V}, xs.all isN = true → xs = (txts xs).map V.str ∧ ∀ z ∈ txts xs, nameB z = true
  | [], _ => ⟨rfl, fun z hz => by cases hz⟩
  | x :: xs, h => by
    have h2 : (isN x && xs.all isN) = true := h
    rw [Bool.and_eq_true] at h2
    obtain ⟨e, n⟩ := all_names h2.2
    cases x with
    | str z =>
      rw [txts_cons_str]
      refine ⟨by rw [List.map_cons, ← e], fun y hy => ?_⟩
      rcases List.mem_cons.mp hy with rfl | hy
      · exact h2.1
      · exact n y hy
    | _ => exact absurd h2.1 (by intro z; cases z)
section
variable {P : Program} {w : World} {K : PySem.W.Frag} {mg : Str → Option Value} {base : Heap}
theorem ok_diff {f fN CI CT fI : Addr} {fd fdN : FuncData} {k : Nat} (F : Fun K "different_names" "different_names" sDiff f fd) (T : TreeTxt P K mg "InvalidLanguage" CI CT fI) (GN : FnOk P w K mg base CX0 (k + 1) fN fdN ["value"] (spName K)) (bN : Binds K fdN ["value"] []) (gN : mg "is_name" = some (.ref fN)) (kN : PySem.W.keepIn K (.ref fN) = true)
    (mI : mg "isinstance" = none) (mT : mg "tuple" = none) (mA : mg "all" = none) (mS : mg "sorted" = none) (mL : mg "list" = none) : FnOk P w K mg base (L2N.CX P w) (k + 3) f fd ["values"] (spDiff K CI) := by
  refine F.okN scDiff (fun vs H Q E h => ?_) (fun cdv A outer s H vs Q E hr h => ?_)
  · obtain ⟨x, rfl, _⟩ := h
    rfl
  · obtain ⟨x, rfl, h⟩ := h
    refine ⟨_, pss_cons (ps_if (PW.pt (pw_or (pt_not (pt_val (pe_callB call_isi (by rfl) mI (by decide +kernel) (pa_cons (pv 0) (pa_cons (pe_bltn (v := .ty "tuple") (by rfl) mT (by decide +kernel) rfl) pa_nil)))))
          (pw_or1 (pt_not (pt_val (pe_callB (cr_all rfl) (by rfl) mA (by decide +kernel) (pa_cons (pe_lc (own := [("value", 1)]) (g := gName 1) (tt := tYes) (by rfl) scDiff.nd (pi_tup (pv 0)) (blkOk_by (own := [("value", 1)]) (N := ["values", "value"]) (sc := defScope sDiff) (by decide +kernel)) (fun _ _ _ _ _ => pg_name (i := 1) scDiff.nd rfl (Or.inl rfl)) (fun _ _ _ _ _ => pts_nil)
            (fun _ _ _ _ _ => pe_call GN (hr.mono (by omega)) (by rfl) gN kN bN .nil pass0 (pa_cons (pv 1) pa_nil))) pa_nil)))))))
        (pss_one (L2N.ps_raise rfl (L2N.takes_of rfl rfl rfl rfl) (pmk_tree T hr (pa_cons pe_str pa_nil)))) pss_nil)
      (pss_one (ps_ret (pe_callTy call_tuple_of (by rfl) mT (by decide +kernel) (pa_cons (pe_callB cr_sortedS (by rfl) mS (by decide +kernel) (pa_cons (pe_callTy (call_list_dK rfl) (by rfl) mL (by decide +kernel) (pa_cons
        (pe_dc (own := [("value", 1)]) (g := gName 1) (tt := tYes) (by rfl) scDiff.nd (pi_tup (pv 0)) (blkOk_by (own := [("value", 1)]) (N := ["values", "value"]) (sc := defScope sDiff) (by decide +kernel)) (fun _ _ _ _ _ => pg_name (i := 1) scDiff.nd rfl (Or.inl rfl)) (fun _ _ _ _ _ => pts_nil) (fun _ _ _ _ _ => pv 1) (fun _ _ _ _ _ => pe_bl)) pa_nil)) pa_nil)) pa_nil)))), ?_⟩
    rcases h with ⟨⟨t, ht, kt⟩, hE⟩ | ⟨a, xs, rfl, hS, hI, hl, hE, hQ⟩
    · refine ⟨x, rfl, x, .ty "tuple", t, .type "tuple", false, rfl, .ty _, ht, kt, false, rfl, iteT (iteT ?_)⟩
      exact ⟨_, rfl, hE H (Same.refl H)⟩
    · refine ⟨.ref a, rfl, .ref a, .ty "tuple", .type "tuple", .type "tuple", true, rfl, .ty _, ty_tup hS, kit_ty (by decide +kernel), true, rfl, iteF ?_⟩
      refine ⟨.ref a, rfl, a, rfl, ⟨_, hS⟩, fun D nD => lc_map (h := fun x : V => x) (xs := xs) (by rw [List.map_id']; exact walk_tup) rfl (fun x => .bl (isN x)) nD (fun H2 s2 => s2.tup hS) (by omega) (fun x hx H2 s2 Q' q' => ?_) fun H2 s2 e2 => ?_⟩
      · obtain ⟨i1, i2⟩ := hI x hx H2 s2
        exact ⟨x, rfl, x, rfl, i1, i2, fun H3 s3 => q' H3 s3⟩
      · refine ⟨D, xs.map isN, rfl, lst_of (by rw [e2, List.map_map]; rfl), ?_⟩
        rw [List.all_map]
        cases ha : xs.all isN with
        | false =>
          have e : xs.all (id ∘ isN) = false := ha
          rw [e]
          exact ⟨false, rfl, iteT ⟨_, rfl, hE ha H2 s2⟩⟩
        | true =>
          have e : xs.all (id ∘ isN) = true := ha
          rw [e]
          obtain ⟨ex, nx⟩ := all_names ha
          generalize txts xs = zs at ex nx hQ
          subst ex
          rw [List.length_map] at hl
          refine ⟨true, rfl, iteF ?_⟩
          have hS2 := s2.tup hS
          refine ⟨.ref a, rfl, a, rfl, ⟨_, hS2⟩, fun D3 nD3 => dc_tup (xs := zs.map V.str) (fun i H3 => Same H2 H3 ∧ H3 D3 = some (.dK ((firsts (zs.take i)).map keyT))) ⟨same_new nD3, by rw [upd_same]; rfl⟩ (fun i H3 _ p => p.1.tup hS2) (fun i x H3 hx p => ?_) fun H3 p => ?_⟩
          · obtain ⟨s3, e3⟩ := p
            rw [List.getElem?_map] at hx
            cases hz : zs[i]? with
            | none => rw [hz] at hx; cases hx
            | some z =>
              rw [hz] at hx
              have ex : V.str z = x := Option.some.inj hx
              subst ex
              have hi : i < zs.length := (List.getElem?_eq_some_iff.mp hz).1
              have tk : zs.take (i + 1) = zs.take i ++ [z] := by rw [List.take_add_one, hz]; rfl
              refine ⟨by simp [wipe], ?_⟩
              unfold tYes
              simp only [↓reduceIte]
              refine ⟨_, rfl, _, Sum.inr z, rfl, e3, ?_, ?_, ?_⟩
              · have := firsts_len (zs.take i)
                rw [List.length_map]
                rw [List.length_take] at this
                exact small1000 (by omega)
              · exact s3.mut nD3
              · rw [upd_same, put_keyT, ← firsts_snoc, ← tk]
          · obtain ⟨s3, e3⟩ := p
            rw [List.length_map, List.take_length] at e3
            refine ⟨D3, _, rfl, e3, fun p4 n4 => ?_⟩
            have fl := firsts_len zs
            refine ⟨p4, firsts zs, rfl, lst_of ?_, by omega, fun ys p5 pm so n5 => ?_⟩
            · rw [upd_same, List.map_map]
              rfl
            · have ey : ys = canon zs := canon_is pm so
              subst ey
              refine ⟨p5, _, rfl, .inl ⟨lst_of upd_same, fun p6 n6 => ?_⟩⟩
              have s6 := ((s2.trans s3).new n4 |>.new n5).new (o := .tup ((canon zs).map V.str)) n6
              exact hQ ha p6 _ s6 (((s2.trans s3).new n4 |>.new n5).free n6) upd_same
end
end Tf

/-! Language.__init__ -/
namespace Tf
open PySem PySem.Spec PyProof.Rows L2
abbrev sLang : Stmt := top 13
abbrev sInit : Stmt := inClass sLang 0
theorem scInit : FnScope ["self", "kinds", "marks", "kind"] ["self", "kinds", "marks"] (defScope sInit) := ⟨rfl, rfl, rfl, by decide +kernel, rfl, by decide +kernel, by decide +kernel⟩
/-- a language stands at a: its marks and kinds -/
def LangAt (C : Addr) (H : Hp) (a : Addr) (ms ks : List Str) : Prop := ∃ dx fs pm pk, H a = some (.ins C dx fs) ∧ fs.lookup ("own_marks" : Str) = some (.ref pm) ∧ fs.lookup ("own_kinds" : Str) = some (.ref pk) ∧ H pm = some (.tup (ms.map V.str)) ∧ H pk = some (.tup (ks.map V.str)) ∧ fs.map (·.1) = [("own_marks" : Str), "own_kinds"]
theorem LangAt.same {C : Addr} {H H' : Hp} {a : Addr} {ms ks : List Str} (h : LangAt C H a ms ks) (s : Same H H') : LangAt C H' a ms ks := by
  obtain ⟨dx, fs, pm, pk, h1, h2, h3, h4, h5, h6⟩ := h
  exact ⟨dx, fs, pm, pk, s _ _ h1, h2, h3, s _ _ h4, s _ _ h5, h6⟩
/-- whether these marks and kinds make a language -/
def langOk (ms ks : List Str) : Bool := (decide ((canon ms).length ≤ 8) && (decide (1 ≤ (canon ks).length) && decide ((canon ks).length ≤ 4))) && !(canon ks).any fun k => decide (k ∈ canon ms)
/-- marks ms, the value kv as kinds: it is done, or refused -/
def Makes (K : PySem.W.Frag) (H0 : Hp) (ms : List V) (kv : V) (good : List Str → Prop) (bad : Prop) : Prop :=
  (∀ y ∈ ms, ∀ H', Same H0 H' → Item K H' y) ∧ ms.length ≤ 60 ∧
  ((ms.all isN = false → bad) ∧ (ms.all isN = true →
    (((∀ H', Same H0 H' → NoTup K H' kv) ∧ bad) ∨
     ∃ (a : Addr) (ks : List V), kv = .ref a ∧ SqT K H0 a ks ∧ (∀ y ∈ ks, ∀ H', Same H0 H' → Item K H' y) ∧ ks.length ≤ 60 ∧
      (ks.all isN = false → bad) ∧ (ks.all isN = true → langOk (txts ms) (txts ks) = false → bad) ∧ (ks.all isN = true → langOk (txts ms) (txts ks) = true → good (txts ks)))))
def spBody (K : PySem.W.Frag) (C CI : Addr) : Sp := fun vs H Q E => ∃ (x pm dx : Addr) (kv : V) (ms : List V) (H0 : Hp), vs = [.ref x, kv, .ref pm] ∧ Same H0 H ∧ H0 x = none ∧ H x = some (.ins C dx []) ∧ H pm = some (.tup ms) ∧
  Makes K H0 ms kv (fun ks => ∀ H', Same H0 H' → LangAt C H' x (canon (txts ms)) (canon ks) → Q .non H') (∀ H', Same H0 H' → E (.ref CI) none H')
theorem flat_strs (zs : List Str) : (zs.map V.str).all flatV = true := by
  rw [List.all_map]
  exact List.all_eq_true.mpr fun _ _ => rfl
theorem any_congr {α : Type} {xs : List α} {p q : α → Bool} (h : ∀ z, p z = q z) : xs.any p = xs.any q := by rw [show p = q from funext h]
theorem inV_strs (z : Str) (zs : List Str) : inV (.str z) (zs.map V.str) = decide (z ∈ zs) := by
  unfold inV
  rw [List.any_map]
  by_cases h : z ∈ zs
  · rw [decide_eq_true h]
    exact List.any_eq_true.mpr ⟨z, h, show (z == z) = true by simp⟩
  · rw [decide_eq_false h]
    refine List.any_eq_false.mpr fun y hy e => h ?_
    have e' : (y == z) = true := e
    rw [← beq_iff_eq.mp e']
    exact hy
section
variable {P : Program} {w : World} {K : PySem.W.Frag} {mg : Str → Option Value} {base : Heap}
/-- what of the class Language the written part tells -/
structure LCls (K : PySem.W.Frag) (C : Addr) : Prop where
  cl : Cls K C
  nm : NoAttr K C "own_marks"
  nk : NoAttr K C "own_kinds"
theorem body_init {f fD CI CT fI C : Addr} {fdD : FuncData} {k : Nat} {t8 t4 : Tok} (L : LCls K C) (T : TreeTxt P K mg "InvalidLanguage" CI CT fI) (GD : FnOk P w K mg base (L2N.CX P w) k fD fdD ["values"] (spDiff K CI)) (bD : Binds K fdD ["values"] []) (gD : mg "different_names" = some (.ref fD)) (kD : PySem.W.keepIn K (.ref fD) = true)
    (mL : mg "len" = none) (mA : mg "any" = none) (g8 : mg "MAX_MARKS" = some (.int 8 t8)) (g4 : mg "MAX_KINDS" = some (.int 4 t4))
    (cdv : Value) (A : Around) (outer : List Env) (s : Shared) (H : Hp) (vs : List V) (Q : VK) (E : XK) (hr : Room k (A.deeper (envOfC "Language.__init__" (defScope sInit) s.heap.objs.size f cdv))) (h : spBody K C CI vs H Q E) :
    ∃ t, PSs (cxOf (L2N.CX P w) P w K mg base ["self", "kinds", "marks", "kind"] "Language.__init__" (defScope sInit) f cdv A outer s H E) (defBody sInit) t ∧ t { nx := fun _ H' => Q .non H', rt := Q } (start ["self", "kinds", "marks", "kind"] vs) H := by
  obtain ⟨x, pm, dx, kv, ms, H0, rfl, s0, nx, hx, hpm, mi, ml, mb, mk⟩ := h
  refine ⟨_, pss_cons (ps_fld (pv 0) (pe_call GD hr (by rfl) gD kD bD .nil (L2N.passes_call (L2N.takes_of rfl rfl rfl rfl) (fun _ _ _ _ h => h)) (pa_cons (pv 2) pa_nil)) rfl)
    (pss_cons (ps_fld (pv 0) (pe_call GD hr (by rfl) gD kD bD .nil (L2N.passes_call (L2N.takes_of rfl rfl rfl rfl) (fun _ _ _ _ h => h)) (pa_cons (pv 1) pa_nil)) rfl)
    (pss_cons (ps_if (PW.pt (pw_or (pt_cmpR op_gt (pe_callB call_len_seq (by rfl) mL PySem.boot_len (pa_cons (pe_fld (pv 0) rfl) pa_nil)) (pe_glob (v := .int 8) rfl g8 ⟨_, rfl⟩) (nomark _))
        (pw_or1 (pt_not (pt_chain op_le op_le pe_int (pe_callB call_len_seq (by rfl) mL PySem.boot_len (pa_cons (pe_fld (pv 0) rfl) pa_nil)) (pe_glob (v := .int 4) rfl g4 ⟨_, rfl⟩))))))
      (pss_one (L2N.ps_raise rfl (L2N.takes_of rfl rfl rfl rfl) (pmk_tree T hr (pa_cons pe_str pa_nil)))) pss_nil)
    (pss_one (ps_if (pt_val (pe_callB (cr_any rfl) (by rfl) mA (by decide +kernel) (pa_cons (pe_lc (own := [("kind", 3)]) (g := gName 3) (tt := tYes) (te := tOp (rIn K false) (tVar 3) (tFld K (tVar 0) "own_marks")) (by rfl) scInit.nd (pi_tup (pe_fld (pv 0) (by rfl))) (blkOk_by (own := [("kind", 3)]) (N := ["self", "kinds", "marks", "kind"]) (sc := defScope sInit) (by decide +kernel)) (fun _ _ _ _ _ => pg_name (i := 3) scInit.nd rfl (Or.inl rfl)) (fun _ _ _ _ _ => pts_nil)
          (fun _ _ _ _ _ => pe_cmpR op_in_seq (pv 3) (pe_fld (pv 0) (by rfl)) (by rfl))) pa_nil)))
      (pss_one (L2N.ps_raise rfl (L2N.takes_of rfl rfl rfl rfl) (pmk_tree T hr (pa_cons pe_str pa_nil)))) pss_nil)))), ?_⟩
  refine ⟨.ref pm, rfl, .ref pm, rfl, .inr ⟨pm, ms, rfl, tup_of hpm, fun y hy H' s' => mi y hy H' (s0.trans s'), ml, fun c H' s' => mb c H' (s0.trans s'), fun ha p H1 s1 np e1 => ?_⟩⟩
  have npx : p ≠ x := (ne_of_none hx np).symm
  refine ⟨.ref x, rfl, x, C, dx, [], rfl, s1 _ _ hx, L.cl, L.nm, by decide, ?_⟩
  have s2 : Same H0 (upd H1 x (.ins C dx (putF "own_marks" (.ref p) []))) := (s0.trans s1).mut nx
  have x2 : (upd H1 x (.ins C dx (putF "own_marks" (.ref p) []))) x = some (.ins C dx [(("own_marks" : Str), .ref p)]) := upd_same
  have p2 : (upd H1 x (.ins C dx (putF "own_marks" (.ref p) []))) p = some (.tup ((canon (txts ms)).map V.str)) := by rw [upd_ne npx]; exact e1
  generalize upd H1 x (.ins C dx (putF "own_marks" (.ref p) [])) = H2 at s2 x2 p2 ⊢
  refine ⟨kv, rfl, kv, rfl, ?_⟩
  rcases mk ha with ⟨nt, bad⟩ | ⟨a, ks, rfl, hS, ki, kl, b1, b2, gd⟩
  · exact .inl ⟨nt H2 s2, fun H' s' => bad H' (s2.trans s')⟩
  refine .inr ⟨a, ks, rfl, s2.tup hS, fun y hy H' s' => ki y hy H' (s2.trans s'), kl, fun c H' s' => b1 c H' (s2.trans s'), fun hb pk H3 s3 npk e3 => ?_⟩
  have nkx : pk ≠ x := (ne_of_none x2 npk).symm
  have nkp : pk ≠ p := (ne_of_none p2 npk).symm
  refine ⟨.ref x, rfl, x, C, dx, _, rfl, s3 _ _ x2, L.cl, L.nk, (show 1 < 1000 by decide), ?_⟩
  have s4 : Same H0 (upd H3 x (.ins C dx (putF "own_kinds" (.ref pk) [(("own_marks" : Str), .ref p)]))) := (s2.trans s3).mut nx
  have x4 : (upd H3 x (.ins C dx (putF "own_kinds" (.ref pk) [(("own_marks" : Str), .ref p)]))) x = some (.ins C dx [(("own_marks" : Str), .ref p), (("own_kinds" : Str), .ref pk)]) := upd_same
  have p4 : (upd H3 x (.ins C dx (putF "own_kinds" (.ref pk) [(("own_marks" : Str), .ref p)]))) p = some (.tup ((canon (txts ms)).map V.str)) := by rw [upd_ne npx]; exact s3 _ _ p2
  have k4 : (upd H3 x (.ins C dx (putF "own_kinds" (.ref pk) [(("own_marks" : Str), .ref p)]))) pk = some (.tup ((canon (txts ks)).map V.str)) := by rw [upd_ne nkx]; exact e3
  generalize upd H3 x (.ins C dx (putF "own_kinds" (.ref pk) [(("own_marks" : Str), .ref p)])) = H4 at s4 x4 p4 k4 ⊢
  have b2' := b2 hb
  have gd' := gd hb
  -- the numbers
  refine ⟨.ref x, rfl, x, C, dx, _, .ref p, rfl, x4, L.cl, L.nm, rfl, p, _, rfl, .inr (tup_of p4), _, 8, rfl, rfl, _, rfl, ?_⟩
  rw [List.length_map]
  have no : ((canon (txts ms)).length ≤ 8 ∧ 1 ≤ (canon (txts ks)).length ∧ (canon (txts ks)).length ≤ 4 → False) → E (.ref CI) none H4 := fun c => by
    refine b2' ?_ H4 s4
    cases hk : langOk (txts ms) (txts ks) with
    | false => rfl
    | true =>
      unfold langOk at hk
      rw [Bool.and_eq_true, Bool.and_eq_true, Bool.and_eq_true] at hk
      exact (c ⟨of_decide_eq_true hk.1.1, of_decide_eq_true hk.1.2.1, of_decide_eq_true hk.1.2.2⟩).elim
  refine ite2 (fun c1 => iteT ⟨_, rfl, no fun c => ?_⟩) (fun c1 => ?_)
  · have c1' : (8 : Int) < ((canon (txts ms)).length : Int) := of_decide_eq_true c1
    omega
  have c1' : ¬ (8 : Int) < ((canon (txts ms)).length : Int) := fun z => c1 (decide_eq_true z)
  refine ⟨.ref x, rfl, x, C, dx, _, .ref pk, rfl, x4, L.cl, L.nk, rfl, pk, _, rfl, .inr (tup_of k4), 1, _, rfl, rfl, _, rfl, ?_⟩
  rw [List.length_map]
  refine ite2 (fun c2 => ?_) (fun c2 => ⟨false, rfl, iteT ⟨_, rfl, no fun c => ?_⟩⟩)
  rotate_left
  · exact c2 (decide_eq_true (by omega))
  have c2' : (1 : Int) ≤ ((canon (txts ks)).length : Int) := of_decide_eq_true c2
  refine ⟨_, 4, rfl, rfl, _, rfl, ?_⟩
  by_cases c3 : (canon (txts ks)).length ≤ 4
  rotate_left
  · have d3 : decide (((canon (txts ks)).length : Int) ≤ 4) = false := decide_eq_false (by omega)
    rw [d3]
    exact iteT ⟨_, rfl, no fun c => c3 c.2.2⟩
  have d3 : decide (((canon (txts ks)).length : Int) ≤ 4) = true := decide_eq_true (by omega)
  rw [d3]
  refine iteF ?_
  -- marks and kinds
  refine ⟨.ref x, rfl, x, C, dx, _, .ref pk, rfl, x4, L.cl, L.nk, rfl, pk, rfl, ⟨_, tup_of k4⟩, fun D nD => lc_map (h := V.str) (xs := canon (txts ks)) (by have := walk_tup (K := K) (a := pk) (xs := (canon (txts ks)).map V.str); rw [List.length_map] at this; exact this) rfl (fun z => .bl (inV (.str z) ((canon (txts ms)).map V.str))) nD (fun H5 s5 => tup_of (s5 _ _ k4)) (by omega) (fun z hz H5 s5 Q' q' => ?_) fun H5 s5 e5 => ?_⟩
  · exact ⟨_, rfl, .ref x, rfl, x, C, dx, _, .ref p, rfl, s5 _ _ x4, L.cl, L.nm, rfl, p, _, rfl, .inr (tup_of (s5 _ _ p4)), rfl, flat_strs _, q' H5 (Same.refl H5)⟩
  · refine ⟨D, (canon (txts ks)).map fun z => inV (.str z) ((canon (txts ms)).map V.str), rfl, lst_of (by rw [e5, List.map_map]; rfl), ?_⟩
    have e : ((canon (txts ks)).map fun z => inV (.str z) ((canon (txts ms)).map V.str)).any id = (canon (txts ks)).any fun k => decide (k ∈ canon (txts ms)) := by
      rw [List.any_map]
      refine any_congr fun z => ?_
      exact inV_strs z _
    rw [e]
    have d1 : decide ((canon (txts ms)).length ≤ 8) = true := decide_eq_true (by omega)
    have d2 : decide (1 ≤ (canon (txts ks)).length) = true := decide_eq_true (by omega)
    have d4 : decide ((canon (txts ks)).length ≤ 4) = true := decide_eq_true c3
    have lo : langOk (txts ms) (txts ks) = !(canon (txts ks)).any fun k => decide (k ∈ canon (txts ms)) := by
      unfold langOk
      rw [d1, d2, d4]
      rfl
    rw [lo] at b2' gd'
    generalize ((canon (txts ks)).any fun k => decide (k ∈ canon (txts ms))) = b at b2' gd' ⊢
    cases b with
    | true => exact ⟨true, rfl, iteT ⟨_, rfl, b2' rfl H5 (s4.trans s5)⟩⟩
    | false => exact ⟨false, rfl, iteF (gd' rfl H5 (s4.trans s5) ⟨dx, _, p, pk, s5 _ _ x4, rfl, rfl, s5 _ _ p4, s5 _ _ k4, rfl⟩)⟩
end
end Tf

/-! Language.of and the methods of a language -/
namespace Tf
open PySem PySem.Spec PyProof.Rows L2
abbrev sOf : Stmt := inClass sLang 1
abbrev sMarks : Stmt := inClass sLang 2
abbrev sKinds : Stmt := inClass sLang 3
abbrev sEq : Stmt := inClass sLang 10
abbrev sHas : Stmt := inClass sLang 11
abbrev sLen : Stmt := inClass sLang 12
abbrev sStr : Stmt := inClass sLang 13
theorem scOf : FnScope ["cls", "marks", "kinds"] ["cls", "marks", "kinds"] (defScope sOf) := ⟨rfl, rfl, rfl, by decide +kernel, rfl, by decide +kernel, by decide +kernel⟩
theorem scMarks : FnScope ["self"] ["self"] (defScope sMarks) := ⟨rfl, rfl, rfl, by decide +kernel, rfl, by decide +kernel, by decide +kernel⟩
theorem scKinds : FnScope ["self"] ["self"] (defScope sKinds) := ⟨rfl, rfl, rfl, by decide +kernel, rfl, by decide +kernel, by decide +kernel⟩
theorem scEq : FnScope ["self", "other"] ["self", "other"] (defScope sEq) := ⟨rfl, rfl, rfl, by decide +kernel, rfl, by decide +kernel, by decide +kernel⟩
theorem scHas : FnScope ["self", "value"] ["self", "value"] (defScope sHas) := ⟨rfl, rfl, rfl, by decide +kernel, rfl, by decide +kernel, by decide +kernel⟩
theorem scLen : FnScope ["self"] ["self"] (defScope sLen) := ⟨rfl, rfl, rfl, by decide +kernel, rfl, by decide +kernel, by decide +kernel⟩
theorem scStr : FnScope ["self"] ["self"] (defScope sStr) := ⟨rfl, rfl, rfl, by decide +kernel, rfl, by decide +kernel, by decide +kernel⟩
/-- Language(*ms, kinds = kv), self made: at the heap behind the making -/
def spInit (K : PySem.W.Frag) (C CI : Addr) : SpK := fun vs zs H Q E => ∃ (H0 : Hp) (x dx : Addr) (ms : List V) (kv : V), vs = .ref x :: ms ∧ zs = [kv] ∧ H = upd (upd H0 dx (.own x)) x (.ins C dx []) ∧ H0 x = none ∧ H0 dx = none ∧ dx ≠ x ∧
  Makes K H0 ms kv (fun ks => ∀ H', Same H0 H' → LangAt C H' x (canon (txts ms)) (canon ks) → Q .non H') (∀ H', Same H0 H' → E (.ref CI) none H')
/-- of(marks, kinds): it is made, or refused -/
def Made (K : PySem.W.Frag) (C : Addr) (H : Hp) (mv kv : V) (Q : V → Hp → Prop) (bad : Hp → Prop) : Prop :=
  (NoTup K H mv ∧ ∀ H', Same H H' → bad H') ∨
   ∃ (a : Addr) (ms : List V), mv = .ref a ∧ SqT K H a ms ∧
     Makes K H ms kv (fun ks => ∀ (x : Addr) (H' : Hp), Same H H' → H x = none → LangAt C H' x (canon (txts ms)) (canon ks) → Q (.ref x) H') (∀ H', Same H H' → bad H')
/-- Language.of(m, kv) -/
def spOf (K : PySem.W.Frag) (C CI : Addr) : Sp := fun vs H Q E => ∃ (mv kv : V), vs = [.ref C, mv, kv] ∧ Made K C H mv kv Q (fun H' => E (.ref CI) none H')
section
variable {P : Program} {w : World} {K : PySem.W.Frag} {mg : Str → Option Value} {base : Heap}
theorem FnA.imp {CX : CXT} {k : Nat} {f : Addr} {ks : List Str} {sp sp' : SpK} (F : FnA P w K mg base CX k f ks sp) (h : ∀ vs zs H Q E, sp' vs zs H Q E → sp vs zs H Q E) : FnA P w K mg base CX k f ks sp' :=
  fun A outer s H us ws vs zs Q E hr e0 r rz hs => F A outer s H us ws vs zs Q E hr e0 r rz (h _ _ _ _ _ hs)
theorem ok_init {f fD CI CT fI C : Addr} {fd fdD : FuncData} {k : Nat} {t8 t4 : Tok} (F : Fun K "__init__" "Language.__init__" sInit f fd) (L : LCls K C) (T : TreeTxt P K mg "InvalidLanguage" CI CT fI) (GD : FnOk P w K mg base (L2N.CX P w) k fD fdD ["values"] (spDiff K CI)) (bD : Binds K fdD ["values"] []) (gD : mg "different_names" = some (.ref fD)) (kD : PySem.W.keepIn K (.ref fD) = true)
    (mL : mg "len" = none) (mA : mg "any" = none) (g8 : mg "MAX_MARKS" = some (.int 8 t8)) (g4 : mg "MAX_KINDS" = some (.int 4 t4)) : FnA P w K mg base (L2N.CX P w) (k + 1) f ["kinds"] (spInit K C CI) := by
  obtain ⟨oc, od, kV, doc, pm, an, cdv, ct, osl, rfl, lk, hcd⟩ := F.ex
  refine FnA.imp (fn_starK (pa := "self") (pk := "kinds") (pv := "marks") (sp := spBody K C CI) lk hcd scInit cxUpN (fun a rest b => ?_) (fun A outer s H vs Q E hr h => body_init L T GD bD gD kD mL mA g8 g4 cdv A outer s H vs Q E hr h)) ?_
  · cases rest with
    | nil => rfl
    | cons r rs => rfl
  · rintro vs zs H Q E ⟨H0, x, dx, ms, kv, rfl, rfl, rfl, nx, nd, ne, mk⟩
    refine ⟨.ref x, ms, kv, rfl, rfl, Nat.le_trans mk.2.1 (by decide), fun p np => ?_⟩
    have sx : Same H0 (upd (upd H0 dx (.own x)) x (.ins C dx [])) := (same_new nd).mut nx
    have px : p ≠ x := fun e => by rw [e, upd_same] at np; cases np
    exact ⟨x, p, dx, kv, ms, H0, rfl, sx.new np, nx, by rw [upd_ne px.symm]; exact upd_same, upd_same, mk⟩
theorem ok_of {f fN CI CT fI C : Addr} {fd : FuncData} {k : Nat} (F : Fun K "of" "Language.of" sOf f fd) (M : Mk K C fN) (T : TreeTxt P K mg "InvalidLanguage" CI CT fI) (GI : FnA P w K mg base (L2N.CX P w) k fN ["kinds"] (spInit K C CI))
    (mI : mg "isinstance" = none) (mT : mg "tuple" = none) : FnOk P w K mg base (L2N.CX P w) (k + 2) f fd ["cls", "marks", "kinds"] (spOf K C CI) := by
  refine F.okN scOf (fun vs H Q E h => ?_) (fun cdv A outer s H vs Q E hr h => ?_)
  · obtain ⟨mv, kv, rfl, _⟩ := h
    rfl
  · obtain ⟨mv, kv, rfl, h⟩ := h
    refine ⟨_, pss_cons (ps_if (pt_not (pt_val (pe_callB call_isi (by rfl) mI (by decide +kernel) (pa_cons (pv 1) (pa_cons (pe_bltn (v := .ty "tuple") (by rfl) mT (by decide +kernel) rfl) pa_nil)))))
        (pss_one (L2N.ps_raise rfl (L2N.takes_of rfl rfl rfl rfl) (pmk_tree T hr (pa_cons pe_str pa_nil)))) pss_nil)
      (pss_one (ps_ret (pe_makeSK M GI hr (L2N.passes_call (L2N.takes_of rfl rfl rfl rfl) (fun _ _ _ _ h => h)) (pv 0) (pv 1) (pk_cons (pv 2) pk_nil)))), ?_⟩
    rcases h with ⟨⟨t, ht, kt⟩, hE⟩ | ⟨a, ms, rfl, hS, mk⟩
    · refine ⟨mv, rfl, mv, .ty "tuple", t, .type "tuple", false, rfl, .ty _, ht, kt, false, rfl, iteT ?_⟩
      exact ⟨_, rfl, hE H (Same.refl H)⟩
    · refine ⟨.ref a, rfl, .ref a, .ty "tuple", .type "tuple", .type "tuple", true, rfl, .ty _, ty_tup hS, kit_ty (by decide +kernel), true, rfl, iteF ?_⟩
      refine ⟨.ref C, rfl, rfl, .ref a, rfl, kv, rfl, a, ms, rfl, .inl hS, rfl, fun x dx nx nd ne => ?_⟩
      refine ⟨H, x, dx, ms, kv, rfl, rfl, rfl, nx, nd, ne, mk.1, mk.2.1, mk.2.2.1, fun ha => ?_⟩
      rcases mk.2.2.2 ha with h | ⟨a', ks, h1, h2, h3, h4, h5, h6, h7⟩
      · exact .inl h
      · exact .inr ⟨a', ks, h1, h2, h3, h4, h5, h6, fun c1 c2 H' s' l' => ⟨rfl, h7 c1 c2 x H' s' nx l'⟩⟩
/-- o.marks, o.kinds -/
def spMarks (C : Addr) (b : Bool) : Sp := fun vs H Q _ => ∃ (a : Addr) (ms ks : List Str), vs = [.ref a] ∧ LangAt C H a ms ks ∧ ∀ p, H p = some (.tup ((if b then ms else ks).map V.str)) → Q (.ref p) H
theorem ok_marks {f C : Addr} {fd : FuncData} {k : Nat} (F : Fun K "marks" "Language.marks" sMarks f fd) (L : LCls K C) : FnOk P w K mg base CX0 (k + 1) f fd ["self"] (spMarks C true) := by
  refine F.ok scMarks (fun vs H Q E h => ?_) (fun cdv A outer s H vs Q E hr h => ?_)
  · obtain ⟨a, ms, ks, rfl, _⟩ := h
    rfl
  · obtain ⟨a, ms, ks, rfl, ⟨dx, fs, pm, pk, h1, h2, h3, h4, h5, h6⟩, q⟩ := h
    exact ⟨_, pss_one (ps_ret (pe_fld (pv 0) rfl)), .ref a, rfl, a, C, dx, fs, .ref pm, rfl, h1, L.cl, L.nm, h2, q pm h4⟩
theorem ok_kinds {f C : Addr} {fd : FuncData} {k : Nat} (F : Fun K "kinds" "Language.kinds" sKinds f fd) (L : LCls K C) : FnOk P w K mg base CX0 (k + 1) f fd ["self"] (spMarks C false) := by
  refine F.ok scKinds (fun vs H Q E h => ?_) (fun cdv A outer s H vs Q E hr h => ?_)
  · obtain ⟨a, ms, ks, rfl, _⟩ := h
    rfl
  · obtain ⟨a, ms, ks, rfl, ⟨dx, fs, pm, pk, h1, h2, h3, h4, h5, h6⟩, q⟩ := h
    exact ⟨_, pss_one (ps_ret (pe_fld (pv 0) rfl)), .ref a, rfl, a, C, dx, fs, .ref pk, rfl, h1, L.cl, L.nk, h3, q pk h5⟩
end
end Tf

/-! the special methods of a language -/
namespace Tf
open PySem PySem.Spec PyProof.Rows L2
/-- what isinstance sees of languages -/
structure LIs (K : PySem.W.Frag) (C : Addr) : Prop where
  ha : PySem.W.findIn K (.ref C) "__class__" = some (some (.builtin "object.__class__"))
  hn : PySem.W.specialIn K (.builtin "object.__class__") "__get__" = some (some (.builtin "getset_descriptor.__get__"))
  ht : PySem.W.takesIn K (.builtin "object.__class__") = some true
  hm : PySem.W.mroIn K C (.type "object") = some true
  me : PySem.W.kitOne K (.ref C) (.ref C) = some true
  tu : PySem.W.kitOne K (.ref C) (.type "tuple") = some false
/-- a value of a type that is no language -/
def NoLang (K : PySem.W.Frag) (C : Addr) (H : Hp) (y : V) : Prop := ∃ t : String, TyX K H y (.type t) ∧ PySem.W.kitOne K (.type t) (.ref C) = some false
def Nms (zs : List Str) : Prop := ∀ z ∈ zs, nameB z = true
/-- x among the texts -/
def hasB (x : V) (zs : List Str) : Bool := match x with
  | .str z => decide (z ∈ zs)
  | _ => false
theorem inV_flat {x : V} (h : flatV x = true) (zs : List Str) : inV x (zs.map V.str) = hasB x zs := by
  cases x with
  | str z => exact inV_strs z zs
  | non => unfold inV; rw [List.any_map]; exact List.any_eq_false.mpr fun y _ e => by cases e
  | bl b => unfold inV; rw [List.any_map]; exact List.any_eq_false.mpr fun y _ e => by cases e
  | int i => unfold inV; rw [List.any_map]; exact List.any_eq_false.mpr fun y _ e => by cases e
  | _ => cases h
def spHas (K : PySem.W.Frag) (C : Addr) : Sp := fun vs H Q _ => ∃ (a : Addr) (x : V) (ms ks : List Str), vs = [.ref a, x] ∧ LangAt C H a ms ks ∧ (flatV x = true ∨ Box K H x) ∧ Q (.bl (hasB x ms || hasB x ks)) H
def spEq (K : PySem.W.Frag) (C : Addr) : Sp := fun vs H Q _ => ∃ (a : Addr) (y : V) (ms ks : List Str), vs = [.ref a, y] ∧ LangAt C H a ms ks ∧ Nms ms ∧ Nms ks ∧
  ((NoLang K C H y ∧ Q (.bl false) H) ∨ ∃ (b : Addr) (ms' ks' : List Str), y = .ref b ∧ LangAt C H b ms' ks' ∧ Nms ms' ∧ Nms ks' ∧ Q (.bl (decide (ms = ms') && decide (ks = ks'))) H)
def spLen (C : Addr) : Sp := fun vs H Q _ => ∃ (a : Addr) (ms ks : List Str), vs = [.ref a] ∧ LangAt C H a ms ks ∧ ms.length + ks.length ≤ 100 ∧ ∀ H', Same H H' → Q (.int ((ms.length + ks.length : Nat) : Int)) H'
def langText (m k : Nat) : Str := ((((Str.empty ++ ("language of " : Str)) ++ ((toString (m : Int) : String) : Str)) ++ (" marks, " : Str)) ++ ((toString (k : Int) : String) : Str)) ++ (" kinds" : Str)
theorem len2 (a b : Str) : (a ++ b).length ≤ a.length + b.length := by
  show (a.cps ++ b.cps).size ≤ a.cps.size + b.cps.size
  rw [Array.size_append]
  exact Nat.le_refl _
theorem fits2 {a b : Str} {m n : Nat} (ha : a.length ≤ m) (hb : b.length ≤ n) (h : m + n ≤ 1000 := by decide) : (a ++ b).length ≤ sizeLine := Nat.le_trans (len2 a b) (Nat.le_trans (Nat.add_le_add ha hb) (Nat.le_trans h (by decide)))
theorem ints_short : ((List.range 101).all fun n => decide ((((toString (n : Int) : String) : Str)).length ≤ 10)) = true := by decide +kernel
theorem int_short {n : Nat} (h : n ≤ 100) : (((toString (n : Int) : String) : Str)).length ≤ 10 := of_decide_eq_true (List.all_eq_true.mp ints_short n (List.mem_range.mpr (by omega)))
theorem ints_small : ((List.range 101).all fun n => decide ((n : Int).natAbs.log2 < 1920)) = true := by decide +kernel
theorem int_small {n : Nat} (h : n ≤ 100) : (n : Int).natAbs.log2 < 1920 := of_decide_eq_true (List.all_eq_true.mp ints_small n (List.mem_range.mpr (by omega)))
section
variable {P : Program} {w : World} {K : PySem.W.Frag} {mg : Str → Option Value} {base : Heap}
theorem ok_has {f C : Addr} {fd : FuncData} {k : Nat} (F : Fun K "__contains__" "Language.__contains__" sHas f fd) (L : LCls K C) : FnOk P w K mg base CX0 (k + 1) f fd ["self", "value"] (spHas K C) := by
  refine F.ok scHas (fun vs H Q E h => ?_) (fun cdv A outer s H vs Q E hr h => ?_)
  · obtain ⟨a, x, ms, ks, rfl, _⟩ := h
    rfl
  · obtain ⟨a, x, ms, ks, rfl, ⟨dx, fs, pm, pk, h1, h2, h3, h4, h5, h6⟩, hx, q⟩ := h
    have hu : (A.deeper (envOfC "Language.__contains__" (defScope sHas) s.heap.objs.size f cdv)).units + 1 < cLine := by have := hr.un; omega
    refine ⟨_, pss_one (ps_ret (pe_or (pe_cmpR (op_inX hu) (pv 1) (pe_fld (pv 0) (by rfl)) (by rfl)) (pe_one (pe_cmpR (op_inX hu) (pv 1) (pe_fld (pv 0) (by rfl)) (by rfl))))), ?_⟩
    have one : ∀ (p : Addr) (zs : List Str) (Q' : VK), H p = some (.tup (zs.map V.str)) → Q' (.bl (hasB x zs)) H → rInX K false x (.ref p) H Q' := fun p zs Q' hp q' => by
      rcases hx with hf | hb
      · refine .inl ⟨p, _, rfl, .inr (tup_of hp), hf, flat_strs zs, ?_⟩
        rw [if_neg Bool.false_ne_true, inV_flat hf]
        exact q'
      · refine .inr ⟨p, zs, rfl, .inr (tup_of hp), hb, ?_⟩
        obtain ⟨b, rfl, _⟩ := hb
        exact q'
    refine ⟨x, rfl, .ref a, rfl, a, C, dx, fs, .ref pm, rfl, h1, L.cl, L.nm, h2, one pm ms _ h4 ⟨_, rfl, ?_⟩⟩
    cases hm : hasB x ms with
    | true =>
      rw [hm] at q
      exact q
    | false =>
      rw [hm] at q
      exact ⟨x, rfl, .ref a, rfl, a, C, dx, fs, .ref pk, rfl, h1, L.cl, L.nk, h3, one pk ks _ h5 q⟩
theorem ok_eq {f C : Addr} {fd : FuncData} {k : Nat} (F : Fun K "__eq__" "Language.__eq__" sEq f fd) (L : LCls K C) (I : LIs K C) (gL : mg "Language" = some (.ref C)) (mI : mg "isinstance" = none) : FnOk P w K mg base CX0 (k + 1) f fd ["self", "other"] (spEq K C) := by
  refine F.ok scEq (fun vs H Q E h => ?_) (fun cdv A outer s H vs Q E hr h => ?_)
  · obtain ⟨a, y, ms, ks, rfl, _⟩ := h
    rfl
  · obtain ⟨a, y, ms, ks, rfl, ⟨dx, fs, pm, pk, h1, h2, h3, h4, h5, h6⟩, nm, nk, h⟩ := h
    have hu : (A.deeper (envOfC "Language.__eq__" (defScope sEq) s.heap.objs.size f cdv)).units + 64 < cLine := by have := hr.un; omega
    refine ⟨_, pss_cons (ps_if (pt_not (pt_val (pe_callB call_isi (by rfl) mI (by decide +kernel) (pa_cons (pv 1) (pa_cons (pe_glob (v := .ref C) rfl gL rfl) pa_nil))))) (pss_one (ps_ret pe_bl)) pss_nil)
      (pss_one (ps_ret (pe_and (pe_cmpR (op_eqD hu) (pe_fld (pv 0) (by rfl)) (pe_fld (pv 1) (by rfl)) (nomark _)) (pe_one (pe_cmpR (op_eqD hu) (pe_fld (pv 0) (by rfl)) (pe_fld (pv 1) (by rfl)) (nomark _)))))), ?_⟩
    rcases h with ⟨⟨t, ht, kt⟩, q⟩ | ⟨b, ms', ks', rfl, ⟨dx', fs', pm', pk', g1, g2, g3, g4, g5, g6⟩, nm', nk', q⟩
    · exact ⟨y, rfl, y, .ref C, .type t, .ref C, false, rfl, .own C, ht, kt, false, rfl, iteT q⟩
    · refine ⟨.ref b, rfl, .ref b, .ref C, .ref C, .ref C, true, rfl, .own C, .base (.ins g1 L.cl I.ha I.hn I.ht I.hm), I.me, true, rfl, iteF ?_⟩
      refine ⟨.ref a, rfl, a, C, dx, fs, .ref pm, rfl, h1, L.cl, L.nm, h2, .ref b, rfl, b, C, dx', fs', .ref pm', rfl, g1, L.cl, L.nm, g2, .tuple (dS ms), .tuple (dS ms'), dp_tuple (tup_of h4), dp_tuple (tup_of g4), shaped_tuple nm, shaped_tuple nm', _, rfl, ?_⟩
      rw [eqv_tuples]
      by_cases c : ms = ms'
      · rw [decide_eq_true c] at q ⊢
        refine ⟨.ref a, rfl, a, C, dx, fs, .ref pk, rfl, h1, L.cl, L.nk, h3, .ref b, rfl, b, C, dx', fs', .ref pk', rfl, g1, L.cl, L.nk, g3, .tuple (dS ks), .tuple (dS ks'), dp_tuple (tup_of h5), dp_tuple (tup_of g5), shaped_tuple nk, shaped_tuple nk', ?_⟩
        rw [eqv_tuples]
        exact q
      · rw [decide_eq_false c] at q ⊢
        exact q
theorem ok_len {f C : Addr} {fd : FuncData} {k : Nat} (F : Fun K "__len__" "Language.__len__" sLen f fd) (L : LCls K C) (mL : mg "len" = none) : FnOk P w K mg base CX0 (k + 1) f fd ["self"] (spLen C) := by
  refine F.ok scLen (fun vs H Q E h => ?_) (fun cdv A outer s H vs Q E hr h => ?_)
  · obtain ⟨a, ms, ks, rfl, _⟩ := h
    rfl
  · obtain ⟨a, ms, ks, rfl, ⟨dx, fs, pm, pk, h1, h2, h3, h4, h5, h6⟩, ll, q⟩ := h
    refine ⟨_, pss_one (ps_ret (pe_callB call_len_seq (by rfl) mL PySem.boot_len (pa_cons (pe_op op_catA (pe_fld (pv 0) (by rfl)) (pe_fld (pv 0) (by rfl))) pa_nil))), ?_⟩
    refine ⟨.ref a, rfl, a, C, dx, fs, .ref pm, rfl, h1, L.cl, L.nm, h2, .ref a, rfl, a, C, dx, fs, .ref pk, rfl, h1, L.cl, L.nk, h3, pm, pk, _, _, rfl, rfl, tup_of h4, tup_of h5, ?_, fun e => ?_, fun _ e => ?_, fun _ _ p np => ?_⟩
    · rw [List.length_map, List.length_map]
      exact Nat.le_trans ll (by decide)
    · refine ⟨pk, _, rfl, .inr (tup_of h5), ?_⟩
      have e' : ms = [] := List.map_eq_nil_iff.mp e
      have z := q H (Same.refl H)
      rw [e'] at z
      rw [List.length_map]
      simpa using z
    · refine ⟨pm, _, rfl, .inr (tup_of h4), ?_⟩
      have e' : ks = [] := List.map_eq_nil_iff.mp e
      have z := q H (Same.refl H)
      rw [e'] at z
      rw [List.length_map]
      simpa using z
    · refine ⟨p, _, rfl, .inr (tup_of upd_same), ?_⟩
      rw [List.length_append, List.length_map, List.length_map]
      exact q _ (same_new np)
def spStr (C : Addr) : Sp := fun vs H Q _ => ∃ (a : Addr) (ms ks : List Str), vs = [.ref a] ∧ LangAt C H a ms ks ∧ ms.length ≤ 100 ∧ ks.length ≤ 100 ∧ Q (.str (langText ms.length ks.length)) H
theorem ok_str {f C : Addr} {fd : FuncData} {k : Nat} (F : Fun K "__str__" "Language.__str__" sStr f fd) (L : LCls K C) (mL : mg "len" = none) : FnOk P w K mg base CX0 (k + 1) f fd ["self"] (spStr C) := by
  refine F.ok scStr (fun vs H Q E h => ?_) (fun cdv A outer s H vs Q E hr h => ?_)
  · obtain ⟨a, ms, ks, rfl, _⟩ := h
    rfl
  · obtain ⟨a, ms, ks, rfl, ⟨dx, fs, pm, pk, h1, h2, h3, h4, h5, h6⟩, l1, l2, q⟩ := h
    refine ⟨_, pss_one (ps_ret (pe_joined (.cons pe_str (.cons (pe_fmt (pe_callB call_len_seq (by rfl) mL PySem.boot_len (pa_cons (pe_fld (pv 0) (by rfl)) pa_nil))) (.cons pe_str (.cons (pe_fmt (pe_callB call_len_seq (by rfl) mL PySem.boot_len (pa_cons (pe_fld (pv 0) (by rfl)) pa_nil))) (.cons pe_str .nil))))))), ?_⟩
    have z1 := int_short (n := ms.length) l1
    have z2 := int_short (n := ks.length) l2
    refine ⟨_, rfl, by decide +kernel, .ref a, rfl, a, C, dx, fs, .ref pm, rfl, h1, L.cl, L.nm, h2, pm, _, rfl, .inr (tup_of h4), .inr ⟨_, rfl, by rw [List.length_map]; exact int_small l1, _, rfl, ?_, _, rfl, ?_, .ref a, rfl, a, C, dx, fs, .ref pk, rfl, h1, L.cl, L.nk, h3, pk, _, rfl, .inr (tup_of h5), .inr ⟨_, rfl, by rw [List.length_map]; exact int_small l2, _, rfl, ?_, _, rfl, ?_, ?_⟩⟩⟩
    · rw [List.length_map]
      exact fits2 (show _ ≤ 100 by decide +kernel) z1
    · rw [List.length_map]
      exact fits2 (Nat.le_trans (len2 _ _) (Nat.add_le_add (by decide +kernel : _ ≤ 100) z1)) (show _ ≤ 100 by decide +kernel)
    · rw [List.length_map, List.length_map]
      exact fits2 (Nat.le_trans (len2 _ _) (Nat.add_le_add (Nat.le_trans (len2 _ _) (Nat.add_le_add (by decide +kernel : _ ≤ 100) z1)) (by decide +kernel : _ ≤ 100))) z2
    · rw [List.length_map, List.length_map]
      exact fits2 (Nat.le_trans (len2 _ _) (Nat.add_le_add (Nat.le_trans (len2 _ _) (Nat.add_le_add (Nat.le_trans (len2 _ _) (Nat.add_le_add (by decide +kernel : _ ≤ 100) z1)) (by decide +kernel : _ ≤ 100))) z2)) (show _ ≤ 100 by decide +kernel)
    · rw [List.length_map, List.length_map]
      exact q
end
end Tf

/-! languages in plain words -/
namespace L2
open PySem PySem.Spec PyProof.Rows
theorem op_or2 {X : Cx} {op : Value → Value → Sem Value} {r r' : R2} (h : OpR X op r) (h' : OpR X op r') : OpR X op (fun x y H Q => r x y H Q ∨ r' x y H Q) := by
  intro pins s σ H x y v u Q I rx ry q
  rcases q with q | q
  · exact h pins s σ H x y v u Q I rx ry q
  · exact h' pins s σ H x y v u Q I rx ry q
end L2
namespace Tf
open PySem PySem.Spec PyProof.Rows L2
theorem item_str {K : PySem.W.Frag} {H : Hp} {z : Str} (h : nameB z = true) : Item K H (.str z) := ⟨.inl ⟨z, rfl, by have := nameB_len h; omega⟩, .inl ⟨z, rfl⟩⟩
theorem items_strs {K : PySem.W.Frag} {zs : List Str} (h : Nms zs) {H0 : Hp} : ∀ y ∈ zs.map V.str, ∀ H', Same H0 H' → Item K H' y := fun y hy H' _ => by
  obtain ⟨z, hz, rfl⟩ := List.mem_map.mp hy
  exact item_str (h z hz)
theorem txts_strs : ∀ zs : List Str, txts (zs.map V.str) = zs
  | [] => rfl
  | z :: zs => by
    show txts (.str z :: zs.map V.str) = z :: zs
    rw [txts_cons_str, txts_strs zs]
theorem all_strs {zs : List Str} (h : Nms zs) : (zs.map V.str).all isN = true := List.all_eq_true.mpr fun y hy => by
  obtain ⟨z, hz, rfl⟩ := List.mem_map.mp hy
  exact h z hz
theorem Nms.canon {zs : List Str} (h : Nms zs) : Nms (L2.canon zs) := fun z hz => h z (mem_canon.mp hz)
section
variable {K : PySem.W.Frag} {C : Addr} {H : Hp} {Q : V → Hp → Prop} {bad : Hp → Prop}
theorem made_names {a b : Addr} {ms ks : List Str} (ha : SqT K H a (ms.map V.str)) (hb : SqT K H b (ks.map V.str)) (nm : Nms ms) (nk : Nms ks) (lm : ms.length ≤ 60) (lk : ks.length ≤ 60) (h0 : langOk ms ks = false → ∀ H', Same H H' → bad H')
    (h1 : langOk ms ks = true → ∀ (x : Addr) (H' : Hp), Same H H' → H x = none → LangAt C H' x (canon ms) (canon ks) → Q (.ref x) H') : Made K C H (.ref a) (.ref b) Q bad := by
  refine .inr ⟨a, _, rfl, ha, items_strs nm, by rw [List.length_map]; exact lm, fun c => ?_, fun _ => .inr ⟨b, _, rfl, hb, items_strs nk, by rw [List.length_map]; exact lk, fun c => ?_, ?_, ?_⟩⟩
  · rw [all_strs nm] at c
    cases c
  · rw [all_strs nk] at c
    cases c
  · rw [txts_strs, txts_strs]
    exact fun _ c => h0 c
  · rw [txts_strs, txts_strs]
    exact fun _ c => h1 c
theorem made_noM {mv kv : V} (h : NoTup K H mv) (hb : ∀ H', Same H H' → bad H') : Made K C H mv kv Q bad := .inl ⟨h, hb⟩
theorem made_noK {a : Addr} {kv : V} {ms : List Str} (ha : SqT K H a (ms.map V.str)) (nm : Nms ms) (lm : ms.length ≤ 60) (h : ∀ H', Same H H' → NoTup K H' kv) (hb : ∀ H', Same H H' → bad H') : Made K C H (.ref a) kv Q bad :=
  .inr ⟨a, _, rfl, ha, items_strs nm, by rw [List.length_map]; exact lm, fun _ => hb, fun _ => .inl ⟨h, hb⟩⟩
end
theorem of_made {K : PySem.W.Frag} {C CI : Addr} {H : Hp} {mv kv : V} {Q : VK} {E : XK} (h : Made K C H mv kv Q (fun H' => E (.ref CI) none H')) : spOf K C CI [.ref C, mv, kv] H Q E := ⟨mv, kv, rfl, h⟩
theorem no_list {K : PySem.W.Frag} {H : Hp} {a : Addr} {xs : List V} (h : H a = some (.lst xs)) : NoTup K H (.ref a) := ⟨_, .base (.lst h), kit_ty (by decide +kernel)⟩
theorem no_non {K : PySem.W.Frag} {H : Hp} : NoTup K H .non := ⟨_, .base .non, kit_ty (by decide +kernel)⟩
theorem canon_rev (zs : List Str) : canon zs.reverse = canon zs := canon_congr fun z => by rw [List.mem_reverse]
theorem ok_rev (ms ks : List Str) : langOk ms.reverse ks.reverse = langOk ms ks := by unfold langOk; rw [canon_rev, canon_rev]
theorem ok_canon (ms ks : List Str) : langOk (canon ms) (canon ks) = langOk ms ks := by unfold langOk; rw [canon_canon, canon_canon]
theorem canon_drop (zs : List Str) : canon ((canon zs).drop 1) = (canon zs).drop 1 := canon_self ((nodup_canon zs).sublist (List.drop_sublist 1 _)) ((canon_pw zs).sublist (List.drop_sublist 1 _))
theorem ok_parts {ms ks : List Str} (h : langOk ms ks = true) : (canon ms).length ≤ 8 ∧ 1 ≤ (canon ks).length ∧ (canon ks).length ≤ 4 ∧ ∀ z ∈ canon ks, z ∉ canon ms := by
  unfold langOk at h
  rw [Bool.and_eq_true, Bool.and_eq_true, Bool.and_eq_true, Bool.not_eq_true'] at h
  refine ⟨of_decide_eq_true h.1.1, of_decide_eq_true h.1.2.1, of_decide_eq_true h.1.2.2, fun z hz hm => ?_⟩
  exact (List.any_eq_false.mp h.2 z hz) (decide_eq_true hm)
theorem ok_of_parts {ms ks : List Str} (h1 : (canon ms).length ≤ 8) (h2 : 1 ≤ (canon ks).length) (h3 : (canon ks).length ≤ 4) (h4 : ∀ z ∈ canon ks, z ∉ canon ms) : langOk ms ks = true := by
  unfold langOk
  rw [Bool.and_eq_true, Bool.and_eq_true, Bool.and_eq_true, Bool.not_eq_true']
  refine ⟨⟨decide_eq_true h1, decide_eq_true h2, decide_eq_true h3⟩, List.any_eq_false.mpr fun z hz c => h4 z hz (of_decide_eq_true c)⟩
theorem ok_drop {ms ks : List Str} (h : langOk ms ks = true) : langOk ((canon ms).drop 1) (canon ks) = true := by
  obtain ⟨h1, h2, h3, h4⟩ := ok_parts h
  refine ok_of_parts ?_ ?_ ?_ ?_
  · rw [canon_drop, List.length_drop]
    omega
  · rw [canon_canon]
    exact h2
  · rw [canon_canon]
    exact h3
  · rw [canon_canon, canon_drop]
    exact fun z hz hm => h4 z hz (List.mem_of_mem_drop hm)
theorem shaped3 {a b : List Str} {n : Int} (ha : Nms a) (hb : Nms b) : SeqAt.shaped (.list [.tuple (dS a), .tuple (dS b), .int n]) = true := by
  show (PyData.canLay0 (.list [.tuple (dS a), .tuple (dS b), .int n]) && decide (PyData.depth (.list [.tuple (dS a), .tuple (dS b), .int n]) ≤ 64)) = true
  rw [Bool.and_eq_true]
  refine ⟨by simp only [PyData.canLay0, PyData.canLayAll0, lay_strs ha, lay_strs hb, Bool.and_self], decide_eq_true ?_⟩
  simp only [PyData.depth, PyData.depthAll, depth_strs]
  decide
theorem eqv3 {a b : List Str} {n : Int} : PyData.eqv (.list [.tuple (dS a), .tuple (dS b), .int n]) (.list [.tuple (dS a), .tuple (dS b), .int n]) = true := by
  simp only [PyData.eqv, PyData.eqvAll, eqvAll_strs]
  simp
theorem eqv3' {a b : List Str} {n m : Int} (h : n = m) : PyData.eqv (.list [.tuple (dS a), .tuple (dS b), .int n]) (.list [.tuple (dS a), .tuple (dS b), .int m]) = true := by
  subst h
  exact eqv3
theorem lenA {a b : Str} {m n : Nat} (ha : a.length ≤ m) (hb : b.length ≤ n) : (a ++ b).length ≤ m + n := Nat.le_trans (len2 a b) (Nat.add_le_add ha hb)
theorem sumA {a b : Str} {m n : Nat} (ha : a.length ≤ m) (hb : b.length ≤ n) (h : m + n ≤ 1000 := by decide) : a.length + b.length ≤ sizeLine := Nat.le_trans (Nat.add_le_add ha hb) (Nat.le_trans h (by decide))
/-- Language(*ms, kinds = kv): made, or refused -/
def MakesL (K : PySem.W.Frag) (C CI : Addr) (H : Hp) (ms : List V) (kv : V) (Q : V → Hp → Prop) (E : XK) : Prop :=
  Makes K H ms kv (fun ks => ∀ (x : Addr) (H' : Hp), Same H H' → H x = none → LangAt C H' x (canon (txts ms)) (canon ks) → Q (.ref x) H') (∀ H', Same H H' → E (.ref CI) none H')
/-- .. of names -/
def LangR (C CI : Addr) (H : Hp) (ms ks : List Str) (Q : V → Hp → Prop) (E : XK) : Prop :=
  (langOk ms ks = true → ∀ (x : Addr) (H' : Hp), Same H H' → H x = none → LangAt C H' x (canon ms) (canon ks) → Q (.ref x) H') ∧ (langOk ms ks = false → ∀ H', Same H H' → E (.ref CI) none H')
theorem LangR.same {C CI : Addr} {H H1 : Hp} {ms ks : List Str} {Q : V → Hp → Prop} {E : XK} (h : LangR C CI H ms ks Q E) (s : Same H H1) : LangR C CI H1 ms ks Q E :=
  ⟨fun c x H' s' n l => h.1 c x H' (s.trans s') (s.free n) l, fun c H' s' => h.2 c H' (s.trans s')⟩
theorem LangR.makes {K : PySem.W.Frag} {C CI b : Addr} {H : Hp} {ms ks : List Str} {Q : V → Hp → Prop} {E : XK} (h : LangR C CI H ms ks Q E) (hb : SqT K H b (ks.map V.str)) (nm : Nms ms) (nk : Nms ks) (lm : ms.length ≤ 60) (lk : ks.length ≤ 60) : MakesL K C CI H (ms.map V.str) (.ref b) Q E := by
  refine ⟨items_strs nm, by rw [List.length_map]; exact lm, fun c => ?_, fun _ => .inr ⟨b, _, rfl, hb, items_strs nk, by rw [List.length_map]; exact lk, fun c => ?_, ?_, ?_⟩⟩
  · rw [all_strs nm] at c
    cases c
  · rw [all_strs nk] at c
    cases c
  · rw [txts_strs, txts_strs]
    exact fun _ c => h.2 c
  · rw [txts_strs, txts_strs]
    exact fun _ c => h.1 c
end Tf

/-! languages joined -/
namespace Tf
open PySem PySem.Spec PyProof.Rows L2
abbrev sLin : Stmt := top 12
abbrev sWm : Stmt := inClass sLang 4
abbrev sWk : Stmt := inClass sLang 5
abbrev sOr : Stmt := inClass sLang 8
abbrev sAnd : Stmt := inClass sLang 9
theorem scLin : FnScope ["marks", "kinds"] ["marks", "kinds"] (defScope sLin) := ⟨rfl, rfl, rfl, by decide +kernel, rfl, by decide +kernel, by decide +kernel⟩
theorem scWm : FnScope ["self", "marks"] ["self", "marks"] (defScope sWm) := ⟨rfl, rfl, rfl, by decide +kernel, rfl, by decide +kernel, by decide +kernel⟩
theorem scWk : FnScope ["self", "kinds"] ["self", "kinds"] (defScope sWk) := ⟨rfl, rfl, rfl, by decide +kernel, rfl, by decide +kernel, by decide +kernel⟩
theorem scOr : FnScope ["self", "other"] ["self", "other"] (defScope sOr) := ⟨rfl, rfl, rfl, by decide +kernel, rfl, by decide +kernel, by decide +kernel⟩
theorem scAnd : FnScope ["self", "other", "marks", "mark", "kind"] ["self", "other"] (defScope sAnd) := ⟨rfl, rfl, rfl, by decide +kernel, rfl, by decide +kernel, by decide +kernel⟩
def spLin (K : PySem.W.Frag) (C CI : Addr) : Sp := fun vs H Q E => ∃ (a : Addr) (ms : List V) (kv : V), vs = [.ref a, kv] ∧ SqT K H a ms ∧ MakesL K C CI H ms kv Q E
def spWm (K : PySem.W.Frag) (C CI : Addr) : Sp := fun vs H Q E => ∃ (a p : Addr) (xs : List V) (ms ks : List Str), vs = [.ref a, .ref p] ∧ SqT K H p xs ∧ LangAt C H a ms ks ∧ xs.length ≤ 20 ∧ ms.length ≤ 20 ∧ ∀ (H1 : Hp) (b : Addr), Same H H1 → SqT K H1 b (ks.map V.str) → MakesL K C CI H1 (ms.map V.str ++ xs) (.ref b) Q E
def spWk (K : PySem.W.Frag) (C CI : Addr) : Sp := fun vs H Q E => ∃ (a p : Addr) (xs : List V) (ms ks : List Str), vs = [.ref a, .ref p] ∧ SqT K H p xs ∧ LangAt C H a ms ks ∧ xs.length ≤ 20 ∧ ks.length ≤ 20 ∧ ∀ (H1 : Hp) (b : Addr), Same H H1 → SqT K H1 b (ks.map V.str ++ xs) → MakesL K C CI H1 (ms.map V.str) (.ref b) Q E
/-- both are languages -/
def spTwo (K : PySem.W.Frag) (C CI CO : Addr) (f : List Str → List Str → List Str) : Sp := fun vs H Q E => ∃ (a : Addr) (y : V) (ms ks : List Str), vs = [.ref a, y] ∧ LangAt C H a ms ks ∧ Nms ms ∧ Nms ks ∧ ms.length ≤ 20 ∧ ks.length ≤ 20 ∧
  ((NoLang K C H y ∧ E (.ref CO) none H) ∨ ∃ (b : Addr) (ms' ks' : List Str), y = .ref b ∧ LangAt C H b ms' ks' ∧ Nms ms' ∧ Nms ks' ∧ ms'.length ≤ 20 ∧ ks'.length ≤ 20 ∧ LangR C CI H (f ms ms') (f ks ks') Q E)
def inBoth (a b : List Str) : List Str := a.filter fun z => decide (z ∈ b)
section
variable {P : Program} {w : World} {K : PySem.W.Frag} {mg : Str → Option Value} {base : Heap}
theorem ok_lin {f fN CI C : Addr} {fd : FuncData} {k : Nat} (F : Fun K "language_in" "language_in" sLin f fd) (M : Mk K C fN) (GI : FnA P w K mg base (L2N.CX P w) k fN ["kinds"] (spInit K C CI)) (gL : mg "Language" = some (.ref C)) : FnOk P w K mg base (L2N.CX P w) (k + 2) f fd ["marks", "kinds"] (spLin K C CI) := by
  refine F.okN scLin (fun vs H Q E h => ?_) (fun cdv A outer s H vs Q E hr h => ?_)
  · obtain ⟨a, ms, kv, rfl, _⟩ := h
    rfl
  · obtain ⟨a, ms, kv, rfl, hS, mk⟩ := h
    refine ⟨_, pss_one (ps_ret (pe_makeSK M GI hr (L2N.passes_call (L2N.takes_of rfl rfl rfl rfl) (fun _ _ _ _ h => h)) (pe_glob (v := .ref C) rfl gL rfl) (pv 0) (pk_cons (pv 1) pk_nil))), ?_⟩
    refine ⟨rfl, .ref a, rfl, kv, rfl, a, ms, rfl, .inl hS, rfl, fun x dx nx ndx nxd => ⟨H, x, dx, ms, kv, rfl, rfl, rfl, nx, ndx, nxd, ?_⟩⟩
    obtain ⟨h1, h2, h3, h4⟩ := mk
    refine ⟨h1, h2, h3, fun c => ?_⟩
    rcases h4 c with h | ⟨b, ks, e1, e2, e3, e4, e5, e6, e7⟩
    · exact .inl h
    · exact .inr ⟨b, ks, e1, e2, e3, e4, e5, e6, fun c1 c2 H' s' la => ⟨rfl, e7 c1 c2 x H' s' nx la⟩⟩
/-- own tuple + a tuple -/
theorem cat_any {X : Cx} {H : Hp} {a b : Addr} {xs ys : List V} {Q : VK} (ha : SqT X.K H a xs) (hb : SqT X.K H b ys) (hl : xs.length + ys.length ≤ 100) (h : ∀ (p : Addr) (H1 : Hp), Same H H1 → SqT X.K H1 p (xs ++ ys) → Q (.ref p) H1) : rCatA X.K (.ref a) (.ref b) H Q := by
  refine ⟨a, b, xs, ys, rfl, rfl, ha, hb, Nat.le_trans hl (by decide), fun e => ?_, fun _ e => ?_, fun _ _ p np => h p _ (same_new np) (tup_of upd_same)⟩
  · subst e
    exact h b H (Same.refl H) hb
  · subst e
    refine h a H (Same.refl H) ?_
    rw [List.append_nil]
    exact ha
theorem ok_wm {f fL CI C : Addr} {fd fdL : FuncData} {k : Nat} (F : Fun K "with_marks" "Language.with_marks" sWm f fd) (L : LCls K C) (GL : FnOk P w K mg base (L2N.CX P w) k fL fdL ["marks", "kinds"] (spLin K C CI)) (bL : Binds K fdL ["marks", "kinds"] []) (gL : mg "language_in" = some (.ref fL)) (kL : PySem.W.keepIn K (.ref fL) = true) :
    FnR P w K mg base (L2N.CX P w) (k + 1) f (fun vs H Q E => ∃ ws rest, vs = ws ++ rest ∧ ws.length = ["self"].length ∧ rest.length ≤ sizeLine ∧ ∀ p, H p = Option.none → spWm K C CI (ws ++ [V.ref p]) (upd H p (.tup rest)) Q E) := by
  obtain ⟨oc, od, kV, doc, pm, an, cdv, ct, osl, rfl, lk, hcd⟩ := F.ex
  refine StX.fn_star (ps := ["self"]) (pv := "marks") lk hcd scWm cxUpN (StX.bind_star1 (B := fun us => bindArgs _ ⟨us, []⟩) (fun a => rfl) (fun a r rs => rfl)) (fun A outer s H vs Q E hr h => ?_)
  obtain ⟨a, p, xs, ms, ks, rfl, hp, ⟨dx, fs, pm', pk', h1, h2, h3, h4, h5, h6⟩, lx, lm, q⟩ := h
  refine ⟨_, pss_one (ps_ret (pe_call GL hr (by rfl) gL kL bL .nil (L2N.passes_call (L2N.takes_of rfl rfl rfl rfl) (fun _ _ _ _ h => h)) (pa_cons (pe_op op_catA (pe_fld (pv 0) (by rfl)) (pv 1)) (pa_cons (pe_fld (pv 0) (by rfl)) pa_nil)))), ?_⟩
  refine ⟨.ref a, rfl, a, C, dx, fs, .ref pm', rfl, h1, L.cl, L.nm, h2, .ref p, rfl, cat_any (tup_of h4) hp (by rw [List.length_map]; omega) fun p1 H1 s1 e1 => ?_⟩
  exact ⟨.ref a, rfl, a, C, dx, fs, .ref pk', rfl, s1 _ _ h1, L.cl, L.nk, h3, p1, _, .ref pk', rfl, e1, q H1 pk' s1 (tup_of (s1 _ _ h5))⟩
theorem ok_wk {f fL CI C : Addr} {fd fdL : FuncData} {k : Nat} (F : Fun K "with_kinds" "Language.with_kinds" sWk f fd) (L : LCls K C) (GL : FnOk P w K mg base (L2N.CX P w) k fL fdL ["marks", "kinds"] (spLin K C CI)) (bL : Binds K fdL ["marks", "kinds"] []) (gL : mg "language_in" = some (.ref fL)) (kL : PySem.W.keepIn K (.ref fL) = true) :
    FnR P w K mg base (L2N.CX P w) (k + 1) f (fun vs H Q E => ∃ ws rest, vs = ws ++ rest ∧ ws.length = ["self"].length ∧ rest.length ≤ sizeLine ∧ ∀ p, H p = Option.none → spWk K C CI (ws ++ [V.ref p]) (upd H p (.tup rest)) Q E) := by
  obtain ⟨oc, od, kV, doc, pm, an, cdv, ct, osl, rfl, lk, hcd⟩ := F.ex
  refine StX.fn_star (ps := ["self"]) (pv := "kinds") lk hcd scWk cxUpN (StX.bind_star1 (B := fun us => bindArgs _ ⟨us, []⟩) (fun a => rfl) (fun a r rs => rfl)) (fun A outer s H vs Q E hr h => ?_)
  obtain ⟨a, p, xs, ms, ks, rfl, hp, ⟨dx, fs, pm', pk', h1, h2, h3, h4, h5, h6⟩, lx, lm, q⟩ := h
  refine ⟨_, pss_one (ps_ret (pe_call GL hr (by rfl) gL kL bL .nil (L2N.passes_call (L2N.takes_of rfl rfl rfl rfl) (fun _ _ _ _ h => h)) (pa_cons (pe_fld (pv 0) (by rfl)) (pa_cons (pe_op op_catA (pe_fld (pv 0) (by rfl)) (pv 1)) pa_nil)))), ?_⟩
  refine ⟨.ref a, rfl, a, C, dx, fs, .ref pm', rfl, h1, L.cl, L.nm, h2, .ref a, rfl, a, C, dx, fs, .ref pk', rfl, h1, L.cl, L.nk, h3, .ref p, rfl, cat_any (tup_of h5) hp (by rw [List.length_map]; omega) fun p1 H1 s1 e1 => ?_⟩
  exact ⟨pm', _, .ref p1, rfl, tup_of (s1 _ _ h4), q H1 p1 s1 e1⟩
theorem ok_or {f fL CI CO CT fI C : Addr} {fd fdL : FuncData} {k : Nat} (F : Fun K "__or__" "Language.__or__" sOr f fd) (L : LCls K C) (I : LIs K C) (T : TreeTxt P K mg "InvalidOperation" CO CT fI) (GL : FnOk P w K mg base (L2N.CX P w) k fL fdL ["marks", "kinds"] (spLin K C CI)) (bL : Binds K fdL ["marks", "kinds"] []) (gL : mg "language_in" = some (.ref fL)) (kL : PySem.W.keepIn K (.ref fL) = true) (gC : mg "Language" = some (.ref C)) (mI : mg "isinstance" = none) :
    FnOk P w K mg base (L2N.CX P w) (k + 1) f fd ["self", "other"] (spTwo K C CI CO (· ++ ·)) := by
  refine F.okN scOr (fun vs H Q E h => ?_) (fun cdv A outer s H vs Q E hr h => ?_)
  · obtain ⟨a, y, ms, ks, rfl, _⟩ := h
    rfl
  · obtain ⟨a, y, ms, ks, rfl, ⟨dx, fs, pm, pk, h1, h2, h3, h4, h5, h6⟩, nm, nk, lm, lk, h⟩ := h
    refine ⟨_, pss_cons (ps_if (pt_not (pt_val (pe_callB call_isi (by rfl) mI (by decide +kernel) (pa_cons (pv 1) (pa_cons (pe_glob (v := .ref C) rfl gC rfl) pa_nil)))))
        (pss_one (L2N.ps_raise rfl (L2N.takes_of rfl rfl rfl rfl) (pmk_tree T hr (pa_cons pe_str pa_nil)))) pss_nil)
      (pss_one (ps_ret (pe_call GL hr (by rfl) gL kL bL .nil (L2N.passes_call (L2N.takes_of rfl rfl rfl rfl) (fun _ _ _ _ h => h)) (pa_cons (pe_op op_catA (pe_fld (pv 0) (by rfl)) (pe_fld (pv 1) (by rfl))) (pa_cons (pe_op op_catA (pe_fld (pv 0) (by rfl)) (pe_fld (pv 1) (by rfl))) pa_nil))))), ?_⟩
    rcases h with ⟨⟨t, ht, kt⟩, q⟩ | ⟨b, ms', ks', rfl, ⟨dx', fs', pm', pk', g1, g2, g3, g4, g5, g6⟩, nm', nk', lm', lk', q⟩
    · exact ⟨y, rfl, y, .ref C, .type t, .ref C, false, rfl, .own C, ht, kt, false, rfl, iteT ⟨_, rfl, q⟩⟩
    · refine ⟨.ref b, rfl, .ref b, .ref C, .ref C, .ref C, true, rfl, .own C, .base (.ins g1 L.cl I.ha I.hn I.ht I.hm), I.me, true, rfl, iteF ?_⟩
      refine ⟨.ref a, rfl, a, C, dx, fs, .ref pm, rfl, h1, L.cl, L.nm, h2, .ref b, rfl, b, C, dx', fs', .ref pm', rfl, g1, L.cl, L.nm, g2, cat_any (tup_of h4) (tup_of g4) (by rw [List.length_map, List.length_map]; omega) fun p1 H1 s1 e1 => ?_⟩
      refine ⟨.ref a, rfl, a, C, dx, fs, .ref pk, rfl, s1 _ _ h1, L.cl, L.nk, h3, .ref b, rfl, b, C, dx', fs', .ref pk', rfl, s1 _ _ g1, L.cl, L.nk, g3, cat_any (tup_of (s1 _ _ h5)) (tup_of (s1 _ _ g5)) (by rw [List.length_map, List.length_map]; omega) fun p2 H2 s2 e2 => ?_⟩
      rw [← List.map_append] at e1 e2
      have nA : Nms (ms ++ ms') := fun z hz => (List.mem_append.mp hz).elim (nm z) (nm' z)
      have nB : Nms (ks ++ ks') := fun z hz => (List.mem_append.mp hz).elim (nk z) (nk' z)
      exact ⟨p1, _, .ref p2, rfl, s2.tup e1, (q.same (s1.trans s2)).makes e2 nA nB (by rw [List.length_append]; omega) (by rw [List.length_append]; omega)⟩
end
end Tf

/-! what is common, what is left, what lies within -/
namespace Tf
open PySem PySem.Spec PyProof.Rows L2
abbrev sOut : Stmt := inClass sLang 6
theorem scOut : FnScope ["self", "names", "name", "marks", "mark", "kind"] ["self", "names"] (defScope sOut) := ⟨rfl, rfl, rfl, by decide +kernel, rfl, by decide +kernel, by decide +kernel⟩
def notIn (a b : List Str) : List Str := a.filter fun z => !decide (z ∈ b)
def spOut (K : PySem.W.Frag) (C CI : Addr) : Sp := fun vs H Q E => ∃ (a p : Addr) (zs ms ks : List Str), vs = [.ref a, .ref p] ∧ SqT K H p (zs.map V.str) ∧ LangAt C H a ms ks ∧ Nms ms ∧ Nms ks ∧ ms.length ≤ 20 ∧ ks.length ≤ 20 ∧ zs.length ≤ 20 ∧ (∀ z ∈ zs, z ∈ ms ∨ z ∈ ks) ∧ LangR C CI H (notIn ms zs) (notIn ks zs) Q E
theorem in_fun (ms : List Str) : (fun z => inV (.str z) (ms.map V.str)) = fun z => decide (z ∈ ms) := funext fun z => inV_strs z ms
theorem out_fun (ms : List Str) : (fun z => !inV (.str z) (ms.map V.str)) = fun z => !decide (z ∈ ms) := funext fun z => by rw [inV_strs]
section
variable {P : Program} {w : World} {K : PySem.W.Frag} {mg : Str → Option Value} {base : Heap}
theorem ok_and {f fL CI CO CT fI C : Addr} {fd fdL : FuncData} {k : Nat} (F : Fun K "__and__" "Language.__and__" sAnd f fd) (L : LCls K C) (I : LIs K C) (T : TreeTxt P K mg "InvalidOperation" CO CT fI) (GL : FnOk P w K mg base (L2N.CX P w) k fL fdL ["marks", "kinds"] (spLin K C CI)) (bL : Binds K fdL ["marks", "kinds"] []) (gL : mg "language_in" = some (.ref fL)) (kL : PySem.W.keepIn K (.ref fL) = true) (gC : mg "Language" = some (.ref C)) (mI : mg "isinstance" = none) (mT : mg "tuple" = none) :
    FnOk P w K mg base (L2N.CX P w) (k + 1) f fd ["self", "other"] (spTwo K C CI CO inBoth) := by
  refine F.okN scAnd (fun vs H Q E h => ?_) (fun cdv A outer s H vs Q E hr h => ?_)
  · obtain ⟨a, y, ms, ks, rfl, _⟩ := h
    rfl
  · obtain ⟨a, y, ms, ks, rfl, ⟨dx, fs, pm, pk, h1, h2, h3, h4, h5, h6⟩, nm, nk, lm, lk, h⟩ := h
    refine ⟨_, pss_cons (ps_if (pt_not (pt_val (pe_callB call_isi (by rfl) mI (by decide +kernel) (pa_cons (pv 1) (pa_cons (pe_glob (v := .ref C) rfl gC rfl) pa_nil)))))
        (pss_one (L2N.ps_raise rfl (L2N.takes_of rfl rfl rfl rfl) (pmk_tree T hr (pa_cons pe_str pa_nil)))) pss_nil)
      (pss_cons (ps_set (i := 2) scAnd.nd rfl (.inl rfl) (pe_callTy call_tuple_of (by rfl) mT (by decide +kernel) (pa_cons (pe_lc (own := [("mark", 3)]) (g := gName 3) (tt := tTest (tOp (rIn K false) (tVar 3) (tFld K (tVar 1) "own_marks"))) (te := tVar 3) (by rfl) scAnd.nd (pi_tup (pe_fld (pv 0) (by rfl))) (blkOk_by (own := [("mark", 3)]) (N := ["self", "other", "marks", "mark", "kind"]) (sc := defScope sAnd) (by decide +kernel)) (fun _ _ _ _ _ => pg_name (i := 3) scAnd.nd rfl (Or.inl rfl)) (fun _ _ _ _ _ => pts_one (pt_cmpR op_in_seq (pv 3) (pe_fld (pv 1) (by rfl)) (by rfl))) (fun _ _ _ _ _ => pv 3)) pa_nil)))
      (pss_one (ps_ret (pe_call GL hr (by rfl) gL kL bL .nil (L2N.passes_call (L2N.takes_of rfl rfl rfl rfl) (fun _ _ _ _ h => h)) (pa_cons (pv 2) (pa_cons (pe_callTy call_tuple_of (by rfl) mT (by decide +kernel) (pa_cons (pe_lc (own := [("kind", 4)]) (g := gName 4) (tt := tTest (tOp (rIn K false) (tVar 4) (tFld K (tVar 1) "own_kinds"))) (te := tVar 4) (by rfl) scAnd.nd (pi_tup (pe_fld (pv 0) (by rfl))) (blkOk_by (own := [("kind", 4)]) (N := ["self", "other", "marks", "mark", "kind"]) (sc := defScope sAnd) (by decide +kernel)) (fun _ _ _ _ _ => pg_name (i := 4) scAnd.nd rfl (Or.inl rfl)) (fun _ _ _ _ _ => pts_one (pt_cmpR op_in_seq (pv 4) (pe_fld (pv 1) (by rfl)) (by rfl))) (fun _ _ _ _ _ => pv 4)) pa_nil)) pa_nil)))))), ?_⟩
    rcases h with ⟨⟨t, ht, kt⟩, q⟩ | ⟨b, ms', ks', rfl, ⟨dx', fs', pm', pk', g1, g2, g3, g4, g5, g6⟩, nm', nk', lm', lk', q⟩
    · exact ⟨y, rfl, y, .ref C, .type t, .ref C, false, rfl, .own C, ht, kt, false, rfl, iteT ⟨_, rfl, q⟩⟩
    · refine ⟨.ref b, rfl, .ref b, .ref C, .ref C, .ref C, true, rfl, .own C, .base (.ins g1 L.cl I.ha I.hn I.ht I.hm), I.me, true, rfl, iteF ?_⟩
      refine ⟨.ref a, rfl, a, C, dx, fs, .ref pm, rfl, h1, L.cl, L.nm, h2, pm, rfl, ⟨_, tup_of h4⟩, fun D nD => lc_on (h := V.str) (xs := ms) (by have := walk_tup (K := K) (a := pm) (xs := ms.map V.str); rw [List.length_map] at this; exact this) rfl (fun z => inV (.str z) (ms'.map V.str)) V.str nD (fun H5 s5 => tup_of (s5 _ _ h4)) (by omega)
        (fun z hz H5 s5 Q' q' => ⟨_, rfl, .ref b, rfl, b, C, dx', fs', .ref pm', rfl, s5 _ _ g1, L.cl, L.nm, g2, pm', _, rfl, .inr (tup_of (s5 _ _ g4)), rfl, flat_strs _, _, rfl, q' H5 (Same.refl H5)⟩) (fun z hz _ H5 s5 Q' q' => ⟨_, rfl, q' H5 (Same.refl H5)⟩) fun H3 s3 e3 => ?_⟩
      rw [in_fun] at e3
      refine ⟨D, _, rfl, .inl ⟨lst_of e3, fun p4 n4 => ?_⟩⟩
      have e4 : (upd H3 p4 (.tup ((inBoth ms ms').map V.str))) p4 = some (.tup ((inBoth ms ms').map V.str)) := upd_same
      have s4 : Same H (upd H3 p4 (.tup ((inBoth ms ms').map V.str))) := s3.new n4
      refine ⟨.ref p4, rfl, .ref a, rfl, a, C, dx, fs, .ref pk, rfl, s4 _ _ h1, L.cl, L.nk, h3, pk, rfl, ⟨_, tup_of (s4 _ _ h5)⟩, fun D5 nD5 => lc_on (h := V.str) (xs := ks) (by have := walk_tup (K := K) (a := pk) (xs := ks.map V.str); rw [List.length_map] at this; exact this) rfl (fun z => inV (.str z) (ks'.map V.str)) V.str nD5 (fun H5 s5 => tup_of (s5 _ _ (s4 _ _ h5))) (by omega)
        (fun z hz H5 s5 Q' q' => ⟨_, rfl, .ref b, rfl, b, C, dx', fs', .ref pk', rfl, s5 _ _ (s4 _ _ g1), L.cl, L.nk, g3, pk', _, rfl, .inr (tup_of (s5 _ _ (s4 _ _ g5))), rfl, flat_strs _, _, rfl, q' H5 (Same.refl H5)⟩) (fun z hz _ H5 s5 Q' q' => ⟨_, rfl, q' H5 (Same.refl H5)⟩) fun H6 s6 e6 => ?_⟩
      rw [in_fun] at e6
      refine ⟨D5, _, rfl, .inl ⟨lst_of e6, fun p7 n7 => ?_⟩⟩
      have e7 : (upd H6 p7 (.tup ((inBoth ks ks').map V.str))) p7 = some (.tup ((inBoth ks ks').map V.str)) := upd_same
      have s7 : Same (upd H3 p4 (.tup ((inBoth ms ms').map V.str))) (upd H6 p7 (.tup ((inBoth ks ks').map V.str))) := s6.new n7
      have nA : Nms (inBoth ms ms') := fun z hz => nm z (List.mem_filter.mp hz).1
      have nB : Nms (inBoth ks ks') := fun z hz => nk z (List.mem_filter.mp hz).1
      have lA : (inBoth ms ms').length ≤ ms.length := List.length_filter_le _ _
      have lB : (inBoth ks ks').length ≤ ks.length := List.length_filter_le _ _
      exact ⟨p4, _, .ref p7, rfl, tup_of (s7 _ _ e4), (q.same (s4.trans s7)).makes (tup_of e7) nA nB (by omega) (by omega)⟩
end
end Tf

/-! k02: can_be, some, plain -/
namespace Tf
open PySem PySem.Spec PyProof.Rows L2
abbrev sCan : Stmt := top 21
abbrev sSome : Stmt := top 19
abbrev sPlain : Stmt := top 20
theorem scCan : FnScope ["_law_marks", "_law_sorts", "_law_one"] ["_law_marks", "_law_sorts"] (defScope sCan) := ⟨rfl, rfl, rfl, by decide +kernel, rfl, by decide +kernel, by decide +kernel⟩
theorem scSome : FnScope ["_law_dice_here", "_law_items", "_law_least", "_law_most", "_law_low", "_law_high"] ["_law_dice_here", "_law_items", "_law_least", "_law_most"] (defScope sSome) := ⟨rfl, rfl, rfl, by decide +kernel, rfl, by decide +kernel, by decide +kernel⟩
theorem scPlain : FnScope ["_law_dice_here", "_law_pool", "_law_cut", "_law_rest"] ["_law_dice_here"] (defScope sPlain) := ⟨rfl, rfl, rfl, by decide +kernel, rfl, by decide +kernel, by decide +kernel⟩
theorem len_firsts (zs : List Str) : (firsts zs).length = (canon zs).length := (canon_perm zs).length_eq.symm
theorem can_eq {ms ks : List Str} (h1 : (canon ms).length ≤ 8) (h2 : 1 ≤ (canon ks).length) (h3 : (canon ks).length ≤ 4) : decide ((ks.filter fun z => decide (z ∈ ms)) = []) = langOk ms ks := by
  cases hk : langOk ms ks with
  | true =>
    obtain ⟨_, _, _, h⟩ := ok_parts hk
    exact decide_eq_true (List.filter_eq_nil_iff.mpr fun z hz c => h z (mem_canon.mpr hz) (mem_canon.mpr (of_decide_eq_true c)))
  | false =>
    refine decide_eq_false fun c => ?_
    have : langOk ms ks = true := ok_of_parts h1 h2 h3 fun z hz hm => (List.filter_eq_nil_iff.mp c z (mem_canon.mp hz)) (decide_eq_true (mem_canon.mp hm))
    rw [hk] at this
    cases this
def spCan (K : PySem.W.Frag) : Sp := fun vs H Q _ => ∃ (a b : Addr) (ms ks : List Str), vs = [.ref a, .ref b] ∧ SqT K H a (ms.map V.str) ∧ SqT K H b (ks.map V.str) ∧ Nms ms ∧ Nms ks ∧ ms.length ≤ 60 ∧ ks.length ≤ 60 ∧ ∀ H', Same H H' → Q (.bl (langOk ms ks)) H'
section
variable {P : Program} {w : World} {K : PySem.W.Frag} {mg : Str → Option Value} {base : Heap}
theorem ok_can {f : Addr} {fd : FuncData} {k : Nat} (F : Fun K "_law_can_be" "_law_can_be" sCan f fd) (mL : mg "len" = none) (mS : mg "set" = none) : FnOk P w K mg base CX0 (k + 1) f fd ["_law_marks", "_law_sorts"] (spCan K) := by
  refine F.ok scCan (fun vs H Q E h => ?_) (fun cdv A outer s H vs Q E hr h => ?_)
  · obtain ⟨a, b, ms, ks, rfl, _⟩ := h
    rfl
  · obtain ⟨a, b, ms, ks, rfl, ha, hb, nm, nk, lm, lk, q⟩ := h
    have hu : (A.deeper (envOfC "_law_can_be" (defScope sCan) s.heap.objs.size f cdv)).units + 64 < cLine := by have := hr.un; omega
    refine ⟨_, pss_cons (ps_if (PW.pt (pw_or (pt_cmpR op_gt (pe_callB cr_lenX (by rfl) mL PySem.boot_len (pa_cons (pe_callTy (cr_setX rfl) (by rfl) mS (by decide +kernel) (pa_cons (pv 0) pa_nil)) pa_nil)) pe_int (nomark _))
          (pw_or1 (pt_not (pt_chain op_le op_le pe_int (pe_callB cr_lenX (by rfl) mL PySem.boot_len (pa_cons (pe_callTy (cr_setX rfl) (by rfl) mS (by decide +kernel) (pa_cons (pv 1) pa_nil)) pa_nil)) pe_int))))) (pss_one (ps_ret pe_bl)) pss_nil)
      (pss_one (ps_ret (pe_cmpR (op_eqD hu) (pe_lc (own := [("_law_one", 2)]) (g := gName 2) (tt := tTest (tOp (rIn K false) (tVar 2) (tVar 0))) (te := tVar 2) (by rfl) scCan.nd (pi_tup (pv 1)) (blkOk_by (own := [("_law_one", 2)]) (N := ["_law_marks", "_law_sorts", "_law_one"]) (sc := defScope sCan) (by decide +kernel)) (fun _ _ _ _ _ => pg_name (i := 2) scCan.nd rfl (Or.inl rfl)) (fun _ _ _ _ _ => pts_one (pt_cmpR op_in_seq (pv 2) (pv 0) (by rfl))) (fun _ _ _ _ _ => pv 2)) (pe_lst pa_nil) (nomark _)))), ?_⟩
    refine ⟨.ref a, rfl, a, ms, rfl, .inr ha, lm, fun p1 n1 => ⟨p1, _, rfl, upd_same, _, 8, rfl, rfl, _, rfl, ?_⟩⟩
    rw [len_firsts]
    have s1 : Same H (upd H p1 (SetX w p1 (firsts ms))) := same_new n1
    have no : ¬ ((canon ms).length ≤ 8 ∧ 1 ≤ (canon ks).length ∧ (canon ks).length ≤ 4) → langOk ms ks = false := fun c => by
      cases hk : langOk ms ks with
      | false => rfl
      | true =>
        obtain ⟨g1, g2, g3, _⟩ := ok_parts hk
        exact absurd ⟨g1, g2, g3⟩ c
    refine ite2 (fun c1 => iteT ?_) (fun c1 => ?_)
    · have c1' : (8 : Int) < ((canon ms).length : Int) := of_decide_eq_true c1
      rw [no (by omega)] at q
      exact q _ s1
    have c1' : ¬ (8 : Int) < ((canon ms).length : Int) := fun z => c1 (decide_eq_true z)
    refine ⟨.ref b, rfl, b, ks, rfl, .inr (s1.tup hb), lk, fun p2 n2 => ⟨p2, _, rfl, upd_same, 1, _, rfl, rfl, _, rfl, ?_⟩⟩
    rw [len_firsts]
    have s2 := s1.new (o := SetX w p2 (firsts ks)) n2
    refine ite2 (fun c2 => ?_) (fun c2 => ⟨false, rfl, iteT ?_⟩)
    rotate_left
    · rw [no fun c => c2 (decide_eq_true (by omega))] at q
      exact q _ s2
    have c2' : (1 : Int) ≤ ((canon ks).length : Int) := of_decide_eq_true c2
    refine ⟨_, 4, rfl, rfl, _, rfl, ?_⟩
    by_cases c3 : (canon ks).length ≤ 4
    rotate_left
    · have d3 : decide (((canon ks).length : Int) ≤ 4) = false := decide_eq_false (by omega)
      rw [d3]
      rw [no fun c => c3 c.2.2] at q
      exact iteT (q _ s2)
    have d3 : decide (((canon ks).length : Int) ≤ 4) = true := decide_eq_true (by omega)
    rw [d3]
    refine iteF ?_
    have hb2 := s2.tup hb
    have ha2 := s2.tup ha
    refine ⟨.ref b, rfl, b, rfl, ⟨_, hb2⟩, fun D nD => lc_on (h := V.str) (xs := ks) (by have := walk_tup (K := K) (a := b) (xs := ks.map V.str); rw [List.length_map] at this; exact this) rfl (fun z => inV (.str z) (ms.map V.str)) V.str nD (fun H5 s5 => s5.tup hb2) (by omega)
      (fun z hz H5 s5 Q' q' => ⟨_, rfl, .ref a, rfl, a, _, rfl, .inr (s5.tup ha2), rfl, flat_strs _, _, rfl, q' H5 (Same.refl H5)⟩) (fun z hz _ H5 s5 Q' q' => ⟨_, rfl, q' H5 (Same.refl H5)⟩) fun H3 s3 e3 => ?_⟩
    rw [in_fun] at e3
    refine eq_nil (lst_of e3) (fun z hz => nk z (List.mem_filter.mp hz).1) fun H4 s4 => ?_
    rw [can_eq (by omega) (by omega) c3]
    exact q _ (s2.trans (s3.trans s4))
theorem ok_canH {f : Addr} {fd : FuncData} {k : Nat} (F : Fun K "_law_can_be" "_law_can_be" sCan f fd) (mL : mg "len" = none) (mS : mg "set" = none) : L2H.FnH P w K mg base CX0 (k + 1) f fd ["_law_marks", "_law_sorts"] (spCan K) := by
  obtain ⟨oc, od, kV, doc, pm, an, cdv, ct, osl, rfl, lk, hcd⟩ := F.ex
  refine L2H.fn_ofH lk hcd scCan (fun vs H Q E h => ?_) (fun A outer s H vs Q E hp hot0 hr h => ?_)
  · obtain ⟨a, b, ms, ks, rfl, _⟩ := h
    rfl
  · obtain ⟨a, b, ms, ks, rfl, ha, hb, nm, nk, lm, lk', q⟩ := h
    have hot : L2H.HotC (L2H.cxH CX0 P w K mg base ["_law_marks", "_law_sorts", "_law_one"] "_law_can_be" (defScope sCan) f cdv A outer s H E hp) := ⟨hp, hot0, List.mem_cons_self⟩
    have hu : (A.deeper (envOfC "_law_can_be" (defScope sCan) s.heap.objs.size f cdv)).units + 64 < cLine := by have := hr.un; omega
    refine ⟨_, pss_cons (ps_if (PW.pt (pw_or (pt_cmpR op_gt (pe_callB cr_lenX (by rfl) mL PySem.boot_len (pa_cons (pe_callTy (cr_setH hot) (by rfl) mS (by decide +kernel) (pa_cons (pv 0) pa_nil)) pa_nil)) pe_int (nomark _))
          (pw_or1 (pt_not (pt_chain op_le op_le pe_int (pe_callB cr_lenX (by rfl) mL PySem.boot_len (pa_cons (pe_callTy (cr_setH hot) (by rfl) mS (by decide +kernel) (pa_cons (pv 1) pa_nil)) pa_nil)) pe_int))))) (pss_one (ps_ret pe_bl)) pss_nil)
      (pss_one (ps_ret (pe_cmpR (op_eqD hu) (TfH.pe_lcH (own := [("_law_one", 2)]) (g := gName 2) (tt := tTest (tOp (rIn K false) (tVar 2) (tVar 0))) (te := tVar 2) hot rfl rfl scCan.nd (pv 1) (blkOk_by (own := [("_law_one", 2)]) (N := ["_law_marks", "_law_sorts", "_law_one"]) (sc := defScope sCan) (by decide +kernel)) (fun _ _ _ _ _ => pg_name (i := 2) scCan.nd rfl (Or.inl rfl)) (fun _ _ _ _ _ => pts_one (pt_cmpR op_in_seq (pv 2) (pv 0) (by rfl))) (fun _ _ _ _ _ => pv 2)) (pe_lst pa_nil) (nomark _)))), ?_⟩
    refine ⟨.ref a, rfl, a, ms, rfl, ha, lm, fun p1 n1 => ⟨p1, _, rfl, upd_same, _, 8, rfl, rfl, _, rfl, ?_⟩⟩
    rw [len_firsts]
    have s1 : Same H (upd H p1 (SetX w p1 (firsts ms))) := same_new n1
    have no : ¬ ((canon ms).length ≤ 8 ∧ 1 ≤ (canon ks).length ∧ (canon ks).length ≤ 4) → langOk ms ks = false := fun c => by
      cases hk : langOk ms ks with
      | false => rfl
      | true =>
        obtain ⟨g1, g2, g3, _⟩ := ok_parts hk
        exact absurd ⟨g1, g2, g3⟩ c
    refine ite2 (fun c1 => iteT ?_) (fun c1 => ?_)
    · have c1' : (8 : Int) < ((canon ms).length : Int) := of_decide_eq_true c1
      rw [no (by omega)] at q
      exact q _ s1
    have c1' : ¬ (8 : Int) < ((canon ms).length : Int) := fun z => c1 (decide_eq_true z)
    refine ⟨.ref b, rfl, b, ks, rfl, s1.tup hb, lk', fun p2 n2 => ⟨p2, _, rfl, upd_same, 1, _, rfl, rfl, _, rfl, ?_⟩⟩
    rw [len_firsts]
    have s2 := s1.new (o := SetX w p2 (firsts ks)) n2
    refine ite2 (fun c2 => ?_) (fun c2 => ⟨false, rfl, iteT ?_⟩)
    rotate_left
    · rw [no fun c => c2 (decide_eq_true (by omega))] at q
      exact q _ s2
    have c2' : (1 : Int) ≤ ((canon ks).length : Int) := of_decide_eq_true c2
    refine ⟨_, 4, rfl, rfl, _, rfl, ?_⟩
    by_cases c3 : (canon ks).length ≤ 4
    rotate_left
    · have d3 : decide (((canon ks).length : Int) ≤ 4) = false := decide_eq_false (by omega)
      rw [d3]
      rw [no fun c => c3 c.2.2] at q
      exact iteT (q _ s2)
    have d3 : decide (((canon ks).length : Int) ≤ 4) = true := decide_eq_true (by omega)
    rw [d3]
    refine iteF ?_
    have hb2 := s2.tup hb
    have ha2 := s2.tup ha
    refine ⟨.ref b, rfl, b, rfl, ⟨_, hb2⟩, fun D nD => lc_on (h := V.str) (xs := ks) (by have := walk_tup (K := K) (a := b) (xs := ks.map V.str); rw [List.length_map] at this; exact this) rfl (fun z => inV (.str z) (ms.map V.str)) V.str nD (fun H5 s5 => s5.tup hb2) (by omega)
      (fun z hz H5 s5 Q' q' => ⟨_, rfl, .ref a, rfl, a, _, rfl, .inr (s5.tup ha2), rfl, flat_strs _, _, rfl, q' H5 (Same.refl H5)⟩) (fun z hz _ H5 s5 Q' q' => ⟨_, rfl, q' H5 (Same.refl H5)⟩) fun H3 s3 e3 => ?_⟩
    rw [in_fun] at e3
    refine eq_nil (lst_of e3) (fun z hz => nk z (List.mem_filter.mp hz).1) fun H4 s4 => ?_
    rw [can_eq (by omega) (by omega) c3]
    exact q _ (s2.trans (s3.trans s4))
end
end Tf

/-! k02: is_right -/
namespace Tf
open PySem PySem.Spec PyProof.Rows L2 LamX LamN
abbrev sIsr : Stmt := top 22
abbrev nIsr : List Str := ["_law_call", "_law_marks", "_law_sorts", "_law_found"]
theorem scIsr : FnScope nIsr ["_law_call", "_law_marks", "_law_sorts"] (defScope sIsr) := ⟨rfl, rfl, rfl, by decide +kernel, rfl, by decide +kernel, by decide +kernel⟩
/-- the lambda makes the language of ms and ks, or is refused -/
def TIsr (K : PySem.W.Frag) (C CI : Addr) : (XK → Hp → VK → Prop) → List V → Hp → VK → Prop := fun tl vs H Q => ∃ (a b : Addr) (ms ks : List Str), vs = [.ref a, .ref b] ∧ SqT K H a (ms.map V.str) ∧ SqT K H b (ks.map V.str) ∧ Nms ms ∧ Nms ks ∧ ms.length ≤ 60 ∧ ks.length ≤ 60 ∧ (∀ H', Same H H' → Q (.bl true) H') ∧
  ∀ (Ec : XK) (R : VK), (∀ d H', langOk ms ks = false → Same H H' → Ec (.ref CI) d H') → (∀ x H', langOk ms ks = true → Same H H' → LangAt C H' x (canon ms) (canon ks) → R (.ref x) H') → tl Ec H R
theorem shaped2 {a b : List Str} (ha : Nms a) (hb : Nms b) : SeqAt.shaped (.list [.tuple (dS a), .tuple (dS b)]) = true := by
  show (PyData.canLay0 (.list [.tuple (dS a), .tuple (dS b)]) && decide (PyData.depth (.list [.tuple (dS a), .tuple (dS b)]) ≤ 64)) = true
  rw [Bool.and_eq_true]
  refine ⟨by simp only [PyData.canLay0, PyData.canLayAll0, lay_strs ha, lay_strs hb, Bool.and_self], decide_eq_true ?_⟩
  simp only [PyData.depth, PyData.depthAll, depth_strs]
  decide
theorem eqv2 {a b : List Str} : PyData.eqv (.list [.tuple (dS a), .tuple (dS b)]) (.list [.tuple (dS a), .tuple (dS b)]) = true := by
  simp only [PyData.eqv, PyData.eqvAll, eqvAll_strs]
  simp
/-- what is asked of the written part -/
structure IsrT (P : Program) (w : World) (K : PySem.W.Frag) (mg : Str → Option Value) (base : Heap) (k : Nat) (C CI fCa fMk fKi pM pK : Addr) (fdCa fdMk fdKi : FuncData) : Prop where
  GCa : FnOk P w K mg base CX0 k fCa fdCa ["_law_marks", "_law_sorts"] (spCan K)
  HCa : L2H.FnH P w K mg base CX0 k fCa fdCa ["_law_marks", "_law_sorts"] (spCan K)
  bCa : Binds K fdCa ["_law_marks", "_law_sorts"] []
  gCa : mg "_law_can_be" = some (.ref fCa)
  kCa : PySem.W.keepIn K (.ref fCa) = true
  L : LCls K C
  GMk : FnOk P w K mg base CX0 1 fMk fdMk ["self"] (spMarks C true)
  bMk : Binds K fdMk ["self"] []
  pMk : PropOf K C "marks" pM fMk
  GKi : FnOk P w K mg base CX0 1 fKi fdKi ["self"] (spMarks C false)
  bKi : Binds K fdKi ["self"] []
  pKi : PropOf K C "kinds" pK fKi
  gI : mg "InvalidLanguage" = some (.ref CI)
  ex : PySem.W.exmOne K (.ref CI) (.ref CI) = some true
  mT : mg "tuple" = none
  mSo : mg "sorted" = none
  mSe : mg "set" = none
section
variable {X : Cx}
theorem isr_gives {g C CI fCa fMk fKi pM pK : Addr} {fdCa fdMk fdKi : FuncData} {k : Nat} (R : IsrT X.prog X.w X.K X.mg X.base k C CI fCa fMk fKi pM pK fdCa fdMk fdKi) (k2 : 2 ≤ k) (hr : Room (k + 1) X.A) (q : Str) (cdg : Value) : Gives X nIsr "_law_is_right" (defScope sIsr) g cdg (defBody sIsr) "_law_call" q (TIsr X.K C CI) := by
  intro f c' s H Q tl vs act hc h
  obtain ⟨a, b, ms, ks, rfl, ha, hb, nm, nk, lm, lk, hQ, h⟩ := h
  have hr' : Room k (X.A.deeper (envOfC "_law_is_right" (defScope sIsr) s.heap.objs.size g cdg)) := hr.deeper _
  have hr2 : Room 2 (X.A.deeper (envOfC "_law_is_right" (defScope sIsr) s.heap.objs.size g cdg)) := hr'.mono k2
  have hu : (X.A.deeper (envOfC "_law_is_right" (defScope sIsr) s.heap.objs.size g cdg)).units + 64 < cLine := by have := hr'.un; omega
  refine ⟨_, pss_cons (L2N.ps_try_many (X := (cxOf L2.CX0 X.prog X.w X.K X.mg X.base nIsr "_law_is_right" (defScope sIsr) g cdg X.A X.stack s H E0).nox) (Wout := fun _ _ _ _ => False)
      (tb := fun W D σ H => ∃ Ech : XK, σ[0]? = some (some (.ref f)) ∧ H c' = some (CodeO c' q) ∧ (∀ cls d H', Ech cls d H' → W cls d σ H') ∧ tl Ech H (fun v H' => D.nx (σ.set 3 (some v)) H'))
      rfl rfl L2N.takes0 (fun W pn xe tk _ => ?_)
      (.cons (ts := fun _ _ _ => tRet (tNotV (L2.tCallS (spCan X.K) (fun _ => E0) (tCons (tVar 1) (tCons (tVar 2) tNil))))) ⟨rfl, by decide, .inl R.gI⟩ (fun a oe cls d pn zn ⟨vs, ev⟩ => pss_one (ps_ret (pe_not (L2H.pe_callH (k := k) (CX := CX0) (E := fun _ => E0) R.HCa ⟨hr'.dp, hr'.un⟩ ⟨(a, oe), ⟨rfl, vs, ev, zn.2.2 vs ev⟩, List.mem_cons_self⟩ (by rfl) R.gCa R.kCa R.bCa (fun _ _ _ _ _ _ _ z => z.elim) (pa_cons (pv 1) (pa_cons (pv 2) pa_nil)))))) .nil))
    (pss_cons (ps_if (pt_not (pt_val (pe_call R.GCa hr' (by rfl) R.gCa R.kCa R.bCa .nil pass0 (pa_cons (pv 1) (pa_cons (pv 2) pa_nil))))) (pss_one (ps_ret pe_bl)) pss_nil)
    (pss_one (ps_ret (pe_cmpR (op_eqD hu) (pe_lst (pa_cons (pe_prop (pv 3) R.L.cl R.pMk R.GMk hr2 R.bMk .nil pass0 (by rfl)) (pa_cons (pe_prop (pv 3) R.L.cl R.pKi R.GKi hr2 R.bKi .nil pass0 (by rfl)) pa_nil)))
      (pe_lst (pa_cons (pe_callTy call_tuple_of (by rfl) R.mT (by decide +kernel) (pa_cons (pe_callB (cr_sortX rfl) (by rfl) R.mSo (by decide +kernel) (pa_cons (pe_callTy (cr_setX rfl) (by rfl) R.mSe (by decide +kernel) (pa_cons (pv 1) pa_nil)) pa_nil)) pa_nil)) (pa_cons (pe_callTy call_tuple_of (by rfl) R.mT (by decide +kernel) (pa_cons (pe_callB (cr_sortX rfl) (by rfl) R.mSo (by decide +kernel) (pa_cons (pe_callTy (cr_setX rfl) (by rfl) R.mSe (by decide +kernel) (pa_cons (pv 2) pa_nil)) pa_nil)) pa_nil)) pa_nil))) (nomark _))))), ?_⟩
  · refine ⟨fun pins s' σ H' D I h' => ?_⟩
    obtain ⟨Ech, h1, h2, hW, h3⟩ := h'
    have hp := fun p1 p2 => act W pn xe Ech p1 p2 tk
    exact (pss_one (ps_set (i := 3) scIsr.nd rfl (.inl rfl) (hp _ _))).run pins s' σ H' D I ⟨h1, h2, hW, h3⟩
  · refine ⟨fun cls d H' => cls = .ref CI ∧ langOk ms ks = false ∧ Same H H', rfl, hc, fun cls d H' e => ?_, h _ _ (fun d H' e s' => ⟨rfl, e, s'⟩) fun x H1 e s1 la => ?_⟩
    · obtain ⟨rfl, e, s1⟩ := e
      refine ⟨true, R.ex, fun _ a' na => ⟨.ref a, rfl, .ref b, rfl, a, b, ms, ks, rfl, s1.tup ha, s1.tup hb, nm, nk, lm, lk, fun H2 s2 => ⟨false, by rw [e], hQ H2 (s1.trans s2)⟩⟩, fun z => Bool.noConfusion z⟩
    · refine ⟨.ref a, rfl, .ref b, rfl, a, b, ms, ks, rfl, s1.tup ha, s1.tup hb, nm, nk, lm, lk, fun H2 s2 => ⟨true, by rw [e], iteF ?_⟩⟩
      have S2 := s1.trans s2
      have la2 := la.same s2
      obtain ⟨dx, fs, _, _, gx, -, -, -, -, -⟩ := id la2
      refine ⟨.ref x, rfl, x, dx, fs, rfl, gx, x, _, _, rfl, la2, fun p1 hp1 => ⟨.ref x, rfl, x, dx, fs, rfl, gx, x, _, _, rfl, la2, fun p2 hp2 => ⟨by show 2 ≤ sizeLine; decide, fun l1 m1 => ?_⟩⟩⟩
      have hp1' : H2 p1 = some (.tup ((canon ms).map V.str)) := hp1
      have hp2' : H2 p2 = some (.tup ((canon ks).map V.str)) := hp2
      have e3 : (upd H2 l1 (.lst [.ref p1, .ref p2])) l1 = some (.lst [.ref p1, .ref p2]) := upd_same
      have s3 : Same H2 (upd H2 l1 (.lst [.ref p1, .ref p2])) := same_new m1
      generalize upd H2 l1 (.lst [.ref p1, .ref p2]) = H3 at *
      have fm := firsts_len ms
      have fk := firsts_len ks
      refine ⟨.ref a, rfl, a, ms, rfl, .inr (s3.tup (S2.tup ha)), lm, fun a1 n1 => ⟨a1, _, rfl, upd_same, by omega, fun ys q1 pm so n2 => ?_⟩⟩
      obtain rfl : ys = canon ms := canon_is pm so
      have s4 : Same H3 (upd (upd H3 a1 (SetX (cxOf CX0 X.prog X.w X.K X.mg X.base nIsr "_law_is_right" (defScope sIsr) g cdg X.A X.stack s H E0).nox.w a1 (firsts ms))) q1 (.lst ((canon ms).map V.str))) := (same_new n1).new n2
      have e4 : (upd (upd H3 a1 (SetX (cxOf CX0 X.prog X.w X.K X.mg X.base nIsr "_law_is_right" (defScope sIsr) g cdg X.A X.stack s H E0).nox.w a1 (firsts ms))) q1 (.lst ((canon ms).map V.str))) q1 = some (.lst ((canon ms).map V.str)) := upd_same
      refine ⟨q1, _, rfl, .inl ⟨lst_of e4, fun q2 n3 => ?_⟩⟩
      generalize upd (upd H3 a1 (SetX (cxOf CX0 X.prog X.w X.K X.mg X.base nIsr "_law_is_right" (defScope sIsr) g cdg X.A X.stack s H E0).nox.w a1 (firsts ms))) q1 (.lst ((canon ms).map V.str)) = H4 at *
      have e5 : (upd H4 q2 (.tup ((canon ms).map V.str))) q2 = some (.tup ((canon ms).map V.str)) := upd_same
      have s5 : Same H4 (upd H4 q2 (.tup ((canon ms).map V.str))) := same_new n3
      generalize upd H4 q2 (.tup ((canon ms).map V.str)) = H5 at *
      refine ⟨.ref b, rfl, b, ks, rfl, .inr (s5.tup (s4.tup (s3.tup (S2.tup hb)))), lk, fun a2 n4 => ⟨a2, _, rfl, upd_same, by omega, fun ys q3 pm' so' n5 => ?_⟩⟩
      obtain rfl : ys = canon ks := canon_is pm' so'
      have s6 : Same H5 (upd (upd H5 a2 (SetX (cxOf CX0 X.prog X.w X.K X.mg X.base nIsr "_law_is_right" (defScope sIsr) g cdg X.A X.stack s H E0).nox.w a2 (firsts ks))) q3 (.lst ((canon ks).map V.str))) := (same_new n4).new n5
      have e6 : (upd (upd H5 a2 (SetX (cxOf CX0 X.prog X.w X.K X.mg X.base nIsr "_law_is_right" (defScope sIsr) g cdg X.A X.stack s H E0).nox.w a2 (firsts ks))) q3 (.lst ((canon ks).map V.str))) q3 = some (.lst ((canon ks).map V.str)) := upd_same
      refine ⟨q3, _, rfl, .inl ⟨lst_of e6, fun q4 n6 => ?_⟩⟩
      generalize upd (upd H5 a2 (SetX (cxOf CX0 X.prog X.w X.K X.mg X.base nIsr "_law_is_right" (defScope sIsr) g cdg X.A X.stack s H E0).nox.w a2 (firsts ks))) q3 (.lst ((canon ks).map V.str)) = H6 at *
      have e7 : (upd H6 q4 (.tup ((canon ks).map V.str))) q4 = some (.tup ((canon ks).map V.str)) := upd_same
      have s7 : Same H6 (upd H6 q4 (.tup ((canon ks).map V.str))) := same_new n6
      generalize upd H6 q4 (.tup ((canon ks).map V.str)) = H7 at *
      refine ⟨by show 2 ≤ sizeLine; decide, fun l2 n7 => ?_⟩
      have e8 : (upd H7 l2 (.lst [.ref q2, .ref q4])) l2 = some (.lst [.ref q2, .ref q4]) := upd_same
      have s8 : Same H7 (upd H7 l2 (.lst [.ref q2, .ref q4])) := same_new n7
      generalize upd H7 l2 (.lst [.ref q2, .ref q4]) = H8 at *
      have dd : ∀ {l u v : Addr}, H8 l = some (.lst [.ref u, .ref v]) → H8 u = some (.tup ((canon ms).map V.str)) → H8 v = some (.tup ((canon ks).map V.str)) → Dp X.K H8 (.ref l) (.list [.tuple (dS (canon ms)), .tuple (dS (canon ks))]) := fun h1 h2 h3 => .lst (lst_of h1) (.cons (dp_tuple (tup_of h2)) (.cons (dp_tuple (tup_of h3)) .nil))
      have S8 : Same H3 H8 := s4.trans (s5.trans (s6.trans (s7.trans s8)))
      refine ⟨_, _, dd (S8 _ _ e3) (S8 _ _ (s3 _ _ hp1')) (S8 _ _ (s3 _ _ hp2')), dd e8 (s8 _ _ (s7 _ _ (s6 _ _ e5))) (s8 _ _ e7), shaped2 nm.canon nk.canon, shaped2 nm.canon nk.canon, ?_⟩
      rw [eqv2]
      exact hQ _ (S2.trans (s3.trans S8))
end
end Tf

/-! k02: some of the names, plain languages -/
namespace L2
open PySem PySem.Spec PyProof.Rows
theorem cut_take (xs : List V) (k : Nat) : cutV xs none (some (k : Int)) = xs.take k := by
  unfold cutV
  rw [HT.sIx_none, HT.sIx_nat, List.drop_zero, Nat.sub_zero]
  by_cases h : k ≤ xs.length
  · rw [Nat.min_eq_left h]
  · rw [Nat.min_eq_right (by omega), List.take_length, List.take_of_length_le (by omega)]
theorem cut_mid (xs : List V) {a b : Nat} (ha : a ≤ xs.length) (hb : b ≤ xs.length) : cutV xs (some (a : Int)) (some (b : Int)) = (xs.drop a).take (b - a) := by
  unfold cutV
  rw [HT.sIx_nat, HT.sIx_nat, Nat.min_eq_left ha, Nat.min_eq_left hb]
end L2
namespace Tf
open PySem PySem.Spec PyProof.Rows L2
/-- a plain language: ascending, and there is one -/
structure PlainL (ms ks : List Str) : Prop where
  nm : Nms ms
  nk : Nms ks
  cm : canon ms = ms
  ck : canon ks = ks
  ok : langOk ms ks = true
theorem ok_small {ms ks : List Str} (h1 : ms.length ≤ 8) (h2 : ks ≠ []) (h3 : ks.length ≤ 4) (h4 : ∀ z ∈ ks, z ∉ ms) : langOk ms ks = true := by
  refine ok_of_parts (Nat.le_trans (canon_len _) h1) ?_ (Nat.le_trans (canon_len _) h3) fun z hz hm => h4 z (mem_canon.mp hz) (mem_canon.mp hm)
  obtain ⟨z, r, rfl⟩ := List.exists_cons_of_ne_nil h2
  exact List.length_pos_of_mem (mem_canon.mpr List.mem_cons_self)
theorem PlainL.lens {ms ks : List Str} (p : PlainL ms ks) : ms.length ≤ 8 ∧ 1 ≤ ks.length ∧ ks.length ≤ 4 ∧ ∀ z ∈ ks, z ∉ ms := by
  have h := ok_parts p.ok
  rw [p.cm, p.ck] at h
  exact h
def pool2 : List Str := ["a", "ab", "b", "ba", "c", "d", "e", "f", "g", "h", "by", "of", "to", "in"]
theorem pool2_ok : ∀ z ∈ pool2, nameB z = true := by decide +kernel
theorem pool2_nd : pool2.Nodup := by decide +kernel
theorem plain_of {ps ms ks : List Str} {c r : Nat} (hp : ps.Perm pool2) (hc : c ≤ 8) (hr : r < 4) (pm : ms.Perm (ps.take c)) (sm : sortedS ms = true) (pk : ks.Perm ((ps.drop c).take (1 + r))) (sk : sortedS ks = true) : PlainL ms ks := by
  have nd : ps.Nodup := hp.nodup_iff.mpr pool2_nd
  have len : ps.length = 14 := hp.length_eq
  have inm : ∀ z ∈ ms, z ∈ ps := fun z hz => List.mem_of_mem_take (pm.mem_iff.mp hz)
  have ink : ∀ z ∈ ks, z ∈ ps.drop c := fun z hz => List.mem_of_mem_take (pk.mem_iff.mp hz)
  have lm : ms.length ≤ 8 := by rw [pm.length_eq, List.length_take]; omega
  have lk : ks.length = 1 + r := by rw [pk.length_eq, List.length_take, List.length_drop]; omega
  have ndm : ms.Nodup := pm.nodup_iff.mpr (nd.sublist (List.take_sublist _ _))
  have ndk : ks.Nodup := pk.nodup_iff.mpr ((nd.sublist (List.drop_sublist _ _)).sublist (List.take_sublist _ _))
  refine ⟨fun z hz => pool2_ok z (hp.mem_iff.mp (inm z hz)), fun z hz => pool2_ok z (hp.mem_iff.mp (List.mem_of_mem_drop (ink z hz))), canon_self ndm (sortedS_pw sm), canon_self ndk (sortedS_pw sk), ok_small lm (fun e => ?_) (by omega) fun z hk hm => ?_⟩
  · rw [e] at lk
    simp at lk
    omega
  · have nd2 : (ps.take c ++ ps.drop c).Nodup := by rw [List.take_append_drop]; exact nd
    exact (List.nodup_append.mp nd2).2.2 z (pm.mem_iff.mp hm) z (ink z hk) rfl
def spSome (K : PySem.W.Frag) : Sp := fun vs H Q _ => ∃ (d l : Addr) (zs : List Str), vs = [.ref d, .ref l, .int 1, .int 2] ∧ Dice H d ∧ (SqL K H l (zs.map V.str) ∨ SqT K H l (zs.map V.str)) ∧ Nms zs ∧ zs.length < 1000 ∧ 1 ≤ zs.length ∧
  ∀ (ys : List Str) (p : Addr) (H' : Hp), Nr d H H' → Dice H' d → H' p = some (.lst (ys.map V.str)) → d ≠ p → 1 ≤ ys.length → ys.length ≤ 2 → (∀ y ∈ ys, y ∈ zs) → Q (.ref p) H'
/-- a plain language stands at p -/
structure PlainAt (H : Hp) (p pm pk : Addr) (ms ks : List Str) : Prop where
  at_ : H p = some (.tup [.ref pm, .ref pk])
  am : H pm = some (.tup (ms.map V.str))
  ak : H pk = some (.tup (ks.map V.str))
  pl : PlainL ms ks
def spPlain : Sp := fun vs H Q _ => ∃ d : Addr, vs = [.ref d] ∧ Dice H d ∧ ∀ (p pm pk : Addr) (ms ks : List Str) (H' : Hp), Nr d H H' → Dice H' d → PlainAt H' p pm pk ms ks → Q (.ref p) H'
section
variable {P : Program} {w : World} {K : PySem.W.Frag} {mg : Str → Option Value} {base : Heap}
theorem ok_some {f fR fM : Addr} {fd fdR fdM : FuncData} {k : Nat} (F : Fun K "_law_some" "_law_some" sSome f fd)
    (GR : FnOk P w K mg base CX0 k fR fdR ["_law_dice_here", "_law_upto"] spRoll) (bR : Binds K fdR ["_law_dice_here", "_law_upto"] []) (gR : mg "_law_roll" = some (.ref fR)) (kR : PySem.W.keepIn K (.ref fR) = true)
    (GM : FnOk P w K mg base CX0 k fM fdM ["_law_dice_here", "_law_items"] (spMixed K)) (bM : Binds K fdM ["_law_dice_here", "_law_items"] []) (gM : mg "_law_mixed" = some (.ref fM)) (kM : PySem.W.keepIn K (.ref fM) = true) (mMn : mg "min" = none) (mLe : mg "len" = none) :
    FnOk P w K mg base CX0 (k + 1) f fd ["_law_dice_here", "_law_items", "_law_least", "_law_most"] (spSome K) := by
  refine F.ok scSome (fun vs H Q E h => ?_) (fun cdv A outer s H vs Q E hr h => ?_)
  · obtain ⟨d, l, zs, rfl, _⟩ := h
    rfl
  · obtain ⟨d, l, zs, rfl, hd, hl, nz, lz, l1, q⟩ := h
    refine ⟨_, pss_cons (ps_par (i := 4) (j := 5) (by rfl) scSome.nd rfl rfl (by decide) rfl rfl (pa_cons (pe_callB (call_min2 rfl) (by rfl) mMn (by decide +kernel) (pa_cons (pv 2) (pa_cons (pe_callB call_len_seq (by rfl) mLe PySem.boot_len (pa_cons (pv 1) pa_nil)) pa_nil))) (pa_cons (pe_callB (call_min2 rfl) (by rfl) mMn (by decide +kernel) (pa_cons (pv 3) (pa_cons (pe_callB call_len_seq (by rfl) mLe PySem.boot_len (pa_cons (pv 1) pa_nil)) pa_nil))) pa_nil)) (by rfl))
      (pss_one (ps_ret (pe_slice sl_list (pe_call GM hr (by rfl) gM kM bM .nil pass0 (pa_cons (pv 0) (pa_cons (pv 1) pa_nil))) po_none (po_some (pe_op op_add (pv 4) (pe_call GR hr (by rfl) gR kR bR .nil pass0 (pa_cons (pv 0) (pa_cons (pe_op op_add (pe_op op_sub (pv 5) (pv 4)) pe_int) pa_nil)))))))), ?_⟩
    refine ⟨.int 1, rfl, .ref l, rfl, l, _, rfl, hl, 1, _, rfl, .int 2, rfl, .ref l, rfl, l, _, rfl, hl, 2, _, rfl, _, _, rfl, ?_⟩
    rw [List.length_map]
    have e1 : (if (zs.length : Int) < 1 then (zs.length : Int) else 1) = 1 := if_neg (by omega)
    rw [e1]
    obtain ⟨hi, ehi⟩ : ∃ hi : Int, hi = (if (zs.length : Int) < 2 then (zs.length : Int) else 2) := ⟨_, rfl⟩
    rw [← ehi]
    have hb : 1 ≤ hi ∧ hi ≤ 2 := by
      rw [ehi]
      split <;> omega
    refine ⟨.ref d, rfl, .ref l, rfl, d, l, zs, rfl, hd, hl, nz, lz, fun ys p0 H1 pm nr1 dc1 np0 ep0 => ?_⟩
    have dp0 : p0 ≠ d := by
      obtain ⟨_, _, _, _, e'⟩ := hd
      exact (ne_of_none e' np0).symm
    refine ⟨.int 1, rfl, .ref d, rfl, .int hi, rfl, .int 1, rfl, hi, 1, rfl, rfl, hi - 1, 1, rfl, rfl, d, hi - 1 + 1, rfl, dc1, by omega, by omega, fun r H2 r0 r1 nr2 dc2 => ⟨1, r, rfl, rfl, _, rfl, p0, _, rfl, lst_of (nr2 _ _ dp0 ep0), fun p1 n1 => ?_⟩⟩
    obtain ⟨m, rfl⟩ : ∃ m : Nat, r = (m : Int) := ⟨r.toNat, by omega⟩
    rw [show (1 : Int) + (m : Int) = ((1 + m : Nat) : Int) by omega, cut_take, ← List.map_take]
    have len := pm.length_eq
    have dp1 : d ≠ p1 := by
      obtain ⟨_, _, _, _, e'⟩ := dc2
      exact ne_of_none e' n1
    refine q (ys.take (1 + m)) p1 _ ((nr1.trans nr2).trans (same_new n1).nr) (dc2.same (same_new n1)) upd_same dp1 ?_ ?_ fun y hy => pm.mem_iff.mp (List.mem_of_mem_take hy)
    · rw [List.length_take]
      omega
    · rw [List.length_take]
      omega
theorem ok_plain {f fR fM fP : Addr} {fd fdR fdM fdP : FuncData} {k : Nat} (F : Fun K "_law_plain" "_law_plain" sPlain f fd)
    (GR : FnOk P w K mg base CX0 k fR fdR ["_law_dice_here", "_law_upto"] spRoll) (bR : Binds K fdR ["_law_dice_here", "_law_upto"] []) (gR : mg "_law_roll" = some (.ref fR)) (kR : PySem.W.keepIn K (.ref fR) = true)
    (GM : FnOk P w K mg base CX0 k fM fdM ["_law_dice_here", "_law_items"] (spMixed K)) (bM : Binds K fdM ["_law_dice_here", "_law_items"] []) (gM : mg "_law_mixed" = some (.ref fM)) (kM : PySem.W.keepIn K (.ref fM) = true)
    (GP : FnOk P w K mg base CX0 k fP fdP ["_law_dice_here", "_law_items"] (spPick K)) (bP : Binds K fdP ["_law_dice_here", "_law_items"] []) (gP : mg "_law_pick" = some (.ref fP)) (kP : PySem.W.keepIn K (.ref fP) = true) (mT : mg "tuple" = none) (mS : mg "sorted" = none) :
    FnOk P w K mg base CX0 (k + 1) f fd ["_law_dice_here"] spPlain := by
  refine F.ok scPlain (fun vs H Q E h => ?_) (fun cdv A outer s H vs Q E hr h => ?_)
  · obtain ⟨d, rfl, _⟩ := h
    rfl
  · obtain ⟨d, rfl, hd, q⟩ := h
    refine ⟨_, pss_cons (ps_set (i := 1) scPlain.nd rfl (.inl rfl) (pe_call GM hr (by rfl) gM kM bM .nil pass0 (pa_cons (pv 0) (pa_cons (pe_lst (pa_cons pe_str (pa_cons pe_str (pa_cons pe_str (pa_cons pe_str (pa_cons pe_str (pa_cons pe_str (pa_cons pe_str (pa_cons pe_str (pa_cons pe_str (pa_cons pe_str (pa_cons pe_str (pa_cons pe_str (pa_cons pe_str (pa_cons pe_str pa_nil))))))))))))))) pa_nil))))
      (pss_cons (ps_set (i := 2) scPlain.nd rfl (.inl rfl) (pe_call GP hr (by rfl) gP kP bP .nil pass0 (pa_cons (pv 0) (pa_cons (pe_lst (pa_cons pe_int (pa_cons pe_int (pa_cons pe_int (pa_cons pe_int (pa_cons pe_int (pa_cons pe_int (pa_cons pe_int pa_nil)))))))) pa_nil))))
      (pss_cons (ps_set (i := 3) scPlain.nd rfl (.inl rfl) (pe_slice sl_list (pv 1) (po_some (pv 2)) (po_some (pe_op op_add (pe_op op_add (pv 2) pe_int) (pe_call GR hr (by rfl) gR kR bR .nil pass0 (pa_cons (pv 0) (pa_cons pe_int pa_nil)))))))
      (pss_one (ps_ret (pe_tup (pa_cons (pe_callTy call_tuple_of (by rfl) mT (by decide +kernel) (pa_cons (pe_callB cr_sortedS (by rfl) mS (by decide +kernel) (pa_cons (pe_slice sl_list (pv 1) po_none (po_some (pv 2))) pa_nil)) pa_nil)) (pa_cons (pe_callTy call_tuple_of (by rfl) mT (by decide +kernel) (pa_cons (pe_callB cr_sortedS (by rfl) mS (by decide +kernel) (pa_cons (pv 3) pa_nil)) pa_nil)) pa_nil))))))), ?_⟩
    refine ⟨.ref d, rfl, (by show 14 ≤ sizeLine; decide), fun l0 n0 => ?_⟩
    have s0 : Same H (upd H l0 (.lst (pool2.map V.str))) := same_new n0
    refine ⟨d, l0, pool2, rfl, hd.same s0, .inl (lst_of upd_same), pool2_ok, by decide, fun ps p0 H1 hp nr1 dc1 np0 ep0 => ?_⟩
    have dp0 : p0 ≠ d := by
      obtain ⟨_, _, _, _, e'⟩ := hd.same s0
      exact (ne_of_none e' np0).symm
    have nrA : Nr d H H1 := s0.nr.trans nr1
    refine ⟨.ref d, rfl, (by show 7 ≤ sizeLine; decide), fun l1 n1 => ?_⟩
    have e2 : (upd H1 l1 (.lst [.int 0, .int 1, .int 2, .int 3, .int 4, .int 6, .int 8])) l1 = some (.lst [.int 0, .int 1, .int 2, .int 3, .int 4, .int 6, .int 8]) := upd_same
    have s2 : Same H1 (upd H1 l1 (.lst [.int 0, .int 1, .int 2, .int 3, .int 4, .int 6, .int 8])) := same_new n1
    generalize upd H1 l1 (.lst [.int 0, .int 1, .int 2, .int 3, .int 4, .int 6, .int 8]) = H2 at *
    have dl1 : d ≠ l1 := by
      obtain ⟨_, _, _, _, e'⟩ := dc1
      exact ne_of_none e' n1
    refine ⟨d, l1, _, rfl, dc1.same s2, e2, dl1, List.cons_ne_nil _ _, by show 7 < 1000; decide, fun v H3 hv nr3 dc3 => ?_⟩
    obtain ⟨c, rfl, hc⟩ : ∃ c : Nat, v = .int (c : Int) ∧ c ≤ 8 := by
      have al : ∀ v ∈ [V.int 0, .int 1, .int 2, .int 3, .int 4, .int 6, .int 8], ∃ c : Nat, v = .int (c : Int) ∧ c ≤ 8 := by
        simp only [List.forall_mem_cons]
        exact ⟨⟨0, rfl, by decide⟩, ⟨1, rfl, by decide⟩, ⟨2, rfl, by decide⟩, ⟨3, rfl, by decide⟩, ⟨4, rfl, by decide⟩, ⟨6, rfl, by decide⟩, ⟨8, rfl, by decide⟩, fun v hv => by cases hv⟩
      exact al v hv
    have len : ps.length = 14 := hp.length_eq
    have ep3 := nr3 _ _ dp0 (s2 _ _ ep0)
    refine ⟨.ref p0, rfl, .int c, rfl, c, rfl, .int c, rfl, c, 1, rfl, rfl, .ref d, rfl, d, 4, rfl, dc3, by decide, by decide, fun r H4 r0 r4 nr4 dc4 => ⟨(c : Int) + 1, r, rfl, rfl, _, rfl, p0, _, rfl, lst_of (nr4 _ _ dp0 ep3), fun p1 n2 => ?_⟩⟩
    obtain ⟨m, rfl⟩ : ∃ m : Nat, r = (m : Int) := ⟨r.toNat, by omega⟩
    rw [show (c : Int) + 1 + (m : Int) = ((c + (1 + m) : Nat) : Int) by omega, cut_mid _ (by rw [List.length_map]; omega) (by rw [List.length_map]; omega), Nat.add_sub_cancel_left, ← List.map_drop, ← List.map_take]
    have ep4 := nr4 _ _ dp0 ep3
    have e5 : (upd H4 p1 (.lst (((ps.drop c).take (1 + m)).map V.str))) p1 = some (.lst (((ps.drop c).take (1 + m)).map V.str)) := upd_same
    have s5 : Same H4 (upd H4 p1 (.lst (((ps.drop c).take (1 + m)).map V.str))) := same_new n2
    generalize upd H4 p1 (.lst (((ps.drop c).take (1 + m)).map V.str)) = H5 at *
    have dp1 : d ≠ p1 := by
      obtain ⟨_, _, _, _, e'⟩ := dc4
      exact ne_of_none e' n2
    refine ⟨.ref p0, rfl, .int c, rfl, c, rfl, p0, _, rfl, lst_of (s5 _ _ ep4), fun p2 n3 => ?_⟩
    rw [cut_take, ← List.map_take]
    have e6 : (upd H5 p2 (.lst ((ps.take c).map V.str))) p2 = some (.lst ((ps.take c).map V.str)) := upd_same
    have s6 : Same H5 (upd H5 p2 (.lst ((ps.take c).map V.str))) := same_new n3
    generalize upd H5 p2 (.lst ((ps.take c).map V.str)) = H6 at *
    refine ⟨p2, ps.take c, rfl, lst_of e6, by rw [List.length_take]; omega, fun ms p3 pm sm n4 => ?_⟩
    have e7 : (upd H6 p3 (.lst (ms.map V.str))) p3 = some (.lst (ms.map V.str)) := upd_same
    have s7 : Same H6 (upd H6 p3 (.lst (ms.map V.str))) := same_new n4
    generalize upd H6 p3 (.lst (ms.map V.str)) = H7 at *
    refine ⟨p3, _, rfl, .inl ⟨lst_of e7, fun p4 n5 => ?_⟩⟩
    have e8 : (upd H7 p4 (.tup (ms.map V.str))) p4 = some (.tup (ms.map V.str)) := upd_same
    have s8 : Same H7 (upd H7 p4 (.tup (ms.map V.str))) := same_new n5
    generalize upd H7 p4 (.tup (ms.map V.str)) = H8 at *
    refine ⟨.ref p1, rfl, p1, (ps.drop c).take (1 + m), rfl, lst_of (s8 _ _ (s7 _ _ (s6 _ _ e5))), by rw [List.length_take]; omega, fun ks p5 pk sk n6 => ?_⟩
    have e9 : (upd H8 p5 (.lst (ks.map V.str))) p5 = some (.lst (ks.map V.str)) := upd_same
    have s9 : Same H8 (upd H8 p5 (.lst (ks.map V.str))) := same_new n6
    generalize upd H8 p5 (.lst (ks.map V.str)) = H9 at *
    refine ⟨p5, _, rfl, .inl ⟨lst_of e9, fun p6 n7 => ?_⟩⟩
    have e10 : (upd H9 p6 (.tup (ks.map V.str))) p6 = some (.tup (ks.map V.str)) := upd_same
    have s10 : Same H9 (upd H9 p6 (.tup (ks.map V.str))) := same_new n7
    generalize upd H9 p6 (.tup (ks.map V.str)) = H10 at *
    refine ⟨by show 2 ≤ sizeLine; decide, fun p7 n8 => ?_⟩
    have e11 : (upd H10 p7 (.tup [.ref p4, .ref p6])) p7 = some (.tup [.ref p4, .ref p6]) := upd_same
    have s11 : Same H10 (upd H10 p7 (.tup [.ref p4, .ref p6])) := same_new n8
    generalize upd H10 p7 (.tup [.ref p4, .ref p6]) = H11 at *
    have S : Same H4 H11 := s5.trans (s6.trans (s7.trans (s8.trans (s9.trans (s10.trans s11)))))
    exact q p7 p4 p6 ms ks H11 (nrA.trans (s2.nr.trans (nr3.trans (nr4.trans S.nr)))) (dc4.same S) ⟨e11, s11 _ _ (s10 _ _ (s9 _ _ e8)), s11 _ _ e10, plain_of hp hc (by omega) pm sm pk sk⟩
end
end Tf

/-! without -/
namespace Tf
open PySem PySem.Spec PyProof.Rows L2
section
variable {P : Program} {w : World} {K : PySem.W.Frag} {mg : Str → Option Value} {base : Heap}
theorem ok_out {f fL fH CI C : Addr} {fd fdL : FuncData} {k : Nat} (F : Fun K "without" "Language.without" sOut f fd) (L : LCls K C) (oH : Own K C "__contains__" fH) (gH : FnR P w K mg base CX0 1 fH (spHas K C)) (k1 : 1 ≤ k) (GL : FnOk P w K mg base (L2N.CX P w) k fL fdL ["marks", "kinds"] (spLin K C CI)) (bL : Binds K fdL ["marks", "kinds"] []) (gL : mg "language_in" = some (.ref fL)) (kL : PySem.W.keepIn K (.ref fL) = true) (mT : mg "tuple" = none) :
    FnR P w K mg base (L2N.CX P w) (k + 1) f (fun vs H Q E => ∃ ws rest, vs = ws ++ rest ∧ ws.length = ["self"].length ∧ rest.length ≤ sizeLine ∧ ∀ p, H p = Option.none → spOut K C CI (ws ++ [V.ref p]) (upd H p (.tup rest)) Q E) := by
  obtain ⟨oc, od, kV, doc, pm, an, cdv, ct, osl, rfl, lk, hcd⟩ := F.ex
  refine StX.fn_star (ps := ["self"]) (pv := "names") lk hcd scOut cxUpN (StX.bind_star1 (B := fun us => bindArgs _ ⟨us, []⟩) (fun a => rfl) (fun a r rs => rfl)) (fun A outer s H vs Q E hr h => ?_)
  obtain ⟨a, p, zs, ms, ks, rfl, hp, la, nm, nk, lm, lk', lz, hin, q⟩ := h
  have la0 := la
  obtain ⟨dx, fs, pm', pk', h1, h2, h3, h4, h5, h6⟩ := la0
  have hr1 : Room 1 (A.deeper (envOfC "Language.without" (defScope sOut) s.heap.objs.size f cdv)) := hr.mono k1
  refine ⟨_, pss_cons (ps_for (passes_of rfl) rfl (pi_tup (pv 1)) (pg_name (i := 2) scOut.nd rfl (Or.inl rfl)) (pss_one (ps_if (pt_cmpR (op_notInO oH gH hr1 pass0) (pv 2) (pv 0) (by rfl)) (pss_one ps_off) pss_nil)))
    (pss_cons (ps_set (i := 3) scOut.nd rfl (.inl rfl) (pe_callTy call_tuple_of (by rfl) mT (by decide +kernel) (pa_cons (pe_lc (own := [("mark", 4)]) (g := gName 4) (tt := tTest (tOp (rIn K true) (tVar 4) (tVar 1))) (te := tVar 4) (by rfl) scOut.nd (pi_tup (pe_fld (pv 0) (by rfl))) (blkOk_by (own := [("mark", 4)]) (N := ["self", "names", "name", "marks", "mark", "kind"]) (sc := defScope sOut) (by decide +kernel)) (fun _ _ _ _ _ => pg_name (i := 4) scOut.nd rfl (Or.inl rfl)) (fun _ _ _ _ _ => pts_one (pt_cmpR op_notIn_seq (pv 4) (pv 1) (by rfl))) (fun _ _ _ _ _ => pv 4)) pa_nil)))
    (pss_one (ps_ret (pe_call GL hr (by rfl) gL kL bL .nil (L2N.passes_call (L2N.takes_of rfl rfl rfl rfl) (fun _ _ _ _ h => h)) (pa_cons (pv 3) (pa_cons (pe_callTy call_tuple_of (by rfl) mT (by decide +kernel) (pa_cons (pe_lc (own := [("kind", 5)]) (g := gName 5) (tt := tTest (tOp (rIn K true) (tVar 5) (tVar 1))) (te := tVar 5) (by rfl) scOut.nd (pi_tup (pe_fld (pv 0) (by rfl))) (blkOk_by (own := [("kind", 5)]) (N := ["self", "names", "name", "marks", "mark", "kind"]) (sc := defScope sOut) (by decide +kernel)) (fun _ _ _ _ _ => pg_name (i := 5) scOut.nd rfl (Or.inl rfl)) (fun _ _ _ _ _ => pts_one (pt_cmpR op_notIn_seq (pv 5) (pv 1) (by rfl))) (fun _ _ _ _ _ => pv 5)) pa_nil)) pa_nil)))))), ?_⟩
  refine ⟨.ref p, rfl, p, rfl, ⟨_, hp⟩, for_tup (xs := zs.map V.str) (fun i σ H' => H' = H ∧ ∃ o : Option V, σ = [some (.ref a), some (.ref p), o, none, none, none]) ⟨rfl, none, rfl⟩ (fun i σ H' _ h => by obtain ⟨rfl, _⟩ := h; exact hp) ?_ ?_⟩
  · rintro i x σ H' hx ⟨rfl, o, rfl⟩
    rw [List.getElem?_map] at hx
    cases hz : zs[i]? with
    | none => rw [hz] at hx; cases hx
    | some z =>
      rw [hz] at hx
      cases (Option.some.inj hx : V.str z = x)
      have mz : z ∈ zs := List.mem_of_getElem? hz
      have e : (hasB (.str z) ms || hasB (.str z) ks) = true := by
        rcases hin z mz with h | h
        · rw [show hasB (.str z) ms = true from decide_eq_true h]
          rfl
        · rw [show hasB (.str z) ks = true from decide_eq_true h, Bool.or_true]
      exact ⟨_, rfl, .ref a, rfl, a, dx, fs, rfl, h1, a, .str z, ms, ks, rfl, la, .inl rfl, _, rfl, false, by rw [e]; rfl, iteF ⟨rfl, _, rfl⟩⟩
  · rintro σ H' ⟨rfl, o, rfl⟩
    refine ⟨.ref a, rfl, a, C, dx, fs, .ref pm', rfl, h1, L.cl, L.nm, h2, pm', rfl, ⟨_, tup_of h4⟩, fun D nD => lc_on (h := V.str) (xs := ms) (by have := walk_tup (K := K) (a := pm') (xs := ms.map V.str); rw [List.length_map] at this; exact this) rfl (fun z => !inV (.str z) (zs.map V.str)) V.str nD (fun H5 s5 => tup_of (s5 _ _ h4)) (by omega)
      (fun z hz H5 s5 Q' q' => ⟨_, rfl, .ref p, rfl, p, _, rfl, .inr (s5.tup hp), rfl, flat_strs _, _, rfl, q' H5 (Same.refl H5)⟩) (fun z hz _ H5 s5 Q' q' => ⟨_, rfl, q' H5 (Same.refl H5)⟩) fun H3 s3 e3 => ?_⟩
    rw [out_fun] at e3
    refine ⟨D, _, rfl, .inl ⟨lst_of e3, fun p4 n4 => ?_⟩⟩
    have e4 : (upd H3 p4 (.tup ((notIn ms zs).map V.str))) p4 = some (.tup ((notIn ms zs).map V.str)) := upd_same
    have s4 : Same H' (upd H3 p4 (.tup ((notIn ms zs).map V.str))) := s3.new n4
    refine ⟨.ref p4, rfl, .ref a, rfl, a, C, dx, fs, .ref pk', rfl, s4 _ _ h1, L.cl, L.nk, h3, pk', rfl, ⟨_, tup_of (s4 _ _ h5)⟩, fun D5 nD5 => lc_on (h := V.str) (xs := ks) (by have := walk_tup (K := K) (a := pk') (xs := ks.map V.str); rw [List.length_map] at this; exact this) rfl (fun z => !inV (.str z) (zs.map V.str)) V.str nD5 (fun H5 s5 => tup_of (s5 _ _ (s4 _ _ h5))) (by omega)
      (fun z hz H5 s5 Q' q' => ⟨_, rfl, .ref p, rfl, p, _, rfl, .inr (s5.tup (s4.tup hp)), rfl, flat_strs _, _, rfl, q' H5 (Same.refl H5)⟩) (fun z hz _ H5 s5 Q' q' => ⟨_, rfl, q' H5 (Same.refl H5)⟩) fun H6 s6 e6 => ?_⟩
    rw [out_fun] at e6
    refine ⟨D5, _, rfl, .inl ⟨lst_of e6, fun p7 n7 => ?_⟩⟩
    have e7 : (upd H6 p7 (.tup ((notIn ks zs).map V.str))) p7 = some (.tup ((notIn ks zs).map V.str)) := upd_same
    have s7 : Same (upd H3 p4 (.tup ((notIn ms zs).map V.str))) (upd H6 p7 (.tup ((notIn ks zs).map V.str))) := s6.new n7
    have nA : Nms (notIn ms zs) := fun z hz => nm z (List.mem_filter.mp hz).1
    have nB : Nms (notIn ks zs) := fun z hz => nk z (List.mem_filter.mp hz).1
    have lA : (notIn ms zs).length ≤ ms.length := List.length_filter_le _ _
    have lB : (notIn ks zs).length ≤ ks.length := List.length_filter_le _ _
    exact ⟨p4, _, .ref p7, rfl, tup_of (s7 _ _ e4), (q.same (s4.trans s7)).makes (tup_of e7) nA nB (by omega) (by omega)⟩
end
end Tf

/-! is_within -/
namespace Tf
open PySem PySem.Spec PyProof.Rows L2
abbrev sWi : Stmt := inClass sLang 7
theorem scWi : FnScope ["self", "value", "mark", "kind"] ["self", "value"] (defScope sWi) := ⟨rfl, rfl, rfl, by decide +kernel, rfl, by decide +kernel, by decide +kernel⟩
def spWi (K : PySem.W.Frag) (C : Addr) : Sp := fun vs H Q _ => ∃ (a : Addr) (y : V) (ms ks : List Str), vs = [.ref a, y] ∧ LangAt C H a ms ks ∧ ms.length ≤ 20 ∧ ks.length ≤ 20 ∧
  ((NoLang K C H y ∧ Q (.bl false) H) ∨ ∃ (b : Addr) (ms' ks' : List Str), y = .ref b ∧ LangAt C H b ms' ks' ∧ ∀ H', Same H H' → Q (.bl ((ms.all fun z => decide (z ∈ ms')) && (ks.all fun z => decide (z ∈ ks')))) H')
section
variable {P : Program} {w : World} {K : PySem.W.Frag} {mg : Str → Option Value} {base : Heap}
theorem ok_wi {f C : Addr} {fd : FuncData} {k : Nat} (F : Fun K "is_within" "Language.is_within" sWi f fd) (L : LCls K C) (I : LIs K C) (gC : mg "Language" = some (.ref C)) (mI : mg "isinstance" = none) (mA : mg "all" = none) : FnOk P w K mg base CX0 (k + 1) f fd ["self", "value"] (spWi K C) := by
  refine F.ok scWi (fun vs H Q E h => ?_) (fun cdv A outer s H vs Q E hr h => ?_)
  · obtain ⟨a, y, ms, ks, rfl, _⟩ := h
    rfl
  · obtain ⟨a, y, ms, ks, rfl, ⟨dx, fs, pm, pk, h1, h2, h3, h4, h5, h6⟩, lm, lk, h⟩ := h
    refine ⟨_, pss_cons (ps_if (pt_not (pt_val (pe_callB call_isi (by rfl) mI (by decide +kernel) (pa_cons (pv 1) (pa_cons (pe_glob (v := .ref C) rfl gC rfl) pa_nil))))) (pss_one (ps_ret pe_bl)) pss_nil)
      (pss_cons (ps_if (pt_not (pt_val (pe_callB (cr_all rfl) (by rfl) mA (by decide +kernel) (pa_cons (pe_lc (own := [("mark", 2)]) (g := gName 2) (tt := tYes) (te := tOp (rIn K false) (tVar 2) (tFld K (tVar 1) "own_marks")) (by rfl) scWi.nd (pi_tup (pe_fld (pv 0) (by rfl))) (blkOk_by (own := [("mark", 2)]) (N := ["self", "value", "mark", "kind"]) (sc := defScope sWi) (by decide +kernel)) (fun _ _ _ _ _ => pg_name (i := 2) scWi.nd rfl (Or.inl rfl)) (fun _ _ _ _ _ => pts_nil) (fun _ _ _ _ _ => pe_cmpR op_in_seq (pv 2) (pe_fld (pv 1) (by rfl)) (by rfl))) pa_nil)))) (pss_one (ps_ret pe_bl)) pss_nil)
      (pss_one (ps_ret (pe_callB (cr_all rfl) (by rfl) mA (by decide +kernel) (pa_cons (pe_lc (own := [("kind", 3)]) (g := gName 3) (tt := tYes) (te := tOp (rIn K false) (tVar 3) (tFld K (tVar 1) "own_kinds")) (by rfl) scWi.nd (pi_tup (pe_fld (pv 0) (by rfl))) (blkOk_by (own := [("kind", 3)]) (N := ["self", "value", "mark", "kind"]) (sc := defScope sWi) (by decide +kernel)) (fun _ _ _ _ _ => pg_name (i := 3) scWi.nd rfl (Or.inl rfl)) (fun _ _ _ _ _ => pts_nil) (fun _ _ _ _ _ => pe_cmpR op_in_seq (pv 3) (pe_fld (pv 1) (by rfl)) (by rfl))) pa_nil))))), ?_⟩
    rcases h with ⟨⟨t, ht, kt⟩, q⟩ | ⟨b, ms', ks', rfl, ⟨dx', fs', pm', pk', g1, g2, g3, g4, g5, g6⟩, q⟩
    · exact ⟨y, rfl, y, .ref C, .type t, .ref C, false, rfl, .own C, ht, kt, false, rfl, iteT q⟩
    · refine ⟨.ref b, rfl, .ref b, .ref C, .ref C, .ref C, true, rfl, .own C, .base (.ins g1 L.cl I.ha I.hn I.ht I.hm), I.me, true, rfl, iteF ?_⟩
      refine ⟨.ref a, rfl, a, C, dx, fs, .ref pm, rfl, h1, L.cl, L.nm, h2, pm, rfl, ⟨_, tup_of h4⟩, fun D nD => lc_map (h := V.str) (xs := ms) (by have := walk_tup (K := K) (a := pm) (xs := ms.map V.str); rw [List.length_map] at this; exact this) rfl (fun z => .bl (inV (.str z) (ms'.map V.str))) nD (fun H5 s5 => tup_of (s5 _ _ h4)) (by omega)
        (fun z hz H5 s5 Q' q' => ⟨_, rfl, .ref b, rfl, b, C, dx', fs', .ref pm', rfl, s5 _ _ g1, L.cl, L.nm, g2, pm', _, rfl, .inr (tup_of (s5 _ _ g4)), rfl, flat_strs _, q' H5 (Same.refl H5)⟩) fun H3 s3 e3 => ?_⟩
      refine ⟨D, ms.map fun z => inV (.str z) (ms'.map V.str), rfl, lst_of (by rw [e3, List.map_map]; rfl), ?_⟩
      rw [in_fun, List.all_map]
      have eM : (ms.all (id ∘ fun z => decide (z ∈ ms'))) = ms.all fun z => decide (z ∈ ms') := rfl
      rw [eM]
      cases hM : ms.all fun z => decide (z ∈ ms') with
      | false =>
        rw [hM] at q
        exact ⟨false, rfl, iteT (q H3 s3)⟩
      | true =>
        rw [hM] at q
        refine ⟨true, rfl, iteF ?_⟩
        refine ⟨.ref a, rfl, a, C, dx, fs, .ref pk, rfl, s3 _ _ h1, L.cl, L.nk, h3, pk, rfl, ⟨_, tup_of (s3 _ _ h5)⟩, fun D5 nD5 => lc_map (h := V.str) (xs := ks) (by have := walk_tup (K := K) (a := pk) (xs := ks.map V.str); rw [List.length_map] at this; exact this) rfl (fun z => .bl (inV (.str z) (ks'.map V.str))) nD5 (fun H5 s5 => tup_of (s5 _ _ (s3 _ _ h5))) (by omega)
          (fun z hz H5 s5 Q' q' => ⟨_, rfl, .ref b, rfl, b, C, dx', fs', .ref pk', rfl, s5 _ _ (s3 _ _ g1), L.cl, L.nk, g3, pk', _, rfl, .inr (tup_of (s5 _ _ (s3 _ _ g5))), rfl, flat_strs _, q' H5 (Same.refl H5)⟩) fun H6 s6 e6 => ?_⟩
        refine ⟨D5, ks.map fun z => inV (.str z) (ks'.map V.str), rfl, lst_of (by rw [e6, List.map_map]; rfl), ?_⟩
        rw [in_fun, List.all_map]
        exact q H6 (s3.trans s6)
end
end Tf

/-! k02: _law_pair_right -/
namespace Tf
open PySem PySem.Spec PyProof.Rows L2 LamX LamN TfG
/-- the addresses of the class Language and its methods -/
structure Ad where
  C : Addr
  CI : Addr
  CO : Addr
  fN : Addr
  fO : Addr
  pO : Addr
  fWm : Addr
  fWk : Addr
  fOu : Addr
  fWi : Addr
  fOr : Addr
  fAn : Addr
  fMk : Addr
  pM : Addr
  fKi : Addr
  pK : Addr
  fE : Addr
  fL : Addr
  mc : Value
  fdO : FuncData
  fdMk : FuncData
  fdKi : FuncData
  fdWi : FuncData
  fdE : FuncData
def stSp (sp : Sp) : Sp := fun vs H Q E => ∃ ws rest, vs = ws ++ rest ∧ ws.length = ["self"].length ∧ rest.length ≤ sizeLine ∧ ∀ p, H p = Option.none → sp (ws ++ [V.ref p]) (upd H p (.tup rest)) Q E
/-- the class Language and its methods -/
structure Lg (P : Program) (w : World) (K : PySem.W.Frag) (mg : Str → Option Value) (base : Heap) (k kI : Nat) (D : Ad) : Prop where
  Mm : Mk K D.C D.fN
  GI : FnA P w K mg base (L2N.CX P w) kI D.fN ["kinds"] (spInit K D.C D.CI)
  hI : kI + 1 ≤ k
  gLa : mg "Language" = some (.ref D.C)
  L : LCls K D.C
  tn : ∀ t ∈ ["NoneType", "int", "str", "list", "tuple"], PySem.W.kitOne K (.type t) (.ref D.C) = some false
  nC : PySem.W.notFirst K D.C (.ref D.C) = true
  GO : FnOk P w K mg base (L2N.CX P w) k D.fO D.fdO ["cls", "marks", "kinds"] (spOf K D.C D.CI)
  bO : Binds K D.fdO ["cls", "marks", "kinds"] []
  cr : ClX.CRead K D.C D.mc
  cm : ClX.CMet K D.C D.mc "of" D.pO D.fO
  mWm : Meth K D.C "with_marks" D.fWm
  gWm : FnR P w K mg base (L2N.CX P w) k D.fWm (stSp (spWm K D.C D.CI))
  mWk : Meth K D.C "with_kinds" D.fWk
  gWk : FnR P w K mg base (L2N.CX P w) k D.fWk (stSp (spWk K D.C D.CI))
  mOu : Meth K D.C "without" D.fOu
  gOu : FnR P w K mg base (L2N.CX P w) k D.fOu (stSp (spOut K D.C D.CI))
  mWi : Meth K D.C "is_within" D.fWi
  GWi : FnOk P w K mg base CX0 1 D.fWi D.fdWi ["self", "value"] (spWi K D.C)
  bWi : Binds K D.fdWi ["self", "value"] []
  oS : PySem.W.findIn K (.ref D.C) (PySem.dunder Operator.BitOr.info.2) = some (some (.ref D.fOr))
  oF : PySem.W.isFn K (.ref D.fOr) = true
  gOr : FnR P w K mg base (L2N.CX P w) k D.fOr (spTwo K D.C D.CI D.CO (· ++ ·))
  aS : PySem.W.findIn K (.ref D.C) (PySem.dunder Operator.BitAnd.info.2) = some (some (.ref D.fAn))
  aF : PySem.W.isFn K (.ref D.fAn) = true
  gAn : FnR P w K mg base (L2N.CX P w) k D.fAn (spTwo K D.C D.CI D.CO inBoth)
  sf : PySem.W.selfFirst K D.C = true
  GMk : FnOk P w K mg base CX0 1 D.fMk D.fdMk ["self"] (spMarks D.C true)
  bMk : Binds K D.fdMk ["self"] []
  pMk : PropOf K D.C "marks" D.pM D.fMk
  GKi : FnOk P w K mg base CX0 1 D.fKi D.fdKi ["self"] (spMarks D.C false)
  bKi : Binds K D.fdKi ["self"] []
  pKi : PropOf K D.C "kinds" D.pK D.fKi
  oE : Own K D.C "__eq__" D.fE
  GE : FnOk P w K mg base CX0 1 D.fE D.fdE ["self", "other"] (spEq K D.C)
  bE : Binds K D.fdE ["self", "other"] []
  gE : FnR P w K mg base CX0 1 D.fE (spEq K D.C)
  ne : PySem.W.findIn K (.ref D.C) "__ne__" = some (some (.builtin "object.__ne__"))
  mo : PySem.W.mroIn K D.C (.type "object") = some true
  oL : Own K D.C "__len__" D.fL
  gL : FnR P w K mg base CX0 1 D.fL (spLen D.C)
/-- what the call of _law_is_right asks -/
structure IsrC (P : Program) (w : World) (K : PySem.W.Frag) (mg : Str → Option Value) (base : Heap) (k : Nat) (C CI g : Addr) (fd : FuncData) : Prop where
  F : Fun K "_law_is_right" "_law_is_right" sIsr g fd
  b : Binds K fd ["_law_call", "_law_marks", "_law_sorts"] []
  gF : mg "_law_is_right" = some (.ref g)
  R : ∃ (k0 : Nat) (fCa fMk fKi pM pK : Addr) (fdCa fdMk fdKi : FuncData), k0 ≤ k + 1 ∧ 2 ≤ k0 ∧ IsrT P w K mg base k0 C CI fCa fMk fKi pM pK fdCa fdMk fdKi
theorem pe_isr {X : Cx} {T : List (Addr × Str)} {C CI g c P : Addr} {fd : FuncData} {k : Nat} {ps : Arguments} {body : Expr} {lsc sc : Scope} {t : XK → TE} {t2 : TA} {es : List Expr} {p lpos pos : Pos} (IR : IsrC X.prog X.w X.K X.mg X.base k C CI g fd) (TB : TabB X.base X.mg c P) (hcode : X.env.code = .ref c)
    (hmT : (P, X.env.qual ++ "<lambda>") ∈ T) (hu : ∀ p ∈ T, p.1 = P → p.2 = X.env.qual ++ "<lambda>") (hr : Room (k + 2) X.A)
    (hbody : ∀ (A : Around) (outer : List Env) (s : Shared) (H : Hp) (E : XK) (f c : Addr), Room k (A.deeper (lamEnv X lsc s.heap.objs.size f c)) → PE (cxB X A outer s H E lsc f c) body (t E)) (ha : PA X es t2)
    (L : lamSB sc lsc = true := by decide +kernel) (hsc : X.env.scope = sc := by rfl) (hg : Gl X "_law_is_right" := by rfl)
    (hdef : defaultsOf ps X.env = ([], []) := by rfl) (bind : ∀ (q : Str) (cl : List (Str × Addr)) (pm cv ctv : Value), bindArgs (PySem.W.kla_fn "<lambda>" q ps body lsc cl pm cv ctv) ⟨[], []⟩ = pure [] := by intros; rfl)
    (hs : X.stack = X.env :: X.outer := by rfl) (hfm : X.env.frame = some X.env.locals := by rfl)
    (hse : starEach (.Lambda ps body lsc lpos :: es) X.env = (false, eval (.Lambda ps body lsc lpos) X.env) :: starEach es X.env := by rfl) (hpl : (backTo pos (starEach es X.env)).any (·.1) = false := by rfl) :
    PE X (.Call (.Name "_law_is_right" p) (.Lambda ps body lsc lpos :: es) [] pos) (tGive T (TIsr X.K C CI) (X.env.qual ++ "<lambda>") 2 t t2) := by
  subst hsc
  obtain ⟨k0, fCa, fMk, fKi, pM, pK, fdCa, fdMk, fdKi, h1, h2, R⟩ := IR.R
  exact pe_give (as := ["_law_marks", "_law_sorts"]) (N := nIsr) IR.F hg IR.gF IR.b scIsr rfl (.inl rfl) (fun cd => isr_gives R h2 (hr.mono (by omega)) _ cd) TB hcode hmT hu hr (lamS_by L) hbody ha hdef bind hs hfm hse hpl
theorem solid_tup (xs : List V) : Solid (.tup xs) := ⟨fun ps z => (by cases z), fun x y z e => (by cases e)⟩
theorem solid_ins (C d : Addr) (fs : List (Str × V)) : Solid (.ins C d fs) := ⟨fun ps z => (by cases z), fun x y z e => (by cases e)⟩
theorem LangAt.kept {C : Addr} {H H' : Hp} {a : Addr} {ms ks : List Str} (h : LangAt C H a ms ks) (s : Kept H H') : LangAt C H' a ms ks := by
  obtain ⟨dx, fs, pm, pk, h1, h2, h3, h4, h5, h6⟩ := h
  exact ⟨dx, fs, pm, pk, s _ _ h1 (solid_ins _ _ _), h2, h3, s _ _ h4 (solid_tup _), s _ _ h5 (solid_tup _), h6⟩
theorem PlainAt.kept {H H' : Hp} {p pm pk : Addr} {ms ks : List Str} (h : PlainAt H p pm pk ms ks) (s : Kept H H') : PlainAt H' p pm pk ms ks := ⟨s _ _ h.at_ (solid_tup _), s _ _ h.am (solid_tup _), s _ _ h.ak (solid_tup _), h.pl⟩
theorem look_none {fs : List (Str × V)} {m : Str} : ∀ {ns : List Str}, fs.map (·.1) = ns → m ∉ ns → fs.lookup m = none := by
  induction fs with
  | nil => intro ns _ _; rfl
  | cons p fs ih =>
    intro ns e h
    obtain ⟨k, v⟩ := p
    subst e
    rw [List.map_cons, List.mem_cons, not_or] at h
    rw [List.lookup_cons, beq_eq_false_iff_ne.mpr h.1]
    exact ih rfl h.2
theorem Nms.app {a b : List Str} (ha : Nms a) (hb : Nms b) : Nms (a ++ b) := fun z hz => (List.mem_append.mp hz).elim (ha z) (hb z)
theorem inB_len {a b : List Str} : decide ((inBoth a b).length = a.length) = a.all fun z => decide (z ∈ b) := by
  unfold inBoth
  rw [Bool.eq_iff_iff, decide_eq_true_iff, List.length_filter_eq_length_iff, List.all_eq_true]
/-- a plain language, made -/
theorem made_plain {K : PySem.W.Frag} {C : Addr} {H : Hp} {p pm pk : Addr} {ms ks : List Str} {Q : V → Hp → Prop} {bad : Hp → Prop} (a : PlainAt H p pm pk ms ks) (h : ∀ (x : Addr) (H' : Hp), Same H H' → LangAt C H' x ms ks → Q (.ref x) H') : Made K C H (.ref pm) (.ref pk) Q bad := by
  have l := a.pl.lens
  refine made_names (tup_of a.am) (tup_of a.ak) a.pl.nm a.pl.nk (by omega) (by omega) (fun c => by rw [a.pl.ok] at c; cases c) fun _ x H' s _ la => h x H' s ?_
  rw [a.pl.cm, a.pl.ck] at la
  exact la
theorem shaped4 {a b c d : List Str} (ha : Nms a) (hb : Nms b) (hc : Nms c) (hd : Nms d) : SeqAt.shaped (.list [.tuple (dS a), .tuple (dS b), .tuple (dS c), .tuple (dS d)]) = true := by
  show (PyData.canLay0 (.list [.tuple (dS a), .tuple (dS b), .tuple (dS c), .tuple (dS d)]) && decide (PyData.depth (.list [.tuple (dS a), .tuple (dS b), .tuple (dS c), .tuple (dS d)]) ≤ 64)) = true
  rw [Bool.and_eq_true]
  refine ⟨by simp only [PyData.canLay0, PyData.canLayAll0, lay_strs ha, lay_strs hb, lay_strs hc, lay_strs hd, Bool.and_self], decide_eq_true ?_⟩
  simp only [PyData.depth, PyData.depthAll, depth_strs]
  decide
theorem eqv4 {a b c d : List Str} : PyData.eqv (.list [.tuple (dS a), .tuple (dS b), .tuple (dS c), .tuple (dS d)]) (.list [.tuple (dS a), .tuple (dS b), .tuple (dS c), .tuple (dS d)]) = true := by
  simp only [PyData.eqv, PyData.eqvAll, eqvAll_strs]
  simp
theorem len_dec {a b : List Str} : decide (V.int ((inBoth a b).length : Int) = V.int (a.length : Int)) = a.all fun z => decide (z ∈ b) := by
  rw [← inB_len]
  refine decide_eq_decide.mpr ⟨fun h => ?_, fun h => by rw [h]⟩
  injection h with h
  omega
theorem all_self (a : List Str) : (a.all fun z => decide (z ∈ a)) = true := List.all_eq_true.mpr fun z hz => decide_eq_true hz
theorem inB_nms {a b : List Str} (h : Nms a) : Nms (inBoth a b) := fun z hz => h z (List.mem_filter.mp hz).1
theorem inB_le (a b : List Str) : (inBoth a b).length ≤ a.length := List.length_filter_le _ _
abbrev sPair : Stmt := top 23
abbrev nPair : List Str := ["_law_one", "_law_other", "_law_marks", "_law_sorts", "_law_within", "_law_first", "_law_second", "_law_name", "_law_value"]
theorem scPair : FnScope nPair ["_law_one", "_law_other"] (defScope sPair) := ⟨rfl, rfl, rfl, by decide +kernel, rfl, by decide +kernel, by decide +kernel⟩
def spPair (T : List (Addr × Str)) : Sp := fun vs H Q _ => ∃ (p pm pk p' pm' pk' : Addr) (ms ks ms' ks' : List Str), vs = [.ref p, .ref p'] ∧ PlainAt H p pm pk ms ks ∧ PlainAt H p' pm' pk' ms' ks' ∧ Tabs T H ∧ ∀ H' : Hp, ExtN H H' → Tabs T H' → Q (.bl true) H'
section
variable {P : Program} {w : World} {K : PySem.W.Frag} {mg : Str → Option Value} {base : Heap}
theorem ok_pair {D : Ad} {T : List (Addr × Str)} {f g c PT : Addr} {fd fdI : FuncData} {k kI : Nat} (F : FunC K "_law_pair_right" "_law_pair_right" sPair f fd c) (G : Lg P w K mg base k kI D) (k1 : 1 ≤ k) (IR : IsrC P w K mg base k D.C D.CI g fdI) (TB : TabB base mg c PT) (hT : (PT, (("_law_pair_right" : Str) ++ ".<locals>.") ++ "<lambda>") ∈ T) (hU : ∀ p ∈ T, p.1 = PT → p.2 = (("_law_pair_right" : Str) ++ ".<locals>.") ++ "<lambda>")
    (mLe : mg "len" = none) (mT : mg "tuple" = none) (mRe : mg "repr" = none) : FnG P w K mg base CX0 (k + 3) f fd ["_law_one", "_law_other"] (spPair T) := by
  refine F.okG scPair (fun vs H Q E h => ?_) (fun A outer s H vs Q E hgu hr h => ?_)
  · obtain ⟨p, pm, pk, p', pm', pk', ms, ks, ms', ks', rfl, _⟩ := h
    rfl
  · obtain ⟨p, pm, pk, p', pm', pk', ms, ks, ms', ks', rfl, a1, a2, tb, q⟩ := h
    have hu : (A.deeper (envOfC "_law_pair_right" (defScope sPair) s.heap.objs.size f (.ref c))).units + 64 < cLine := by have := hr.un; omega
    have hr1 : Room 1 (A.deeper (envOfC "_law_pair_right" (defScope sPair) s.heap.objs.size f (.ref c))) := hr.mono (by omega)
    have hr2 : Room 2 (A.deeper (envOfC "_law_pair_right" (defScope sPair) s.heap.objs.size f (.ref c))) := hr.mono (by omega)
    have hrk : Room k (A.deeper (envOfC "_law_pair_right" (defScope sPair) s.heap.objs.size f (.ref c))) := hr.mono (by omega)
    have G0 := G
    refine ⟨_, (pss_cons (ps_asg (pe_tup (pa_cons (ClX.pe_cmeth (E := E0) (pe_glob (v := .ref D.C) rfl G.gLa rfl) G.cr G.cm (G.GO.raw G.bO .nil) hrk (L2N.passes_call L2N.takes0 (fun _ _ _ _ h => h)) (pa_cons (pe_ix ix_tup (pv 0) pe_int (fun _ _ => rfl)) (pa_cons (pe_ix ix_tup (pv 0) pe_int (fun _ _ => rfl)) pa_nil))) (pa_cons (ClX.pe_cmeth (E := E0) (pe_glob (v := .ref D.C) rfl G.gLa rfl) G.cr G.cm (G.GO.raw G.bO .nil) hrk (L2N.passes_call L2N.takes0 (fun _ _ _ _ h => h)) (pa_cons (pe_ix ix_tup (pv 1) pe_int (fun _ _ => rfl)) (pa_cons (pe_ix ix_tup (pv 1) pe_int (fun _ _ => rfl)) pa_nil))) pa_nil))) (pg_tup (by rfl) (pgs_cons (pg_name (i := 5) scPair.nd rfl (.inr rfl)) (pgs_cons (pg_name (i := 6) scPair.nd rfl (.inr rfl)) pgs_nil))))
      (pss_cons (ps_if (pt_not (pt_val (pe_isr (k := k) (sc := defScope sPair) IR TB rfl hT hU hr (fun A' outer' s' H' E' f' c' hr' => pe_op (show OpR _ (binaryOp .BitOr) (rBinO D.C (spTwo K D.C D.CI D.CO (· ++ ·)) E') from op_binO G.oS G.oF G.sf G.gOr hr' (L2N.passes_call (L2N.takes_of rfl rfl rfl rfl) (fun _ _ _ _ h => h))) (pv 5) (pv 6)) (pa_cons (pe_op op_catA (pe_ix ix_tup (pv 0) pe_int (fun _ _ => rfl)) (pe_ix ix_tup (pv 1) pe_int (fun _ _ => rfl))) (pa_cons (pe_op op_catA (pe_ix ix_tup (pv 0) pe_int (fun _ _ => rfl)) (pe_ix ix_tup (pv 1) pe_int (fun _ _ => rfl))) pa_nil))))) (pss_one (ps_ret pe_bl)) pss_nil)
      (pss_cons (ps_setLc (i := 2) (own := [("_law_name", 7)]) (g := gName 7) (tt := tTest (tOp (rIn K false) (tVar 7) (tOp (rIxT K) (tVar 1) (tC (.int 0))))) (te := tVar 7) (by rfl) scPair.nd rfl (by rfl) (by rfl) (pi_tup (pe_ix ix_tup (pv 0) pe_int (fun _ _ => rfl))) (blkOk_by (own := [("_law_name", 7)]) (N := nPair) (sc := defScope sPair) (by decide +kernel)) (fun _ _ _ _ _ => pg_name (i := 7) scPair.nd rfl (Or.inl rfl)) (fun _ _ _ _ _ => pts_one (pt_cmpR op_in_seq (pv 7) (pe_ix ix_tup (pv 1) pe_int (fun _ _ => rfl)) (by rfl))) (fun _ _ _ _ _ => pv 7))
      (pss_cons (ps_setLc (i := 3) (own := [("_law_name", 7)]) (g := gName 7) (tt := tTest (tOp (rIn K false) (tVar 7) (tOp (rIxT K) (tVar 1) (tC (.int 1))))) (te := tVar 7) (by rfl) scPair.nd rfl (by rfl) (by rfl) (pi_tup (pe_ix ix_tup (pv 0) pe_int (fun _ _ => rfl))) (blkOk_by (own := [("_law_name", 7)]) (N := nPair) (sc := defScope sPair) (by decide +kernel)) (fun _ _ _ _ _ => pg_name (i := 7) scPair.nd rfl (Or.inl rfl)) (fun _ _ _ _ _ => pts_one (pt_cmpR op_in_seq (pv 7) (pe_ix ix_tup (pv 1) pe_int (fun _ _ => rfl)) (by rfl))) (fun _ _ _ _ _ => pv 7))
      (pss_cons (ps_if (pt_not (pt_val (pe_isr (k := k) (sc := defScope sPair) IR TB rfl hT hU hr (fun A' outer' s' H' E' f' c' hr' => pe_op (show OpR _ (binaryOp .BitAnd) (rBinO D.C (spTwo K D.C D.CI D.CO inBoth) E') from op_binO G.aS G.aF G.sf G.gAn hr' (L2N.passes_call (L2N.takes_of rfl rfl rfl rfl) (fun _ _ _ _ h => h))) (pv 5) (pv 6)) (pa_cons (pe_callTy call_tuple_of (by rfl) mT (by decide +kernel) (pa_cons (pv 2) pa_nil)) (pa_cons (pe_callTy call_tuple_of (by rfl) mT (by decide +kernel) (pa_cons (pv 3) pa_nil)) pa_nil))))) (pss_one (ps_ret pe_bl)) pss_nil)
      (pss_cons (ps_mid (ps_set (i := 4) scPair.nd rfl (.inl rfl) (pe_and (pe_cmpR op_eq (pe_callB call_len_seq (by rfl) mLe PySem.boot_len (pa_cons (pv 2) pa_nil)) (pe_callB call_len_seq (by rfl) mLe PySem.boot_len (pa_cons (pe_ix ix_tup (pv 0) pe_int (fun _ _ => rfl)) pa_nil)) (nomark _)) (pe_one (pe_cmpR op_eq (pe_callB call_len_seq (by rfl) mLe PySem.boot_len (pa_cons (pv 3) pa_nil)) (pe_callB call_len_seq (by rfl) mLe PySem.boot_len (pa_cons (pe_ix ix_tup (pv 0) pe_int (fun _ _ => rfl)) pa_nil)) (nomark _))))))
      (pss_cons (ps_if (PW.pt (pw_or (pt_cmpR op_ne (pe_callB call_repr_bl (by rfl) mRe (by decide +kernel) (pa_cons (pe_meth (pv 5) G.L.cl G.mWi G.GWi hr1 G.bWi .nil pass0 (pa_cons (pv 6) pa_nil)) pa_nil)) (pe_callB call_repr_bl (by rfl) mRe (by decide +kernel) (pa_cons (pv 4) pa_nil)) (nomark _)) (pw_or1 (pt_cmpR op_notBl (pe_meth (pv 5) G.L.cl G.mWi G.GWi hr1 G.bWi .nil pass0 (pa_cons (pv 5) pa_nil)) pe_bl (nomark _))))) (pss_one (ps_ret pe_bl)) pss_nil)
      (pss_cons (ps_if (pt_cmpR (op_neD hu) (pe_lc (own := [("_law_value", 8)]) (g := gName 8) (tt := tYes) (te := tMeth D.C "is_within" (spWi K D.C) [] E0 (tVar 5) (tCons (tVar 8) tNil)) (by rfl) scPair.nd (pi_tup (pe_tup (pa_cons pe_non (pa_cons (pv 0) (pa_cons pe_str (pa_cons pe_int (pa_cons (pe_lst (pa_cons (pv 5) pa_nil)) pa_nil))))))) (blkOk_by (own := [("_law_value", 8)]) (N := nPair) (sc := defScope sPair) (by decide +kernel)) (fun _ _ _ _ _ => pg_name (i := 8) scPair.nd rfl (Or.inl rfl)) (fun _ _ _ _ _ => pts_nil) (fun _ _ _ _ _ => (pe_meth (pv 5) G.L.cl G.mWi G.GWi hr1 G.bWi .nil pass0 (pa_cons (pv 8) pa_nil)))) (pe_op op_rep (pe_lst (pa_cons pe_bl pa_nil)) pe_int) (nomark _)) (pss_one (ps_ret pe_bl)) pss_nil)
      (pss_one (ps_ret (pe_cmpR (op_eqD hu) (pe_lst (pa_cons (pe_prop (pv 5) G.L.cl G.pMk G.GMk hr2 G.bMk .nil pass0 (by rfl)) (pa_cons (pe_prop (pv 5) G.L.cl G.pKi G.GKi hr2 G.bKi .nil pass0 (by rfl)) (pa_cons (pe_prop (pv 6) G.L.cl G.pMk G.GMk hr2 G.bMk .nil pass0 (by rfl)) (pa_cons (pe_prop (pv 6) G.L.cl G.pKi G.GKi hr2 G.bKi .nil pass0 (by rfl)) pa_nil))))) (pe_lst (pa_cons (pe_ix ix_tup (pv 0) pe_int (fun _ _ => rfl)) (pa_cons (pe_ix ix_tup (pv 0) pe_int (fun _ _ => rfl)) (pa_cons (pe_ix ix_tup (pv 1) pe_int (fun _ _ => rfl)) (pa_cons (pe_ix ix_tup (pv 1) pe_int (fun _ _ => rfl)) pa_nil))))) (nomark _)))))))))))), ?_⟩
    have l1 := a1.pl.lens
    have l2 := a2.pl.lens
    -- the languages
    refine ⟨rfl, .ref p, rfl, p, _, 0, .ref pm, rfl, rfl, tup_of a1.at_, rfl, .ref p, rfl, p, _, 1, .ref pk, rfl, rfl, tup_of a1.at_, rfl, _, _, rfl, made_plain a1 fun x H1 s1 lx => ?_⟩
    have b2 := a2.kept s1.kept
    refine ⟨rfl, .ref p', rfl, p', _, 0, .ref pm', rfl, rfl, tup_of b2.at_, rfl, .ref p', rfl, p', _, 1, .ref pk', rfl, rfl, tup_of b2.at_, rfl, _, _, rfl, made_plain b2 fun y H2 s2 ly => ?_⟩
    refine ⟨by show 2 ≤ sizeLine; decide, fun tp n3 => ⟨tp, _, rfl, tup_of upd_same, rfl, _, _, rfl, _, _, rfl, rfl, ?_⟩⟩
    have e3 : (upd H2 tp (.tup [.ref x, .ref y])) tp = some (.tup [.ref x, .ref y]) := upd_same
    have s3 : Same H2 (upd H2 tp (.tup [.ref x, .ref y])) := same_new n3
    generalize upd H2 tp (.tup [.ref x, .ref y]) = H3 at *
    have x0 : ExtN H H3 := ExtN.of (s1.trans (s2.trans s3))
    have c1 := a1.kept x0.kept
    have c2 := a2.kept x0.kept
    have lx3 := lx.same (s2.trans s3)
    have ly3 := ly.same s3
    have tb3 : Tabs T H3 := tb.same (s1.trans (s2.trans s3))
    clear lx ly b2 a1 a2 s1 s2 s3 e3 n3 tb
    -- joined
    refine ⟨tb3, fun G c' ex tg hc => ?_⟩
    have kG := ex.kept
    have g1 := c1.kept kG
    have g2 := c2.kept kG
    refine ⟨.ref p, rfl, p, _, 0, .ref pm, rfl, rfl, tup_of g1.at_, rfl, .ref p', rfl, p', _, 0, .ref pm', rfl, rfl, tup_of g2.at_, rfl, cat_any (tup_of g1.am) (tup_of g2.am) (by rw [List.length_map, List.length_map]; omega) fun u1 G1 s1 e1 => ?_⟩
    have h1 := g1.kept s1.kept
    have h2 := g2.kept s1.kept
    refine ⟨.ref p, rfl, p, _, 1, .ref pk, rfl, rfl, tup_of h1.at_, rfl, .ref p', rfl, p', _, 1, .ref pk', rfl, rfl, tup_of h2.at_, rfl, cat_any (tup_of h1.ak) (tup_of h2.ak) (by rw [List.length_map, List.length_map]; omega) fun u2 G2 s2 e2 => ?_⟩
    rw [← List.map_append] at e1 e2
    have S2 := s1.trans s2
    refine ⟨rfl, S2 _ _ hc, u1, u2, ms ++ ms', ks ++ ks', rfl, s2.tup e1, e2, c1.pl.nm.app c2.pl.nm, c1.pl.nk.app c2.pl.nk, by rw [List.length_append]; omega, by rw [List.length_append]; omega, fun H' s' => ⟨true, rfl, iteF ?_⟩, fun Ec R he hR => ?_⟩
    rotate_left
    · have kk := kG.trans S2.kept
      have lx5 := lx3.kept kk
      have ly5 := ly3.kept kk
      obtain ⟨dx, fs, _, _, gx, -, -, -, -, -⟩ := id lx5
      obtain ⟨dy, fy, _, _, gy, -, -, -, -, -⟩ := id ly5
      exact ⟨.ref x, rfl, .ref y, rfl, x, dx, fs, y, dy, fy, rfl, rfl, gx, gy, x, .ref y, _, _, rfl, lx5, c1.pl.nm, c1.pl.nk, by omega, by omega, .inr ⟨y, _, _, rfl, ly5, c2.pl.nm, c2.pl.nk, by omega, by omega, fun c z H'' s'' _ la => ⟨z, rfl, hR z H'' c s'' la⟩, fun c H'' s'' => he none H'' c s''⟩⟩
    have x1 : ExtN H H' := x0.trans (ex.trans (ExtN.of (S2.trans s')))
    have k1 : Kept H3 H' := kG.trans (S2.trans s').kept
    have d1 := c1.kept k1
    have d2 := c2.kept k1
    have lx4 := lx3.kept k1
    have ly4 := ly3.kept k1
    have tb4 : Tabs T H' := tg.same (S2.trans s')
    clear tb3 ex tg hc kG g1 g2 s1 e1 h1 h2 s2 e2 S2 s' x0 k1 lx3 ly3 c1 c2
    clear u1 u2 G G1 G2 c'
    generalize H' = H4 at *
    -- cut
    refine ⟨.ref p, rfl, p, _, 0, .ref pm, rfl, rfl, tup_of d1.at_, rfl, pm, rfl, ⟨_, tup_of d1.am⟩, fun D1 nD1 => lc_on (h := V.str) (xs := ms) (by have := walk_tup (K := K) (a := pm) (xs := ms.map V.str); rw [List.length_map] at this; exact this) rfl (fun z => inV (.str z) (ms'.map V.str)) V.str nD1 (fun H5 s5 => tup_of (s5 _ _ d1.am)) (by omega)
      (fun z hz H5 s5 Q' q' => ⟨_, rfl, .ref p', rfl, p', _, 0, .ref pm', rfl, rfl, tup_of (s5 _ _ d2.at_), rfl, pm', _, rfl, .inr (tup_of (s5 _ _ d2.am)), rfl, flat_strs _, _, rfl, q' H5 (Same.refl H5)⟩) (fun z hz _ H5 s5 Q' q' => ⟨_, rfl, q' H5 (Same.refl H5)⟩) fun H5 s5 e5 => ?_⟩
    rw [in_fun] at e5
    have f1 := d1.kept s5.kept
    have f2 := d2.kept s5.kept
    refine ⟨.ref p, rfl, p, _, 1, .ref pk, rfl, rfl, tup_of f1.at_, rfl, pk, rfl, ⟨_, tup_of f1.ak⟩, fun D2 nD2 => lc_on (h := V.str) (xs := ks) (by have := walk_tup (K := K) (a := pk) (xs := ks.map V.str); rw [List.length_map] at this; exact this) rfl (fun z => inV (.str z) (ks'.map V.str)) V.str nD2 (fun H6 s6 => tup_of (s6 _ _ f1.ak)) (by omega)
      (fun z hz H6 s6 Q' q' => ⟨_, rfl, .ref p', rfl, p', _, 1, .ref pk', rfl, rfl, tup_of (s6 _ _ f2.at_), rfl, pk', _, rfl, .inr (tup_of (s6 _ _ f2.ak)), rfl, flat_strs _, _, rfl, q' H6 (Same.refl H6)⟩) (fun z hz _ H6 s6 Q' q' => ⟨_, rfl, q' H6 (Same.refl H6)⟩) fun H6 s6 e6 => ?_⟩
    rw [in_fun] at e6
    have e5' : H6 D1 = some (.lst ((inBoth ms ms').map V.str)) := s6 _ _ e5
    have e6' : H6 D2 = some (.lst ((inBoth ks ks').map V.str)) := e6
    have S6 := s5.trans s6
    have h1 := d1.kept S6.kept
    have h2 := d2.kept S6.kept
    have lx6 := lx4.same S6
    have ly6 := ly4.same S6
    have tb6 : Tabs T H6 := tb4.same S6
    have x6 : ExtN H H6 := x1.trans (ExtN.of S6)
    have il1 := inB_le ms ms'
    have il2 := inB_le ks ks'
    clear e5 e6 s5 s6 S6 f1 f2 d1 d2 lx4 ly4 tb4 x1 nD1 nD2
    refine ⟨tb6, fun G c' ex tg hc => ?_⟩
    have kG := ex.kept
    refine ⟨.ref D1, rfl, D1, _, rfl, .inl ⟨lst_of (ex _ _ e5' fun ps z => by cases z), fun q1 m1 => ?_⟩⟩
    have e1 : (upd G q1 (.tup ((inBoth ms ms').map V.str))) q1 = some (.tup ((inBoth ms ms').map V.str)) := upd_same
    have s1 : Same G (upd G q1 (.tup ((inBoth ms ms').map V.str))) := same_new m1
    generalize upd G q1 (.tup ((inBoth ms ms').map V.str)) = G1 at *
    refine ⟨.ref D2, rfl, D2, _, rfl, .inl ⟨lst_of (s1 _ _ (ex _ _ e6' fun ps z => by cases z)), fun q2 m2 => ?_⟩⟩
    have e2 : (upd G1 q2 (.tup ((inBoth ks ks').map V.str))) q2 = some (.tup ((inBoth ks ks').map V.str)) := upd_same
    have s2 : Same G1 (upd G1 q2 (.tup ((inBoth ks ks').map V.str))) := same_new m2
    generalize upd G1 q2 (.tup ((inBoth ks ks').map V.str)) = G2 at *
    have S2 := s1.trans s2
    refine ⟨rfl, S2 _ _ hc, q1, q2, inBoth ms ms', inBoth ks ks', rfl, tup_of (s2 _ _ e1), tup_of e2, inB_nms h1.pl.nm, inB_nms h1.pl.nk, by omega, by omega, fun H' s' => ⟨true, rfl, iteF ?_⟩, fun Ec R he hR => ?_⟩
    rotate_left
    · have kk := kG.trans S2.kept
      have lx5 := lx6.kept kk
      have ly5 := ly6.kept kk
      obtain ⟨dx, fs, _, _, gx, -, -, -, -, -⟩ := id lx5
      obtain ⟨dy, fy, _, _, gy, -, -, -, -, -⟩ := id ly5
      exact ⟨.ref x, rfl, .ref y, rfl, x, dx, fs, y, dy, fy, rfl, rfl, gx, gy, x, .ref y, _, _, rfl, lx5, h1.pl.nm, h1.pl.nk, by omega, by omega, .inr ⟨y, _, _, rfl, ly5, h2.pl.nm, h2.pl.nk, by omega, by omega, fun c z H'' s'' _ la => ⟨z, rfl, hR z H'' c s'' la⟩, fun c H'' s'' => he none H'' c s''⟩⟩
    have k7 : Kept H6 H' := kG.trans (S2.trans s').kept
    have x7 : ExtN H6 H' := ex.trans (ExtN.of (S2.trans s'))
    have i5 := x7 _ _ e5' fun ps z => by cases z
    have i6 := x7 _ _ e6' fun ps z => by cases z
    have j1 := h1.kept k7
    have j2 := h2.kept k7
    have lx7 := lx6.kept k7
    have ly7 := ly6.kept k7
    have tb7 : Tabs T H' := tg.same (S2.trans s')
    have xH : ExtN H H' := x6.trans x7
    clear tb6 x6 x7 k7 h1 h2 lx6 ly6 e5' e6' ex tg hc kG m1 s1 e1 m2 s2 e2 S2 s'
    clear q1 q2 G G1 G2 c' H6
    generalize H' = H7 at *
    -- within
    refine ⟨fun σ H9 => σ = [some (.ref p), some (.ref p'), some (.ref D1), some (.ref D2), some (.bl ((ms.all fun z => decide (z ∈ ms')) && (ks.all fun z => decide (z ∈ ks')))), some (.ref x), some (.ref y), none, none] ∧ H9 = H7, ?_, ?_⟩
    · refine ⟨.ref D1, rfl, D1, _, rfl, .inl (lst_of i5), .ref p, rfl, p, _, 0, .ref pm, rfl, rfl, tup_of j1.at_, rfl, pm, _, rfl, .inr (tup_of j1.am), rfl, _, rfl, ?_⟩
      rw [List.length_map, List.length_map, len_dec]
      cases hM : ms.all fun z => decide (z ∈ ms') with
      | false => exact iteF ⟨rfl, rfl⟩
      | true =>
        refine iteT ⟨.ref D2, rfl, D2, _, rfl, .inl (lst_of i6), .ref p, rfl, p, _, 1, .ref pk, rfl, rfl, tup_of j1.at_, rfl, pk, _, rfl, .inr (tup_of j1.ak), rfl, ?_⟩
        rw [List.length_map, List.length_map, len_dec]
        exact ⟨rfl, rfl⟩
    rintro σ H9 ⟨rfl, rfl⟩
    have lx7' := lx7
    obtain ⟨dx, fs, _, _, gx, -, -, -, -, hfs⟩ := lx7'
    refine ⟨.ref x, rfl, x, dx, fs, rfl, gx, look_none hfs (by decide +kernel), .ref y, rfl, x, .ref y, ms, ks, rfl, lx7, by omega, by omega, .inr ⟨y, ms', ks', rfl, ly7, fun H10 s10 => ⟨_, rfl, _, rfl, _, rfl, rfl, false, by rw [decide_eq_true rfl]; rfl, iteF ?_⟩⟩⟩
    have lx10 := lx7.same s10
    refine ⟨.ref x, rfl, x, dx, fs, rfl, s10 _ _ gx, look_none hfs (by decide +kernel), .ref x, rfl, x, .ref x, ms, ks, rfl, lx10, by omega, by omega, .inr ⟨x, ms, ks, rfl, lx10, fun H11 s11 => ?_⟩⟩
    rw [all_self, all_self]
    refine ⟨true, true, rfl, rfl, false, rfl, iteF ?_⟩
    have S11 := s10.trans s11
    have j1' := j1.kept S11.kept
    have j2' := j2.kept S11.kept
    have lx11 := lx7.same S11
    have ly11 := ly7.same S11
    have tb11 : Tabs T H11 := tb7.same S11
    have xH11 : ExtN H H11 := xH.trans (ExtN.of S11)
    have gx11 := S11 _ _ gx
    clear j1 j2 lx7 ly7 tb7 xH S11 s10 s11 lx10 gx i5 i6
    -- others
    refine ⟨.ref p, rfl, .ref x, rfl, by show 1 ≤ sizeLine; decide, fun lf nf => ?_⟩
    have e12 : (upd H11 lf (.lst [.ref x])) lf = some (.lst [.ref x]) := upd_same
    have s12 : Same H11 (upd H11 lf (.lst [.ref x])) := same_new nf
    generalize upd H11 lf (.lst [.ref x]) = H12 at *
    refine ⟨by show 5 ≤ sizeLine; decide, fun tq nq => ?_⟩
    have e13 : (upd H12 tq (.tup [.non, .ref p, .str "a", .int 0, .ref lf])) tq = some (.tup [.non, .ref p, .str "a", .int 0, .ref lf]) := upd_same
    have s13 : Same H12 (upd H12 tq (.tup [.non, .ref p, .str "a", .int 0, .ref lf])) := same_new nq
    generalize upd H12 tq (.tup [.non, .ref p, .str "a", .int 0, .ref lf]) = H13 at *
    have S13 := s12.trans s13
    have nl : ∀ v ∈ [V.non, .ref p, .str "a", .int 0, .ref lf], ∀ H5, Same H13 H5 → NoLang K D.C H5 v := by
      simp only [List.forall_mem_cons]
      exact ⟨fun H5 s5 => ⟨_, .base .non, G0.tn _ (by simp)⟩, fun H5 s5 => ⟨_, .base (.tup (s5 _ _ (S13 _ _ j1'.at_))), G0.tn _ (by simp)⟩, fun H5 s5 => ⟨_, .base (.str _), G0.tn _ (by simp)⟩, fun H5 s5 => ⟨_, .base (.int _), G0.tn _ (by simp)⟩, fun H5 s5 => ⟨_, .base (.lst (s5 _ _ (s13 _ _ e12))), G0.tn _ (by simp)⟩, fun v hv => by cases hv⟩
    refine ⟨tq, rfl, ⟨_, tup_of e13⟩, fun D3 nD3 => lc_map (h := fun x : V => x) (xs := [V.non, .ref p, .str "a", .int 0, .ref lf]) (by rw [List.map_id']; exact walk_tup) rfl (fun _ => .bl false) nD3 (fun H5 s5 => tup_of (s5 _ _ e13)) (by show 5 < 100000; decide)
      (fun v hv H5 s5 Q' q' => ⟨.ref x, rfl, x, dx, fs, rfl, s5 _ _ (S13 _ _ gx11), look_none hfs (by decide +kernel), v, rfl, x, v, ms, ks, rfl, lx11.same (S13.trans s5), by omega, by omega, .inl ⟨nl v hv H5 s5, q' H5 (Same.refl H5)⟩⟩) fun H14 s14 e14 => ?_⟩
    refine ⟨by show 1 ≤ sizeLine; decide, fun lb nb => ?_⟩
    have e15 : (upd H14 lb (.lst [.bl false])) lb = some (.lst [.bl false]) := upd_same
    have s15 : Same H14 (upd H14 lb (.lst [.bl false])) := same_new nb
    generalize upd H14 lb (.lst [.bl false]) = H15 at *
    refine ⟨lb, 5, _, rfl, rfl, e15, by decide, by decide, by show 1 * 5 ≤ sizeLine; decide, fun lc nc => ?_⟩
    have e16 : (upd H15 lc (.lst (List.replicate (5 : Int).toNat [V.bl false]).flatten)) lc = some (.lst (List.replicate (5 : Int).toNat [V.bl false]).flatten) := upd_same
    have s16 : Same H15 (upd H15 lc (.lst (List.replicate (5 : Int).toNat [V.bl false]).flatten)) := same_new nc
    generalize upd H15 lc (.lst (List.replicate (5 : Int).toNat [V.bl false]).flatten) = H16 at *
    have five : ∀ {b : Addr}, H16 b = some (.lst [.bl false, .bl false, .bl false, .bl false, .bl false]) → Dp K H16 (.ref b) (.list [.bool false, .bool false, .bool false, .bool false, .bool false]) := fun h => .lst (lst_of h) (.cons (.bl _) (.cons (.bl _) (.cons (.bl _) (.cons (.bl _) (.cons (.bl _) .nil)))))
    refine ⟨_, _, five (s16 _ _ (s15 _ _ e14)), five e16, by decide +kernel, by decide +kernel, false, by rw [show PyData.eqv (.list [.bool false, .bool false, .bool false, .bool false, .bool false]) (.list [.bool false, .bool false, .bool false, .bool false, .bool false]) = true by decide +kernel]; rfl, iteF ?_⟩
    have S16 := S13.trans (s14.trans (s15.trans s16))
    have r1 := j1'.kept S16.kept
    have r2 := j2'.kept S16.kept
    have lxE := lx11.same S16
    have lyE := ly11.same S16
    have gxE := S16 _ _ gx11
    obtain ⟨dy, fy, _, _, gyE, -, -, -, -, -⟩ := id lyE
    -- they are as they were
    refine ⟨.ref x, rfl, x, dx, fs, rfl, gxE, x, _, _, rfl, lxE, fun a1 z1 => ⟨.ref x, rfl, x, dx, fs, rfl, gxE, x, _, _, rfl, lxE, fun a2 z2 => ⟨.ref y, rfl, y, dy, fy, rfl, gyE, y, _, _, rfl, lyE, fun a3 z3 => ⟨.ref y, rfl, y, dy, fy, rfl, gyE, y, _, _, rfl, lyE, fun a4 z4 => ⟨by show 4 ≤ sizeLine; decide, fun b1 m1 => ?_⟩⟩⟩⟩⟩
    have e17 : (upd H16 b1 (.lst [.ref a1, .ref a2, .ref a3, .ref a4])) b1 = some (.lst [.ref a1, .ref a2, .ref a3, .ref a4]) := upd_same
    have s17 : Same H16 (upd H16 b1 (.lst [.ref a1, .ref a2, .ref a3, .ref a4])) := same_new m1
    generalize upd H16 b1 (.lst [.ref a1, .ref a2, .ref a3, .ref a4]) = H17 at *
    refine ⟨.ref p, rfl, p, _, 0, .ref pm, rfl, rfl, tup_of (s17 _ _ r1.at_), rfl, .ref p, rfl, p, _, 1, .ref pk, rfl, rfl, tup_of (s17 _ _ r1.at_), rfl, .ref p', rfl, p', _, 0, .ref pm', rfl, rfl, tup_of (s17 _ _ r2.at_), rfl, .ref p', rfl, p', _, 1, .ref pk', rfl, rfl, tup_of (s17 _ _ r2.at_), rfl, by show 4 ≤ sizeLine; decide, fun b2 m2 => ?_⟩
    have e18 : (upd H17 b2 (.lst [.ref pm, .ref pk, .ref pm', .ref pk'])) b2 = some (.lst [.ref pm, .ref pk, .ref pm', .ref pk']) := upd_same
    have s18 : Same H17 (upd H17 b2 (.lst [.ref pm, .ref pk, .ref pm', .ref pk'])) := same_new m2
    generalize upd H17 b2 (.lst [.ref pm, .ref pk, .ref pm', .ref pk']) = H18 at *
    have S18 := s17.trans s18
    have four : ∀ {b c1 c2 c3 c4 : Addr}, H18 b = some (.lst [.ref c1, .ref c2, .ref c3, .ref c4]) → H16 c1 = some (.tup (ms.map V.str)) → H16 c2 = some (.tup (ks.map V.str)) → H16 c3 = some (.tup (ms'.map V.str)) → H16 c4 = some (.tup (ks'.map V.str)) → Dp K H18 (.ref b) (.list [.tuple (dS ms), .tuple (dS ks), .tuple (dS ms'), .tuple (dS ks')]) := fun h h1 h2 h3 h4 =>
      .lst (lst_of h) (.cons (dp_tuple (tup_of (S18 _ _ h1))) (.cons (dp_tuple (tup_of (S18 _ _ h2))) (.cons (dp_tuple (tup_of (S18 _ _ h3))) (.cons (dp_tuple (tup_of (S18 _ _ h4))) .nil))))
    refine ⟨_, _, four (s18 _ _ e17) z1 z2 z3 z4, four e18 r1.am r1.ak r2.am r2.ak, shaped4 r1.pl.nm r1.pl.nk r2.pl.nm r2.pl.nk, shaped4 r1.pl.nm r1.pl.nk r2.pl.nm r2.pl.nk, ?_⟩
    rw [eqv4]
    exact q H18 (xH11.trans (ExtN.of (S16.trans S18))) (tb11.same (S16.trans S18))
end
end Tf

/-! k02: _law_changes_right -/
namespace Tf
open PySem PySem.Spec PyProof.Rows L2 LamX LamN TfG
/-- two equal languages -/
def LangE (C : Addr) (a b : Addr) (H : Hp) : Prop := ∃ ms ks : List Str, LangAt C H a ms ks ∧ LangAt C H b ms ks ∧ Nms ms ∧ Nms ks
theorem lang_mon (C : Addr) : Mon (DIns C (LangE C)) := mon_ins fun a b H H' e ⟨ms, ks, h1, h2, n1, n2⟩ => ⟨ms, ks, h1.same e, h2.same e, n1, n2⟩
theorem lang_eqG {X : Cx} {D : Ad} {k kI : Nat} (G : Lg X.prog X.w X.K X.mg X.base k kI D) : EqG X 1 (DIns D.C (LangE D.C)) := by
  refine eqG_ins (E := E0) (G.GE.imp (sp' := L2.spEq (LangE D.C)) fun vs H Q E h => ?_) G.oE.1 G.oE.2 G.bE pass0
  obtain ⟨a, b, rfl, ⟨ms, ks, h1, h2, n1, n2⟩, q⟩ := h
  refine ⟨a, .ref b, ms, ks, rfl, h1, n1, n2, .inr ⟨b, ms, ks, rfl, h2, n1, n2, ?_⟩⟩
  rw [decide_eq_true rfl, decide_eq_true rfl]
  exact q H fun _ _ z => z
theorem notIn_congr {a b ms : List Str} (h : ∀ z, z ∈ a ↔ z ∈ b) : notIn ms a = notIn ms b := by
  unfold notIn
  refine congrArg (fun p => ms.filter p) (funext fun z => ?_)
  rw [decide_eq_decide.mpr (h z)]
theorem ext_tup {K : PySem.W.Frag} {H G : Hp} {a : Addr} {xs : List V} (h : SqT K H a xs) (e : ExtN H G) : SqT K G a xs := by
  rcases h with (h | ⟨o, h⟩) | h
  · exact .inl (.inl (e _ _ h fun ps z => by cases z))
  · exact .inl (.inr ⟨o, e _ _ h fun ps z => by cases z⟩)
  · exact .inr h
theorem dice_ext {H G : Hp} {d : Addr} (h : Dice H d) (ex : ExtN H G) : Dice G d := by
  obtain ⟨a, b, c, n, e⟩ := h
  exact ⟨a, b, c, n, ex _ _ e fun ps z => by cases z⟩
theorem ends_of : ∀ {ys : List Str}, 1 ≤ ys.length → ys.length ≤ 2 → ∃ y0 yl : Str, atI (ys.map V.str) 0 = some (.str y0) ∧ atI (ys.map V.str) (-1) = some (.str yl) ∧ ∀ z, z ∈ [y0, yl] ↔ z ∈ ys
  | [y], _, _ => ⟨y, y, rfl, rfl, fun z => by simp⟩
  | [a, b], _, _ => ⟨a, b, rfl, rfl, fun z => Iff.rfl⟩
  | [], h, _ => by simp at h
  | _ :: _ :: _ :: _, _, h => by simp at h
theorem notIn_nil (ms : List Str) : notIn ms [] = ms := by
  unfold notIn
  rw [List.filter_eq_self]
  intro z _
  simp
theorem notIn_nms {a b : List Str} (h : Nms a) : Nms (notIn a b) := fun z hz => h z (List.mem_filter.mp hz).1
theorem notIn_le (a b : List Str) : (notIn a b).length ≤ a.length := List.length_filter_le _ _
abbrev sChg : Stmt := top 24
abbrev nChg : List Str := ["_law_dice_here", "_law_one", "_law_names", "_law_wide", "_law_left", "_law_rest", "_law_first", "_law_own", "_law_three", "_law_two", "_law_name"]
theorem scChg : FnScope nChg ["_law_dice_here", "_law_one"] (defScope sChg) := ⟨rfl, rfl, rfl, by decide +kernel, rfl, by decide +kernel, by decide +kernel⟩
def spChg (T : List (Addr × Str)) : Sp := fun vs H Q _ => ∃ (d p pm pk : Addr) (ms ks : List Str), vs = [.ref d, .ref p] ∧ Dice H d ∧ PlainAt H p pm pk ms ks ∧ Tabs T H ∧ ∀ H' : Hp, KpD d H H' → Dice H' d → Tabs T H' → Q (.bl true) H'
section
variable {P : Program} {w : World} {K : PySem.W.Frag} {mg : Str → Option Value} {base : Heap}
theorem ok_chg {D : Ad} {T : List (Addr × Str)} {f g c PT fP fSo : Addr} {fd fdI fdP fdSo : FuncData} {k kI : Nat} (F : FunC K "_law_changes_right" "_law_changes_right" sChg f fd c) (G : Lg P w K mg base k kI D) (k1 : 1 ≤ k) (IR : IsrC P w K mg base k D.C D.CI g fdI) (TB : TabB base mg c PT) (hT : (PT, (("_law_changes_right" : Str) ++ ".<locals>.") ++ "<lambda>") ∈ T) (hU : ∀ p ∈ T, p.1 = PT → p.2 = (("_law_changes_right" : Str) ++ ".<locals>.") ++ "<lambda>")
    (GP : FnOk P w K mg base CX0 (k + 2) fP fdP ["_law_dice_here", "_law_items"] (spPick K)) (bP : Binds K fdP ["_law_dice_here", "_law_items"] []) (gP : mg "_law_pick" = some (.ref fP)) (kP : PySem.W.keepIn K (.ref fP) = true)
    (GSo : FnOk P w K mg base CX0 (k + 2) fSo fdSo ["_law_dice_here", "_law_items", "_law_least", "_law_most"] (spSome K)) (bSo : Binds K fdSo ["_law_dice_here", "_law_items", "_law_least", "_law_most"] []) (gSo : mg "_law_some" = some (.ref fSo)) (kSo : PySem.W.keepIn K (.ref fSo) = true)
    (mT : mg "tuple" = none) : FnG P w K mg base CX0 (k + 3) f fd ["_law_dice_here", "_law_one"] (spChg T) := by
  refine F.okG scChg (fun vs H Q E h => ?_) (fun A outer s H vs Q E hgu hr h => ?_)
  · obtain ⟨d, p, pm, pk, ms, ks, rfl, _⟩ := h
    rfl
  · obtain ⟨d, p, pm, pk, ms, ks, rfl, hd, a1, tb, q⟩ := h
    have hr2 : Room 2 (A.deeper (envOfC "_law_changes_right" (defScope sChg) s.heap.objs.size f (.ref c))) := hr.mono (by omega)
    have hrk : Room k (A.deeper (envOfC "_law_changes_right" (defScope sChg) s.heap.objs.size f (.ref c))) := hr.mono (by omega)
    have G0 := G
    refine ⟨_, (pss_cons (ps_asg (pe_tup (pa_cons (ClX.pe_cmeth (E := E0) (pe_glob (v := .ref D.C) rfl G.gLa rfl) G.cr G.cm (G.GO.raw G.bO .nil) hrk (L2N.passes_call L2N.takes0 (fun _ _ _ _ h => h)) (pa_cons (pe_ix ix_tup (pv 1) pe_int (fun _ _ => rfl)) (pa_cons (pe_ix ix_tup (pv 1) pe_int (fun _ _ => rfl)) pa_nil))) (pa_cons (pe_lst (pa_cons pe_str (pa_cons pe_str (pa_cons pe_str (pa_cons pe_str (pa_cons pe_str (pa_cons pe_str pa_nil))))))) pa_nil))) (pg_tup (by rfl) (pgs_cons (pg_name (i := 6) scChg.nd rfl (.inr rfl)) (pgs_cons (pg_name (i := 2) scChg.nd rfl (.inl rfl)) pgs_nil))))
      (pss_cons (ps_asg (pe_tup (pa_cons (pe_call GP hr (by rfl) gP kP bP .nil pass0 (pa_cons (pv 0) (pa_cons (pv 2) pa_nil))) (pa_cons (pe_call GP hr (by rfl) gP kP bP .nil pass0 (pa_cons (pv 0) (pa_cons (pv 2) pa_nil))) pa_nil))) (pg_tup (by rfl) (pgs_cons (pg_name (i := 9) scChg.nd rfl (.inr rfl)) (pgs_cons (pg_name (i := 8) scChg.nd rfl (.inr rfl)) pgs_nil))))
      (pss_cons (ps_set (i := 3) scChg.nd rfl (.inl rfl) (pe_op op_catA (pe_ix ix_tup (pv 1) pe_int (fun _ _ => rfl)) (pe_tup (pa_cons (pv 9) (pa_cons (pv 8) pa_nil)))))
      (pss_cons (ps_if (pt_not (pt_val (pe_isr (k := k) (sc := defScope sChg) IR TB rfl hT hU hr (fun A' outer' s' H' E' f' c' hr' => pe_methR (pv 6) G.L.cl G.mWm G.gWm hr' (L2N.passes_call (L2N.takes_of rfl rfl rfl rfl) (fun _ _ _ _ h => h)) (pa_cons (pv 9) (pa_cons (pv 8) pa_nil))) (pa_cons (pv 3) (pa_cons (pe_ix ix_tup (pv 1) pe_int (fun _ _ => rfl)) pa_nil))))) (pss_one (ps_ret pe_bl)) pss_nil)
      (pss_cons (ps_set (i := 3) scChg.nd rfl (.inl rfl) (pe_op op_catA (pe_ix ix_tup (pv 1) pe_int (fun _ _ => rfl)) (pe_tup (pa_cons (pv 9) (pa_cons (pv 8) pa_nil)))))
      (pss_cons (ps_if (pt_not (pt_val (pe_isr (k := k) (sc := defScope sChg) IR TB rfl hT hU hr (fun A' outer' s' H' E' f' c' hr' => pe_methR (pv 6) G.L.cl G.mWk G.gWk hr' (L2N.passes_call (L2N.takes_of rfl rfl rfl rfl) (fun _ _ _ _ h => h)) (pa_cons (pv 9) (pa_cons (pv 8) pa_nil))) (pa_cons (pe_ix ix_tup (pv 1) pe_int (fun _ _ => rfl)) (pa_cons (pv 3) pa_nil))))) (pss_one (ps_ret pe_bl)) pss_nil)
      (pss_cons (ps_set (i := 7) scChg.nd rfl (.inr rfl) (pe_call GSo hr (by rfl) gSo kSo bSo .nil pass0 (pa_cons (pv 0) (pa_cons (pe_op op_catA (pe_ix ix_tup (pv 1) pe_int (fun _ _ => rfl)) (pe_ix ix_tup (pv 1) pe_int (fun _ _ => rfl))) (pa_cons pe_int (pa_cons pe_int pa_nil))))))
      (pss_cons (ps_set (i := 4) scChg.nd rfl (.inl rfl) (pe_callTy call_tuple_of (by rfl) mT (by decide +kernel) (pa_cons (pe_lc (own := [("_law_name", 10)]) (g := gName 10) (tt := tTest (tOp (rIn K true) (tVar 10) (tVar 7))) (te := tVar 10) (by rfl) scChg.nd (pi_tup (pe_ix ix_tup (pv 1) pe_int (fun _ _ => rfl))) (blkOk_by (own := [("_law_name", 10)]) (N := nChg) (sc := defScope sChg) (by decide +kernel)) (fun _ _ _ _ _ => pg_name (i := 10) scChg.nd rfl (Or.inl rfl)) (fun _ _ _ _ _ => pts_one (pt_cmpR op_notIn_seq (pv 10) (pv 7) (by rfl))) (fun _ _ _ _ _ => pv 10)) pa_nil)))
      (pss_cons (ps_set (i := 5) scChg.nd rfl (.inl rfl) (pe_callTy call_tuple_of (by rfl) mT (by decide +kernel) (pa_cons (pe_lc (own := [("_law_name", 10)]) (g := gName 10) (tt := tTest (tOp (rIn K true) (tVar 10) (tVar 7))) (te := tVar 10) (by rfl) scChg.nd (pi_tup (pe_ix ix_tup (pv 1) pe_int (fun _ _ => rfl))) (blkOk_by (own := [("_law_name", 10)]) (N := nChg) (sc := defScope sChg) (by decide +kernel)) (fun _ _ _ _ _ => pg_name (i := 10) scChg.nd rfl (Or.inl rfl)) (fun _ _ _ _ _ => pts_one (pt_cmpR op_notIn_seq (pv 10) (pv 7) (by rfl))) (fun _ _ _ _ _ => pv 10)) pa_nil)))
      (pss_cons (ps_if (pt_not (pt_val (pe_isr (k := k) (sc := defScope sChg) IR TB rfl hT hU hr (fun A' outer' s' H' E' f' c' hr' => pe_methR (pv 6) G.L.cl G.mOu G.gOu hr' (L2N.passes_call (L2N.takes_of rfl rfl rfl rfl) (fun _ _ _ _ h => h)) (pa_cons (pe_ix (show IxR _ (rIxL K) from ix_list) (pv 7) pe_int (fun _ _ => rfl)) (pa_cons (pe_ix (show IxR _ (rIxL K) from ix_list) (pv 7) (pe_un un_neg pe_int) (fun _ _ => rfl)) pa_nil))) (pa_cons (pv 4) (pa_cons (pv 5) pa_nil))))) (pss_one (ps_ret pe_bl)) pss_nil)
      (pss_one (ps_ret (pe_cmpR (op_eqG (rcG_list (lang_mon D.C) (lang_eqG G)) hr2) (pe_lst (pa_cons (pe_methR0 (E := E0) (pv 6) G.L.cl G.mOu G.gOu hrk (L2N.passes_call L2N.takes0 (fun _ _ _ _ h => h))) (pa_cons (pe_methR0 (E := E0) (pv 6) G.L.cl G.mWm G.gWm hrk (L2N.passes_call L2N.takes0 (fun _ _ _ _ h => h))) (pa_cons (pe_methR0 (E := E0) (pv 6) G.L.cl G.mWk G.gWk hrk (L2N.passes_call L2N.takes0 (fun _ _ _ _ h => h))) pa_nil)))) (pe_op op_rep (pe_lst (pa_cons (pv 6) pa_nil)) pe_int) (nomark _)))))))))))))), ?_⟩
    have l1 := a1.pl.lens
    have nN : Nms ["a", "b", "x", "y", "of", "to"] := by unfold Nms; decide +kernel
    -- the language
    refine ⟨rfl, .ref p, rfl, p, _, 0, .ref pm, rfl, rfl, tup_of a1.at_, rfl, .ref p, rfl, p, _, 1, .ref pk, rfl, rfl, tup_of a1.at_, rfl, _, _, rfl, made_plain a1 fun x H1 s1 lx => ?_⟩
    refine ⟨by show 6 ≤ sizeLine; decide, fun ln n2 => ?_⟩
    have e2 : (upd H1 ln (.lst [.str "a", .str "b", .str "x", .str "y", .str "of", .str "to"])) ln = some (.lst [.str "a", .str "b", .str "x", .str "y", .str "of", .str "to"]) := upd_same
    have s2 : Same H1 (upd H1 ln (.lst [.str "a", .str "b", .str "x", .str "y", .str "of", .str "to"])) := same_new n2
    generalize upd H1 ln (.lst [.str "a", .str "b", .str "x", .str "y", .str "of", .str "to"]) = H2 at *
    have d2 := hd.same (s1.trans s2)
    have dl : d ≠ ln := by
      obtain ⟨i, j, k', e⟩ := dice_is (hd.same s1)
      exact ne_of_none e n2
    refine ⟨by show 2 ≤ sizeLine; decide, fun tp n3 => ⟨tp, _, rfl, tup_of upd_same, rfl, _, _, rfl, _, _, rfl, rfl, ?_⟩⟩
    have e3 : (upd H2 tp (.tup [.ref x, .ref ln])) tp = some (.tup [.ref x, .ref ln]) := upd_same
    have s3 : Same H2 (upd H2 tp (.tup [.ref x, .ref ln])) := same_new n3
    generalize upd H2 tp (.tup [.ref x, .ref ln]) = H3 at *
    -- two names
    have d3 := d2.same s3
    refine ⟨.ref d, rfl, .ref ln, rfl, d, ln, _, rfl, d3, s3 _ _ e2, dl, List.cons_ne_nil _ _, by show 6 < 1000; decide, fun v1 H4 hv1 r4 d4 => ?_⟩
    refine ⟨.ref d, rfl, .ref ln, rfl, d, ln, _, rfl, d4, r4 _ _ (Ne.symm dl) (s3 _ _ e2), dl, List.cons_ne_nil _ _, by show 6 < 1000; decide, fun v2 H5 hv2 r5 d5 => ?_⟩
    have nm1 : ∀ v ∈ [V.str "a", .str "b", .str "x", .str "y", .str "of", .str "to"], ∃ z, v = .str z ∧ nameB z = true := fun v hv => by
      obtain ⟨z, hz, e⟩ := List.mem_map.mp (show v ∈ (["a", "b", "x", "y", "of", "to"] : List Str).map V.str from hv)
      exact ⟨z, e.symm, nN z hz⟩
    obtain ⟨z1, rfl, n1⟩ := nm1 v1 hv1
    obtain ⟨z2, rfl, n2'⟩ := nm1 v2 hv2
    refine ⟨by show 2 ≤ sizeLine; decide, fun tp2 n6 => ⟨tp2, _, rfl, tup_of upd_same, rfl, _, _, rfl, _, _, rfl, rfl, ?_⟩⟩
    have e6 : (upd H5 tp2 (.tup [.str z1, .str z2])) tp2 = some (.tup [.str z1, .str z2]) := upd_same
    have s6 : Same H5 (upd H5 tp2 (.tup [.str z1, .str z2])) := same_new n6
    generalize upd H5 tp2 (.tup [.str z1, .str z2]) = H6 at *
    have nz : Nms [z1, z2] := fun z hz => by
      rcases List.mem_cons.mp hz with rfl | hz
      · exact n1
      · rw [List.mem_singleton.mp hz]
        exact n2'
    have kp6 : KpD d H H6 := (s1.trans (s2.trans s3)).kpd.trans (r4.kpd.trans (r5.kpd.trans s6.kpd))
    have k36 : Kept H3 H6 := ((r4.kpd.kept d3).trans (r5.kpd.kept d4)).trans s6.kept
    have b1 := a1.kept ((s1.trans (s2.trans s3)).kept.trans k36)
    have lx6 := (lx.same (s2.trans s3)).kept k36
    have d6 := d5.same s6
    have tb6 : Tabs T H6 := ((((tb.same (s1.trans (s2.trans s3))).nr r4 d3).nr r5 d4).same s6)
    clear lx a1 hd tb s1 n2 s2 e2 d2 n3 s3 e3 d3 hv1 r4 d4 hv2 r5 d5 n6 s6 e6 k36 nm1 n1 n2' dl nN
    clear H1 H2 H3 H4 H5 tp tp2
    -- with_marks
    refine ⟨.ref p, rfl, p, _, 0, .ref pm, rfl, rfl, tup_of b1.at_, rfl, .str z1, rfl, .str z2, rfl, by show 2 ≤ sizeLine; decide, fun t1 m1 => ?_⟩
    have e7 : (upd H6 t1 (.tup [.str z1, .str z2])) t1 = some (.tup [.str z1, .str z2]) := upd_same
    have s7 : Same H6 (upd H6 t1 (.tup [.str z1, .str z2])) := same_new m1
    generalize upd H6 t1 (.tup [.str z1, .str z2]) = H7 at *
    refine cat_any (tup_of (s7 _ _ b1.am)) (ys := [z1, z2].map V.str) (tup_of e7) (by rw [List.length_map]; show _ + 2 ≤ 100; omega) fun u1 H8 s8 e8 => ?_
    rw [← List.map_append] at e8
    have S8 := s7.trans s8
    refine ⟨tb6.same S8, fun G c' ex tg hc => ?_⟩
    have kG : Kept H6 G := S8.kept.trans ex.kept
    have b2 := b1.kept kG
    have e8' : SqT K G u1 ((ms ++ [z1, z2]).map V.str) := ext_tup e8 ex
    refine ⟨.ref u1, rfl, .ref p, rfl, p, _, 1, .ref pk, rfl, rfl, tup_of b2.at_, rfl, rfl, hc, u1, pk, ms ++ [z1, z2], ks, rfl, e8', tup_of b2.ak, b1.pl.nm.app nz, b1.pl.nk, by rw [List.length_append]; show _ + 2 ≤ 60; omega, by omega, fun H' s' => ⟨true, rfl, iteF ?_⟩, fun Ec R he hR => ?_⟩
    rotate_left
    · have lx7 := lx6.kept kG
      obtain ⟨dx, fs, _, _, gx, -, -, -, -, hfs⟩ := id lx7
      refine ⟨.ref x, rfl, x, dx, fs, rfl, gx, look_none hfs (by decide +kernel), .str z1, rfl, .str z2, rfl, ⟨[.ref x], [.str z1, .str z2], rfl, rfl, by show 2 ≤ sizeLine; decide, fun p1 np1 => ?_⟩⟩
      have e1 : (upd G p1 (.tup [.str z1, .str z2])) p1 = some (.tup [.str z1, .str z2]) := upd_same
      have s1 : Same G (upd G p1 (.tup [.str z1, .str z2])) := same_new np1
      generalize upd G p1 (.tup [.str z1, .str z2]) = G1 at *
      refine ⟨x, p1, _, _, _, rfl, tup_of e1, lx7.same s1, by show 2 ≤ 20; decide, by omega, fun G2 b s2 hb => ?_⟩
      have LR : LangR D.C D.CI G2 (ms ++ [z1, z2]) ks R Ec := ⟨fun c z H'' s'' _ la => hR z H'' c (s1.trans (s2.trans s'')) la, fun c H'' s'' => he none H'' c (s1.trans (s2.trans s''))⟩
      have mk := LR.makes hb (b1.pl.nm.app nz) b1.pl.nk (by rw [List.length_append]; show _ + 2 ≤ 60; omega) (by omega)
      rw [List.map_append] at mk
      exact mk
    have k9 : Kept H6 H' := kG.trans s'.kept
    have kp9 : KpD d H H' := kp6.trans (S8.kpd.trans (ex.kpd.trans s'.kpd))
    have b9 := b1.kept k9
    have lx9 := lx6.kept k9
    have d9 : Dice H' d := (dice_ext (d6.same S8) ex).same s'
    have tb9 : Tabs T H' := tg.same s'
    clear tb6 d6 lx6 b1 kp6 m1 s7 e7 s8 e8 S8 ex tg hc kG b2 e8' s' k9
    clear H6 H7 H8 G c' t1
    generalize H' = H1 at *
    -- with_kinds
    refine ⟨.ref p, rfl, p, _, 1, .ref pk, rfl, rfl, tup_of b9.at_, rfl, .str z1, rfl, .str z2, rfl, by show 2 ≤ sizeLine; decide, fun t1 m1 => ?_⟩
    have e7 : (upd H1 t1 (.tup [.str z1, .str z2])) t1 = some (.tup [.str z1, .str z2]) := upd_same
    have s7 : Same H1 (upd H1 t1 (.tup [.str z1, .str z2])) := same_new m1
    generalize upd H1 t1 (.tup [.str z1, .str z2]) = H7 at *
    refine cat_any (tup_of (s7 _ _ b9.ak)) (ys := [z1, z2].map V.str) (tup_of e7) (by rw [List.length_map]; show _ + 2 ≤ 100; omega) fun u1 H8 s8 e8 => ?_
    rw [← List.map_append] at e8
    have S8 := s7.trans s8
    refine ⟨tb9.same S8, fun G c' ex tg hc => ?_⟩
    have kG : Kept H1 G := S8.kept.trans ex.kept
    have b2 := b9.kept kG
    have e8' : SqT K G u1 ((ks ++ [z1, z2]).map V.str) := ext_tup e8 ex
    refine ⟨.ref p, rfl, p, _, 0, .ref pm, rfl, rfl, tup_of b2.at_, rfl, .ref u1, rfl, rfl, hc, pm, u1, ms, ks ++ [z1, z2], rfl, tup_of b2.am, e8', b9.pl.nm, b9.pl.nk.app nz, by omega, by rw [List.length_append]; show _ + 2 ≤ 60; omega, fun H' s' => ⟨true, rfl, iteF ?_⟩, fun Ec R he hR => ?_⟩
    rotate_left
    · have lx7 := lx9.kept kG
      obtain ⟨dx, fs, _, _, gx, -, -, -, -, hfs⟩ := id lx7
      refine ⟨.ref x, rfl, x, dx, fs, rfl, gx, look_none hfs (by decide +kernel), .str z1, rfl, .str z2, rfl, ⟨[.ref x], [.str z1, .str z2], rfl, rfl, by show 2 ≤ sizeLine; decide, fun p1 np1 => ?_⟩⟩
      have e1 : (upd G p1 (.tup [.str z1, .str z2])) p1 = some (.tup [.str z1, .str z2]) := upd_same
      have s1 : Same G (upd G p1 (.tup [.str z1, .str z2])) := same_new np1
      generalize upd G p1 (.tup [.str z1, .str z2]) = G1 at *
      refine ⟨x, p1, _, _, _, rfl, tup_of e1, lx7.same s1, by show 2 ≤ 20; decide, by omega, fun G2 b s2 hb => ?_⟩
      have LR : LangR D.C D.CI G2 ms (ks ++ [z1, z2]) R Ec := ⟨fun c z H'' s'' _ la => hR z H'' c (s1.trans (s2.trans s'')) la, fun c H'' s'' => he none H'' c (s1.trans (s2.trans s''))⟩
      exact LR.makes (by rw [List.map_append]; exact hb) b9.pl.nm (b9.pl.nk.app nz) (by omega) (by rw [List.length_append]; show _ + 2 ≤ 60; omega)
    have k6 : Kept H1 H' := kG.trans s'.kept
    have kpA : KpD d H H' := kp9.trans (S8.kpd.trans (ex.kpd.trans s'.kpd))
    have bA := b9.kept k6
    have lxA := lx9.kept k6
    have dA : Dice H' d := (dice_ext (d9.same S8) ex).same s'
    have tbA : Tabs T H' := tg.same s'
    clear tb9 d9 lx9 b9 kp9 m1 s7 e7 s8 e8 S8 ex tg hc kG b2 e8' s' k6
    clear H1 H7 H8 G c' t1
    generalize H' = H1 at *
    -- some of its names
    refine ⟨.ref d, rfl, .ref p, rfl, p, _, 0, .ref pm, rfl, rfl, tup_of bA.at_, rfl, .ref p, rfl, p, _, 1, .ref pk, rfl, rfl, tup_of bA.at_, rfl, cat_any (tup_of bA.am) (tup_of bA.ak) (by rw [List.length_map, List.length_map]; omega) fun u H2 s2 e2 => ?_⟩
    rw [← List.map_append] at e2
    refine ⟨d, u, ms ++ ks, rfl, dA.same s2, .inr e2, bA.pl.nm.app bA.pl.nk, by rw [List.length_append]; omega, by rw [List.length_append]; omega, fun ys po H3 r3 d3 eo dpo y1 y2 yin => ?_⟩
    have kB : Kept H1 H3 := s2.kept.trans (r3.kpd.kept (dA.same s2))
    have kpB : KpD d H H3 := kpA.trans (s2.kpd.trans r3.kpd)
    have bB := bA.kept kB
    have lxB := lxA.kept kB
    have tbB : Tabs T H3 := (tbA.same s2).nr r3 (dA.same s2)
    clear kpA bA lxA dA tbA s2 e2 r3 kB
    -- what is left
    refine ⟨.ref p, rfl, p, _, 0, .ref pm, rfl, rfl, tup_of bB.at_, rfl, pm, rfl, ⟨_, tup_of bB.am⟩, fun D1 nD1 => lc_on (h := V.str) (xs := ms) (by have := walk_tup (K := K) (a := pm) (xs := ms.map V.str); rw [List.length_map] at this; exact this) rfl (fun z => !inV (.str z) (ys.map V.str)) V.str nD1 (fun H5 s5 => tup_of (s5 _ _ bB.am)) (by omega)
      (fun z hz H5 s5 Q' q' => ⟨_, rfl, .ref po, rfl, po, _, rfl, .inl (lst_of (s5 _ _ eo)), rfl, flat_strs _, _, rfl, q' H5 (Same.refl H5)⟩) (fun z hz _ H5 s5 Q' q' => ⟨_, rfl, q' H5 (Same.refl H5)⟩) fun H4 s4 e4 => ?_⟩
    rw [out_fun] at e4
    have e4' : H4 D1 = some (.lst ((notIn ms ys).map V.str)) := e4
    refine ⟨D1, _, rfl, .inl ⟨lst_of e4', fun q1 m1 => ?_⟩⟩
    have e5 : (upd H4 q1 (.tup ((notIn ms ys).map V.str))) q1 = some (.tup ((notIn ms ys).map V.str)) := upd_same
    have s5 : Same H4 (upd H4 q1 (.tup ((notIn ms ys).map V.str))) := same_new m1
    generalize upd H4 q1 (.tup ((notIn ms ys).map V.str)) = H5 at *
    have S5 := s4.trans s5
    have bC := bB.kept S5.kept
    refine ⟨.ref p, rfl, p, _, 1, .ref pk, rfl, rfl, tup_of bC.at_, rfl, pk, rfl, ⟨_, tup_of bC.ak⟩, fun D2 nD2 => lc_on (h := V.str) (xs := ks) (by have := walk_tup (K := K) (a := pk) (xs := ks.map V.str); rw [List.length_map] at this; exact this) rfl (fun z => !inV (.str z) (ys.map V.str)) V.str nD2 (fun H6 s6 => tup_of (s6 _ _ bC.ak)) (by omega)
      (fun z hz H6 s6 Q' q' => ⟨_, rfl, .ref po, rfl, po, _, rfl, .inl (lst_of (s6 _ _ (S5 _ _ eo))), rfl, flat_strs _, _, rfl, q' H6 (Same.refl H6)⟩) (fun z hz _ H6 s6 Q' q' => ⟨_, rfl, q' H6 (Same.refl H6)⟩) fun H6 s6 e6 => ?_⟩
    rw [out_fun] at e6
    have e6' : H6 D2 = some (.lst ((notIn ks ys).map V.str)) := e6
    refine ⟨D2, _, rfl, .inl ⟨lst_of e6', fun q2 m2 => ?_⟩⟩
    have e7 : (upd H6 q2 (.tup ((notIn ks ys).map V.str))) q2 = some (.tup ((notIn ks ys).map V.str)) := upd_same
    have s7 : Same H6 (upd H6 q2 (.tup ((notIn ks ys).map V.str))) := same_new m2
    generalize upd H6 q2 (.tup ((notIn ks ys).map V.str)) = H7 at *
    have S7 := S5.trans (s6.trans s7)
    have e5' := s7 _ _ (s6 _ _ e5)
    have eo7 := S7 _ _ eo
    have bD := bB.kept S7.kept
    have lxD := lxB.same S7
    have kpD7 : KpD d H H7 := kpB.trans S7.kpd
    have dD := d3.same S7
    have tbD : Tabs T H7 := tbB.same S7
    have il1 := notIn_le ms ys
    have il2 := notIn_le ks ys
    clear kpB bB bC lxB tbB s4 e4 e4' e5 s5 S5 s6 e6 e6' s7 S7 eo d3 m1 m2 nD1 nD2
    refine ⟨tbD, fun G c' ex tg hc => ?_⟩
    have kG := ex.kept
    have eoG := ex _ _ eo7 fun ps z => by cases z
    refine ⟨.ref q1, rfl, .ref q2, rfl, rfl, hc, q1, q2, notIn ms ys, notIn ks ys, rfl, tup_of (ex _ _ e5' fun ps z => by cases z), tup_of (ex _ _ e7 fun ps z => by cases z), notIn_nms bD.pl.nm, notIn_nms bD.pl.nk, by omega, by omega, fun H' s' => ⟨true, rfl, iteF ?_⟩, fun Ec R he hR => ?_⟩
    rotate_left
    · have lx7 := lxD.kept kG
      obtain ⟨dx, fs, _, _, gx, -, -, -, -, hfs⟩ := id lx7
      obtain ⟨y0, yl, h0, hl, hmem⟩ := ends_of y1 y2
      refine ⟨.ref x, rfl, x, dx, fs, rfl, gx, look_none hfs (by decide +kernel), .ref po, rfl, po, _, 0, .str y0, rfl, rfl, lst_of eoG, h0, .ref po, rfl, 1, rfl, po, _, -1, .str yl, rfl, rfl, lst_of eoG, hl, ⟨[.ref x], [.str y0, .str yl], rfl, rfl, by show 2 ≤ sizeLine; decide, fun p1 np1 => ?_⟩⟩
      have e1 : (upd G p1 (.tup [.str y0, .str yl])) p1 = some (.tup [.str y0, .str yl]) := upd_same
      have s1 : Same G (upd G p1 (.tup [.str y0, .str yl])) := same_new np1
      generalize upd G p1 (.tup [.str y0, .str yl]) = G1 at *
      refine ⟨x, p1, [y0, yl], ms, ks, rfl, tup_of e1, lx7.same s1, bD.pl.nm, bD.pl.nk, by omega, by omega, by show 2 ≤ 20; decide, fun z hz => List.mem_append.mp (yin z ((hmem z).mp hz)), ?_⟩
      rw [notIn_congr hmem, notIn_congr hmem]
      exact ⟨fun c z H'' s'' _ la => hR z H'' c (s1.trans s'') la, fun c H'' s'' => he none H'' c (s1.trans s'')⟩
    have k9 : Kept H7 H' := kG.trans s'.kept
    have kp9 : KpD d H H' := kpD7.trans (ex.kpd.trans s'.kpd)
    have b9 := bD.kept k9
    have lx9 := lxD.kept k9
    have d9 : Dice H' d := (dice_ext dD ex).same s'
    have tb9 : Tabs T H' := tg.same s'
    clear tbD dD lxD bD kpD7 ex tg hc kG eoG eo7 e5' e7 s' k9 yin y1 y2
    generalize H' = HA at *
    -- nothing in, nothing out
    have okL := b9.pl.ok
    have no : langOk ms ks = false → False := fun c => by rw [okL] at c; cases c
    obtain ⟨dx, fs, _, _, gx, -, -, -, -, hfs⟩ := id lx9
    refine ⟨.ref x, rfl, x, dx, fs, rfl, gx, look_none hfs (by decide +kernel), ⟨[.ref x], [], rfl, rfl, by show 0 ≤ sizeLine; decide, fun p1 np1 => ?_⟩⟩
    have e1 : (upd HA p1 (.tup [])) p1 = some (.tup []) := upd_same
    have s1 : Same HA (upd HA p1 (.tup [])) := same_new np1
    generalize upd HA p1 (.tup []) = HB at *
    refine ⟨x, p1, [], ms, ks, rfl, tup_of e1, lx9.same s1, b9.pl.nm, b9.pl.nk, by omega, by omega, by show 0 ≤ 20; decide, fun z hz => (nomatch hz), ?_⟩
    rw [notIn_nil, notIn_nil]
    refine ⟨fun _ w1 HC s2 _ lw1 => ?_, fun c => (no c).elim⟩
    have S2 := s1.trans s2
    refine ⟨.ref x, rfl, x, dx, fs, rfl, S2 _ _ gx, look_none hfs (by decide +kernel), ⟨[.ref x], [], rfl, rfl, by show 0 ≤ sizeLine; decide, fun p2 np2 => ?_⟩⟩
    have e3 : (upd HC p2 (.tup [])) p2 = some (.tup []) := upd_same
    have s3 : Same HC (upd HC p2 (.tup [])) := same_new np2
    generalize upd HC p2 (.tup []) = HD at *
    refine ⟨x, p2, [], _, _, rfl, tup_of e3, lx9.same (S2.trans s3), by show 0 ≤ 20; decide, by omega, fun HE b s4 hb => ?_⟩
    rw [List.append_nil]
    refine LangR.makes (ms := ms) (ks := ks) ⟨fun _ w2 HF s5 _ lw2 => ?_, fun c => (no c).elim⟩ hb b9.pl.nm b9.pl.nk (by omega) (by omega)
    have S5 := S2.trans (s3.trans (s4.trans s5))
    refine ⟨.ref x, rfl, x, dx, fs, rfl, S5 _ _ gx, look_none hfs (by decide +kernel), ⟨[.ref x], [], rfl, rfl, by show 0 ≤ sizeLine; decide, fun p3 np3 => ?_⟩⟩
    have e6 : (upd HF p3 (.tup [])) p3 = some (.tup []) := upd_same
    have s6 : Same HF (upd HF p3 (.tup [])) := same_new np3
    generalize upd HF p3 (.tup []) = HG at *
    refine ⟨x, p3, [], _, _, rfl, tup_of e6, lx9.same (S5.trans s6), by show 0 ≤ 20; decide, by omega, fun HH b s7 hb => ?_⟩
    rw [List.append_nil] at hb
    refine LangR.makes (ms := ms) (ks := ks) ⟨fun _ w3 HI s8 _ lw3 => ?_, fun c => (no c).elim⟩ hb b9.pl.nm b9.pl.nk (by omega) (by omega)
    rw [b9.pl.cm, b9.pl.ck] at lw1 lw2 lw3
    have S8 := s6.trans (s7.trans s8)
    refine ⟨by show 3 ≤ sizeLine; decide, fun la na => ?_⟩
    have e9 : (upd HI la (.lst [.ref w1, .ref w2, .ref w3])) la = some (.lst [.ref w1, .ref w2, .ref w3]) := upd_same
    have s9 : Same HI (upd HI la (.lst [.ref w1, .ref w2, .ref w3])) := same_new na
    generalize upd HI la (.lst [.ref w1, .ref w2, .ref w3]) = HJ at *
    refine ⟨.ref x, rfl, by show 1 ≤ sizeLine; decide, fun lb nb => ?_⟩
    have e10 : (upd HJ lb (.lst [.ref x])) lb = some (.lst [.ref x]) := upd_same
    have s10 : Same HJ (upd HJ lb (.lst [.ref x])) := same_new nb
    generalize upd HJ lb (.lst [.ref x]) = HK at *
    refine ⟨lb, 3, _, rfl, rfl, e10, by decide, by decide, by show 1 * 3 ≤ sizeLine; decide, fun lc nc => ?_⟩
    have e11 : (upd HK lc (.lst (List.replicate (3 : Int).toNat [V.ref x]).flatten)) lc = some (.lst (List.replicate (3 : Int).toNat [V.ref x]).flatten) := upd_same
    have s11 : Same HK (upd HK lc (.lst (List.replicate (3 : Int).toNat [V.ref x]).flatten)) := same_new nc
    generalize upd HK lc (.lst (List.replicate (3 : Int).toNat [V.ref x]).flatten) = HL at *
    have SE := s9.trans (s10.trans s11)
    have SA : Same HA HL := S5.trans (S8.trans SE)
    have lxL := lx9.same SA
    have ins : ∀ {y : Addr}, LangAt D.C HL y ms ks → DIns D.C (LangE D.C) (.ref y) (.ref x) HL := fun {y} ly => by
      obtain ⟨dy, fy, _, _, gy, -, -, -, -, -⟩ := id ly
      exact ⟨y, x, dy, dx, fy, fs, rfl, rfl, gy, SA _ _ gx, ms, ks, ly, lxL, b9.pl.nm, b9.pl.nk⟩
    refine ⟨⟨la, lc, _, _, rfl, rfl, s11 _ _ (s10 _ _ e9), e11, Prs.cons (ins (lw1.same (s3.trans (s4.trans (s5.trans (S8.trans SE)))))) (Prs.cons (ins (lw2.same (S8.trans SE))) (Prs.cons (ins (lw3.same SE)) Prs.nil))⟩, fun HZ eZ => ?_⟩
    have SZ : Same HA HZ := SA.trans eZ
    exact q HZ (kp9.trans SZ.kpd) (d9.same SZ) (tb9.same SZ)
end
end Tf

/-! k02: the law -/
namespace Tf
open PySem PySem.Spec PyProof.Rows L2 LamX LamN TfG
theorem makes_names {K : PySem.W.Frag} {H : Hp} {b : Addr} {ms ks : List Str} {good : List Str → Prop} {bad : Prop} (hb : SqT K H b (ks.map V.str)) (nm : ∀ z ∈ ms, nameB z = true) (nk : ∀ z ∈ ks, nameB z = true) (lm : ms.length ≤ 60) (lk : ks.length ≤ 60) (ok : langOk ms ks = true) (h : good ks) : Makes K H (ms.map V.str) (.ref b) good bad := by
  refine ⟨items_strs nm, by rw [List.length_map]; exact lm, fun c => ?_, fun _ => .inr ⟨b, _, rfl, hb, items_strs nk, by rw [List.length_map]; exact lk, fun c => ?_, ?_, ?_⟩⟩
  · rw [all_strs nm] at c
    cases c
  · rw [all_strs nk] at c
    cases c
  · rw [txts_strs, txts_strs, ok]
    intro _ c
    cases c
  · rw [txts_strs, txts_strs]
    exact fun _ _ => h
theorem canon_to {zs ys : List Str} (h1 : ∀ z ∈ zs, z ∈ ys) (h2 : ∀ z ∈ ys, z ∈ zs) (nd : ys.Nodup) (pw : ys.Pairwise (fun a b => leS a b = true)) : canon zs = ys := (canon_congr fun z => ⟨h1 z, h2 z⟩).trans (canon_self nd pw)
theorem sql_kept {K : PySem.W.Frag} {H H1 H2 : Hp} {a d : Addr} {xs : List V} (h : SqL K H a xs) (nd : H d = none) (s : Same H H1) (n : KpD d H1 H2) : SqL K H2 a xs := by
  rcases h with (h | ⟨o, h⟩) | h
  · exact .inl (.inl (n _ _ (ne_of_none h nd) (s _ _ h) fun ps z => by cases z))
  · exact .inl (.inr ⟨o, n _ _ (ne_of_none h nd) (s _ _ h) fun ps z => by cases z⟩)
  · exact .inr h
abbrev sLaw : Stmt := top 25
abbrev nLaw : List Str := ["_law_script", "_law_spot", "_law_dice_here", "_law_turn", "_law_one", "_law_other", "_law_third", "_law_low", "_law_high", "_law_far"]
theorem scLaw : FnScope nLaw ["_law_script"] (defScope sLaw) := ⟨rfl, rfl, rfl, by decide +kernel, rfl, by decide +kernel, by decide +kernel⟩
def spLaw (K : PySem.W.Frag) (T : List (Addr × Str)) : Sp := fun vs H Q _ => ∃ (a : Addr) (ns : List Int), vs = [.ref a] ∧ SqL K H a (ns.map V.int) ∧ ns.length ≤ 63 ∧ Tabs T H ∧ ∀ H', Q (.bl true) H'
section
variable {P : Program} {w : World} {K : PySem.W.Frag} {mg : Str → Option Value} {base : Heap}
theorem ok_law {D : Ad} {T : List (Addr × Str)} {f c fDi fPl fPa fCh : Addr} {fd fdDi fdPl fdPa fdCh : FuncData} {k kI : Nat} (F : FunC K "law" "law" sLaw f fd c) (G : Lg P w K mg base k kI D) (k1 : 1 ≤ k)
    (GDi : FnOk P w K mg base CX0 (k + 3) fDi fdDi ["_law_script", "_law_spot"] (spDice K)) (bDi : Binds K fdDi ["_law_script", "_law_spot"] []) (gDi : mg "_law_dice" = some (.ref fDi)) (kDi : PySem.W.keepIn K (.ref fDi) = true)
    (GPl : FnOk P w K mg base CX0 (k + 3) fPl fdPl ["_law_dice_here"] spPlain) (bPl : Binds K fdPl ["_law_dice_here"] []) (gPl : mg "_law_plain" = some (.ref fPl)) (kPl : PySem.W.keepIn K (.ref fPl) = true)
    (GPa : FnG P w K mg base CX0 (k + 3) fPa fdPa ["_law_one", "_law_other"] (spPair T)) (bPa : Binds K fdPa ["_law_one", "_law_other"] []) (gPa : mg "_law_pair_right" = some (.ref fPa)) (kPa : PySem.W.keepIn K (.ref fPa) = true)
    (GCh : FnG P w K mg base CX0 (k + 3) fCh fdCh ["_law_dice_here", "_law_one"] (spChg T)) (bCh : Binds K fdCh ["_law_dice_here", "_law_one"] []) (gCh : mg "_law_changes_right" = some (.ref fCh)) (kCh : PySem.W.keepIn K (.ref fCh) = true)
    (mRg : mg "range" = none) (mMx : mg "max" = none) (mMn : mg "min" = none) (mLe : mg "len" = none) : FnG P w K mg base CX0 (k + 4) f fd ["_law_script"] (spLaw K T) := by
  refine F.okG scLaw (fun vs H Q E h => ?_) (fun A outer s H vs Q E hgu hr h => ?_)
  · obtain ⟨a, ns, rfl, _⟩ := h
    rfl
  · obtain ⟨a, ns, rfl, hS, hl, tb, q⟩ := h
    have gu : (A.deeper (envOfC "law" (defScope sLaw) s.heap.objs.size f (.ref c))).guards = some [] := hgu
    have hu : (A.deeper (envOfC "law" (defScope sLaw) s.heap.objs.size f (.ref c))).units + 64 < cLine := by have := hr.un; omega
    have hr1 : Room 1 (A.deeper (envOfC "law" (defScope sLaw) s.heap.objs.size f (.ref c))) := hr.mono (by omega)
    have hr2 : Room 2 (A.deeper (envOfC "law" (defScope sLaw) s.heap.objs.size f (.ref c))) := hr.mono (by omega)
    have hrk : Room k (A.deeper (envOfC "law" (defScope sLaw) s.heap.objs.size f (.ref c))) := hr.mono (by omega)
    refine ⟨_, (pss_cons (ps_for PassesOwn.never rfl (pi_range1 rfl mRg (pa_cons (pe_callB (call_max2 rfl) (by rfl) mMx (by decide +kernel) (pa_cons pe_int (pa_cons (pe_callB (call_min2 rfl) (by rfl) mMn (by decide +kernel) (pa_cons pe_int (pa_cons (pe_callB call_len_seq (by rfl) mLe PySem.boot_len (pa_cons (pv 0) pa_nil)) pa_nil))) pa_nil))) pa_nil)) (pg_name (i := 1) scLaw.nd rfl (Or.inl rfl)) (pss_cons (ps_set (i := 2) scLaw.nd rfl (.inl rfl) (pe_call GDi hr (by rfl) gDi kDi bDi .nil pass0 (pa_cons (pv 0) (pa_cons (pv 1) pa_nil)))) (pss_one (ps_for PassesOwn.never rfl (pi_range1 rfl mRg (pa_cons pe_int pa_nil)) (pg_name (i := 3) scLaw.nd rfl (Or.inl rfl)) (pss_cons (ps_par (i := 4) (j := 5) (by rfl) scLaw.nd rfl rfl (by decide) rfl rfl (pa_cons (pe_call GPl hr (by rfl) gPl kPl bPl .nil pass0 (pa_cons (pv 2) pa_nil)) (pa_cons (pe_call GPl hr (by rfl) gPl kPl bPl .nil pass0 (pa_cons (pv 2) pa_nil)) pa_nil)) (by rfl))
      (pss_cons (ps_set (i := 6) scLaw.nd rfl (.inl rfl) (pe_call GPl hr (by rfl) gPl kPl bPl .nil pass0 (pa_cons (pv 2) pa_nil)))
      (pss_cons (ps_if (PW.pt (pw_or (pt_not (pt_val (pe_callG GPa gu hr (by rfl) gPa kPa bPa pass0 (pa_cons (pv 4) (pa_cons (pv 5) pa_nil))))) (pw_or1 (pt_not (pt_val (pe_callG GPa gu hr (by rfl) gPa kPa bPa pass0 (pa_cons (pv 5) (pa_cons (pv 6) pa_nil)))))))) (pss_one (ps_ret pe_bl)) pss_nil)
      (pss_cons (ps_if (pt_not (pt_val (pe_callG GPa gu hr (by rfl) gPa kPa bPa pass0 (pa_cons (pv 4) (pa_cons (pv 4) pa_nil))))) (pss_one (ps_ret pe_bl)) pss_nil)
      (pss_one (ps_if (PW.pt (pw_or (pt_not (pt_val (pe_callG GCh gu hr (by rfl) gCh kCh bCh pass0 (pa_cons (pv 2) (pa_cons (pv 4) pa_nil))))) (pw_or1 (pt_not (pt_val (pe_callG GCh gu hr (by rfl) gCh kCh bCh pass0 (pa_cons (pv 2) (pa_cons (pv 6) pa_nil)))))))) (pss_one (ps_ret pe_bl)) pss_nil))))))))))
      (pss_cons (ps_par (i := 7) (j := 8) (by rfl) scLaw.nd rfl rfl (by decide) rfl rfl (pa_cons (pe_makeAK (E := E0) G.Mm G.GI (hr.mono (by have := G.hI; omega)) (by rfl) G.gLa (L2N.passes_call L2N.takes0 (fun _ _ _ _ h => h)) (pa_cons pe_str pa_nil) (pk_cons (pe_tup (pa_cons pe_str pa_nil)) pk_nil)) (pa_cons (pe_makeAK (E := E0) G.Mm G.GI (hr.mono (by have := G.hI; omega)) (by rfl) G.gLa (L2N.passes_call L2N.takes0 (fun _ _ _ _ h => h)) (pa_cons pe_str (pa_cons pe_str pa_nil)) (pk_cons (pe_tup (pa_cons pe_str (pa_cons pe_str pa_nil))) pk_nil)) pa_nil)) (by rfl))
      (pss_cons (ps_if (PW.pt (pw_or (pt_cmpR (op_neO G.oE G.ne G.mo G.gE hr2 pass0) (pe_op (show OpR _ (binaryOp .BitOr) (rBinO D.C (spTwo K D.C D.CI D.CO (· ++ ·)) E0) from op_binO G.oS G.oF G.sf G.gOr hrk (L2N.passes_call L2N.takes0 (fun _ _ _ _ h => h))) (pv 7) (pv 8)) (pv 8) (nomark _)) (pw_or (pt_cmpR (op_neO G.oE G.ne G.mo G.gE hr2 pass0) (pe_op (show OpR _ (binaryOp .BitAnd) (rBinO D.C (spTwo K D.C D.CI D.CO inBoth) E0) from op_binO G.aS G.aF G.sf G.gAn hrk (L2N.passes_call L2N.takes0 (fun _ _ _ _ h => h))) (pv 7) (pv 8)) (pv 7) (nomark _)) (pw_or1 (pt_val (pe_meth (pv 8) G.L.cl G.mWi G.GWi hr1 G.bWi .nil pass0 (pa_cons (pv 7) pa_nil))))))) (pss_one (ps_ret pe_bl)) pss_nil)
      (pss_cons (ps_set (i := 9) scLaw.nd rfl (.inl rfl) (pe_makeAK (E := E0) G.Mm G.GI (hr.mono (by have := G.hI; omega)) (by rfl) G.gLa (L2N.passes_call L2N.takes0 (fun _ _ _ _ h => h)) (pa_cons pe_str pa_nil) (pk_cons (pe_tup (pa_cons pe_str pa_nil)) pk_nil)))
      (pss_cons (ps_if (PW.pt (pw_or (pt_cmpR op_ne (pe_callB (call_lenO G.oL G.gL hr2 pass0) (by rfl) mLe PySem.boot_len (pa_cons (pe_methR (E := E0) (pv 8) G.L.cl G.mOu G.gOu hrk (L2N.passes_call L2N.takes0 (fun _ _ _ _ h => h)) (pa_cons pe_str pa_nil)) pa_nil)) pe_int (nomark _)) (pw_or (pt_val (pe_meth (pv 9) G.L.cl G.mWi G.GWi hr1 G.bWi .nil pass0 (pa_cons (pv 8) pa_nil))) (pw_or1 (pt_not (pt_val (pe_meth (pv 7) G.L.cl G.mWi G.GWi hr1 G.bWi .nil pass0 (pa_cons (pv 8) pa_nil)))))))) (pss_one (ps_ret pe_bl)) pss_nil)
      (pss_one (ps_ret (pe_cmpR (op_eqD hu) (pe_prop (pe_op (show OpR _ (binaryOp .BitAnd) (rBinO D.C (spTwo K D.C D.CI D.CO inBoth) E0) from op_binO G.aS G.aF G.sf G.gAn hrk (L2N.passes_call L2N.takes0 (fun _ _ _ _ h => h))) (pv 9) (pe_makeAK (E := E0) G.Mm G.GI (hr.mono (by have := G.hI; omega)) (by rfl) G.gLa (L2N.passes_call L2N.takes0 (fun _ _ _ _ h => h)) (pa_cons pe_str pa_nil) (pk_cons (pe_tup (pa_cons pe_str (pa_cons pe_str pa_nil))) pk_nil))) G.L.cl G.pMk G.GMk hr2 G.bMk .nil pass0 (by rfl)) (pe_tup pa_nil) (nomark _))))))))), ?_⟩
    -- the draws
    refine ⟨.ref a, rfl, a, _, rfl, .inl hS, 6, _, rfl, 1, _, rfl, ?_⟩
    obtain ⟨N, eN⟩ : ∃ N : Int, N = (if (if ((ns.map V.int).length : Int) < 6 then ((ns.map V.int).length : Int) else 6) > 1 then (if ((ns.map V.int).length : Int) < 6 then ((ns.map V.int).length : Int) else 6) else 1) := ⟨_, rfl⟩
    rw [← eN]
    have n1 : 1 ≤ N ∧ N ≤ 6 := by
      rw [eN]
      split <;> split <;> omega
    refine ⟨N, rfl, by omega, by omega, for_range (n := N.toNat) (fun i σ H' => ∃ o1 o2 o3 o4 o5 o6 : Option V, σ = [some (.ref a), o1, o2, o3, o4, o5, o6, none, none, none] ∧ SqL K H' a (ns.map V.int) ∧ Tabs T H') ⟨none, none, none, none, none, none, rfl, hS, tb⟩ ?_ ?_⟩
    · rintro i σ H1 hi ⟨o1, o2, o3, o4, o5, o6, rfl, hS1, tb1⟩
      refine ⟨.ref a, rfl, _, rfl, a, ns, _, rfl, hS1, by omega, by omega, fun d H2 s2 nd dc => ?_⟩
      refine ⟨2, rfl, by decide, by decide, for_range (n := 2) (fun j σ H' => ∃ o3 o4 o5 o6 : Option V, σ = [some (.ref a), some (.int (0 + (i : Int))), some (.ref d), o3, o4, o5, o6, none, none, none] ∧ KpD d H2 H' ∧ Dice H' d ∧ Tabs T H') ⟨_, _, _, _, rfl, KpD.refl d H2, dc, tb1.same s2⟩ ?_ ?_⟩
      · rintro j σ H3 hj ⟨o3, o4, o5, o6, rfl, kp3, d3, tb3⟩
        refine ⟨.ref d, rfl, d, rfl, d3, fun p pm pk ms ks H4 r4 d4 a4 => ?_⟩
        refine ⟨.ref d, rfl, d, rfl, d4, fun p' pm' pk' ms' ks' H5 r5 d5 b5 => ⟨_, _, rfl, ?_⟩⟩
        refine ⟨.ref d, rfl, d, rfl, d5, fun p'' pm'' pk'' ms'' ks'' H6 r6 d6 c6 => ?_⟩
        have k56 := r6.kpd.kept d5
        have a6 := a4.kept ((r5.kpd.kept d4).trans k56)
        have b6 := b5.kept k56
        have tb6 := ((tb3.nr r4 d3).nr r5 d4).nr r6 d5
        have kp6 := kp3.trans (r4.kpd.trans (r5.kpd.trans r6.kpd))
        refine ⟨.ref p, rfl, .ref p', rfl, p, pm, pk, p', pm', pk', ms, ks, ms', ks', rfl, a6, b6, tb6, fun H7 e7 t7 => ⟨true, rfl, iteF ?_⟩⟩
        refine ⟨.ref p', rfl, .ref p'', rfl, p', pm', pk', p'', pm'', pk'', ms', ks', ms'', ks'', rfl, b6.kept e7.kept, c6.kept e7.kept, t7, fun H8 e8 t8 => ⟨true, rfl, iteF ?_⟩⟩
        have k8 := e7.kept.trans e8.kept
        refine ⟨.ref p, rfl, .ref p, rfl, p, pm, pk, p, pm, pk, ms, ks, ms, ks, rfl, a6.kept k8, a6.kept k8, t8, fun H9 e9 t9 => ⟨true, rfl, iteF ?_⟩⟩
        have k9 := k8.trans e9.kept
        have d9 : Dice H9 d := dice_ext (dice_ext (dice_ext d6 e7) e8) e9
        have kp9 := kp6.trans (e7.kpd.trans (e8.kpd.trans e9.kpd))
        refine ⟨.ref d, rfl, .ref p, rfl, d, p, pm, pk, ms, ks, rfl, d9, a6.kept k9, t9, fun H10 kp10 d10 t10 => ⟨true, rfl, iteF ?_⟩⟩
        refine ⟨.ref d, rfl, .ref p'', rfl, d, p'', pm'', pk'', ms'', ks'', rfl, d10, c6.kept (k9.trans (kp10.kept d9)), t10, fun H11 kp11 d11 t11 => ⟨true, rfl, iteF ⟨_, _, _, _, rfl, kp9.trans (kp10.trans kp11), d11, t11⟩⟩⟩
      · rintro σ H3 ⟨o3, o4, o5, o6, rfl, kp3, d3, tb3⟩
        exact ⟨_, _, _, _, _, _, rfl, sql_kept hS1 nd s2 kp3, tb3⟩
    rintro σ H1 ⟨o1, o2, o3, o4, o5, o6, rfl, hS1, tb1⟩
    clear hS1 hS eN n1 tb tb1
    -- low and high
    have oneN : ∀ z : Str, canon [z] = [z] := fun z => canon_self (List.nodup_cons.mpr ⟨List.not_mem_nil, List.nodup_nil⟩) (List.pairwise_cons.mpr ⟨fun _ h => (nomatch h), .nil⟩)
    have cAB : canon (["b", "a"] : List Str) = (["a", "b"] : List Str) := canon_to (by decide +kernel) (by decide +kernel) (by decide +kernel) (by decide +kernel)
    have cBO : canon (["of", "by"] : List Str) = (["by", "of"] : List Str) := canon_to (by decide +kernel) (by decide +kernel) (by decide +kernel) (by decide +kernel)
    have nA : Nms ["a"] := by unfold Nms; decide +kernel
    have nB : Nms ["by"] := by unfold Nms; decide +kernel
    have nAB : Nms ["a", "b"] := by unfold Nms; decide +kernel
    have nBO : Nms ["by", "of"] := by unfold Nms; decide +kernel
    have nO : Nms ["of"] := by unfold Nms; decide +kernel
    refine ⟨by show 1 ≤ sizeLine; decide, fun t1 m1 => ?_⟩
    have e2 : (upd H1 t1 (.tup [.str "by"])) t1 = some (.tup [.str "by"]) := upd_same
    have s2 : Same H1 (upd H1 t1 (.tup [.str "by"])) := same_new m1
    generalize upd H1 t1 (.tup [.str "by"]) = H2 at *
    refine ⟨rfl, fun x dx nx ndx nxd => ⟨H2, x, dx, _, _, rfl, rfl, rfl, nx, ndx, nxd, makes_names (ms := ["a"]) (ks := ["by"]) (tup_of e2) (by decide +kernel) (by decide +kernel) (by decide) (by decide) (ok_small (by decide) (by decide) (by decide) (by decide +kernel)) ?_⟩⟩
    intro H3 s3 la0
    refine ⟨rfl, ?_⟩
    have lx : LangAt D.C H3 x (canon ["a"]) (canon ["by"]) := la0
    rw [oneN, oneN] at lx
    clear la0 nx ndx nxd
    refine ⟨by show 2 ≤ sizeLine; decide, fun t2 m2 => ?_⟩
    have e4 : (upd H3 t2 (.tup [.str "of", .str "by"])) t2 = some (.tup [.str "of", .str "by"]) := upd_same
    have s4 : Same H3 (upd H3 t2 (.tup [.str "of", .str "by"])) := same_new m2
    generalize upd H3 t2 (.tup [.str "of", .str "by"]) = H4 at *
    refine ⟨rfl, fun y dy ny ndy nyd => ⟨H4, y, dy, _, _, rfl, rfl, rfl, ny, ndy, nyd, makes_names (ms := ["b", "a"]) (ks := ["of", "by"]) (tup_of e4) (by decide +kernel) (by decide +kernel) (by decide) (by decide) (ok_small (by decide) (by decide) (by decide) (by decide +kernel)) ?_⟩⟩
    intro H5 s5 la0
    refine ⟨rfl, _, _, rfl, ?_⟩
    have ly : LangAt D.C H5 y (canon ["b", "a"]) (canon ["of", "by"]) := la0
    rw [cAB, cBO] at ly
    have lx5 := lx.same (s4.trans s5)
    clear la0 ny ndy nyd lx m1 s2 e2 s3 m2 s4 e4 s5
    obtain ⟨ex, fx, _, _, gx, -, -, -, -, hfx⟩ := id lx5
    obtain ⟨ey, fy, _, _, gy, -, -, -, -, hfy⟩ := id ly
    -- low | high != high
    refine ⟨.ref x, rfl, .ref y, rfl, x, ex, fx, y, ey, fy, rfl, rfl, gx, gy, x, .ref y, _, _, rfl, lx5, nA, nB, by decide, by decide, .inr ⟨y, _, _, rfl, ly, nAB, nBO, by decide, by decide, fun _ z H6 s6 _ lz => ?_, fun c => ?_⟩⟩
    rotate_left
    · rw [show langOk ((["a"] : List Str) ++ (["a", "b"] : List Str)) ((["by"] : List Str) ++ (["by", "of"] : List Str)) = true from ok_small (by decide) (by decide) (by decide) (by decide +kernel)] at c
      cases c
    rw [canon_to (zs := (["a"] : List Str) ++ (["a", "b"] : List Str)) (ys := ["a", "b"]) (by decide +kernel) (by decide +kernel) (by decide +kernel) (by decide +kernel), canon_to (zs := (["by"] : List Str) ++ (["by", "of"] : List Str)) (ys := ["by", "of"]) (by decide +kernel) (by decide +kernel) (by decide +kernel) (by decide +kernel)] at lz
    obtain ⟨ez, fz, _, _, gz, -, -, -, -, -⟩ := id lz
    have ly6 := ly.same s6
    refine ⟨z, rfl, .ref y, rfl, z, ez, fz, .ref D.C, rfl, gz, TyL.ins (s6 _ _ gy), G.nC, z, .ref y, _, _, rfl, lz, nAB, nBO, .inr ⟨y, _, _, rfl, ly6, nAB, nBO, _, rfl, false, by decide +kernel, iteF ?_⟩⟩
    -- low & high != low
    have lx6 := lx5.same s6
    refine ⟨.ref x, rfl, .ref y, rfl, x, ex, fx, y, ey, fy, rfl, rfl, s6 _ _ gx, s6 _ _ gy, x, .ref y, _, _, rfl, lx6, nA, nB, by decide, by decide, .inr ⟨y, _, _, rfl, ly6, nAB, nBO, by decide, by decide, fun _ v H7 s7 _ lv => ?_, fun c => ?_⟩⟩
    rotate_left
    · rw [show inBoth (["a"] : List Str) ["a", "b"] = (["a"] : List Str) by decide +kernel, show inBoth (["by"] : List Str) ["by", "of"] = (["by"] : List Str) by decide +kernel, ok_small (by decide) (by decide) (by decide) (by decide +kernel)] at c
      cases c
    rw [show inBoth (["a"] : List Str) ["a", "b"] = (["a"] : List Str) by decide +kernel, show inBoth (["by"] : List Str) ["by", "of"] = (["by"] : List Str) by decide +kernel, oneN, oneN] at lv
    obtain ⟨ev, fv, _, _, gv, -, -, -, -, -⟩ := id lv
    have lx7 := lx6.same s7
    have ly7 := ly6.same s7
    have S7 := s6.trans s7
    refine ⟨v, rfl, .ref x, rfl, v, ev, fv, .ref D.C, rfl, gv, TyL.ins (S7 _ _ gx), G.nC, v, .ref x, _, _, rfl, lv, nA, nB, .inr ⟨x, _, _, rfl, lx7, nA, nB, _, rfl, false, by decide +kernel, iteF ?_⟩⟩
    -- high within low
    refine ⟨.ref y, rfl, y, ey, fy, rfl, S7 _ _ gy, look_none hfy (by decide +kernel), .ref x, rfl, y, .ref x, _, _, rfl, ly7, by decide, by decide, .inr ⟨x, _, _, rfl, lx7, fun H8 s8 => ⟨false, by decide +kernel, iteF ?_⟩⟩⟩
    have S8 := S7.trans s8
    have lx8 := lx7.same s8
    have ly8 := ly7.same s8
    have gx8 := S8 _ _ gx
    have gy8 := S8 _ _ gy
    clear lz gz ly6 lx6 lv gv lx7 ly7 S7 s6 s7 s8 S8 lx5 ly gx gy
    -- far
    refine ⟨by show 1 ≤ sizeLine; decide, fun t1 m1 => ?_⟩
    have e9 : (upd H8 t1 (.tup [.str "of"])) t1 = some (.tup [.str "of"]) := upd_same
    have s9 : Same H8 (upd H8 t1 (.tup [.str "of"])) := same_new m1
    generalize upd H8 t1 (.tup [.str "of"]) = H9 at *
    refine ⟨rfl, fun u du nu ndu nud => ⟨H9, u, du, _, _, rfl, rfl, rfl, nu, ndu, nud, makes_names (ms := ["by"]) (ks := ["of"]) (tup_of e9) (by decide +kernel) (by decide +kernel) (by decide) (by decide) (ok_small (by decide) (by decide) (by decide) (by decide +kernel)) ?_⟩⟩
    intro H10 s10 la0
    refine ⟨rfl, ?_⟩
    have lu : LangAt D.C H10 u (canon ["by"]) (canon ["of"]) := la0
    rw [oneN, oneN] at lu
    clear la0 nu ndu nud
    have S10 := s9.trans s10
    have lxA := lx8.same S10
    have lyA := ly8.same S10
    have gxA := S10 _ _ gx8
    have gyA := S10 _ _ gy8
    obtain ⟨eu, fu, _, _, gu', -, -, -, -, hfu⟩ := id lu
    clear lx8 ly8 gx8 gy8 S10 m1 s9 e9 s10
    -- len(high.without("a"))
    refine ⟨.ref y, rfl, y, ey, fy, rfl, gyA, look_none hfy (by decide +kernel), ⟨[.ref y], [.str "a"], rfl, rfl, by show 1 ≤ sizeLine; decide, fun p1 np1 => ?_⟩⟩
    have e11 : (upd H10 p1 (.tup [.str "a"])) p1 = some (.tup [.str "a"]) := upd_same
    have s11 : Same H10 (upd H10 p1 (.tup [.str "a"])) := same_new np1
    generalize upd H10 p1 (.tup [.str "a"]) = H11 at *
    refine ⟨y, p1, ["a"], _, _, rfl, tup_of e11, lyA.same s11, nAB, nBO, by decide, by decide, by show 1 ≤ 20; decide, by decide +kernel, ?_⟩
    rw [show notIn (["a", "b"] : List Str) ["a"] = (["b"] : List Str) by decide +kernel, show notIn (["by", "of"] : List Str) ["a"] = (["by", "of"] : List Str) by decide +kernel]
    refine ⟨fun _ z H12 s12 _ lz => ?_, fun c => ?_⟩
    rotate_left
    · rw [ok_small (by decide) (by decide) (by decide) (by decide +kernel)] at c
      cases c
    rw [oneN, canon_self (by decide +kernel) (by decide +kernel)] at lz
    obtain ⟨ez, fz, _, _, gz, -, -, -, -, -⟩ := id lz
    refine ⟨z, ez, fz, rfl, gz, z, _, _, rfl, lz, by decide, fun H13 s13 => ⟨3, rfl, by decide, by decide, rfl, false, by decide, iteF ?_⟩⟩
    have S13 := s11.trans (s12.trans s13)
    -- far within high, low within high
    refine ⟨.ref u, rfl, u, eu, fu, rfl, S13 _ _ gu', look_none hfu (by decide +kernel), .ref y, rfl, u, .ref y, _, _, rfl, lu.same S13, by decide, by decide, .inr ⟨y, _, _, rfl, lyA.same S13, fun H14 s14 => ⟨false, by decide +kernel, iteF ?_⟩⟩⟩
    have S14 := S13.trans s14
    refine ⟨.ref x, rfl, x, ex, fx, rfl, S14 _ _ gxA, look_none hfx (by decide +kernel), .ref y, rfl, x, .ref y, _, _, rfl, lxA.same S14, by decide, by decide, .inr ⟨y, _, _, rfl, lyA.same S14, fun H15 s15 => ⟨true, by decide +kernel, iteF ?_⟩⟩⟩
    have S15 := S14.trans s15
    -- far & ..
    refine ⟨.ref u, rfl, by show 2 ≤ sizeLine; decide, fun t3 m3 => ?_⟩
    have e16 : (upd H15 t3 (.tup [.str "by", .str "of"])) t3 = some (.tup [.str "by", .str "of"]) := upd_same
    have s16 : Same H15 (upd H15 t3 (.tup [.str "by", .str "of"])) := same_new m3
    generalize upd H15 t3 (.tup [.str "by", .str "of"]) = H16 at *
    refine ⟨rfl, fun v dv nv ndv nvd => ⟨H16, v, dv, _, _, rfl, rfl, rfl, nv, ndv, nvd, makes_names (ms := ["a"]) (ks := ["by", "of"]) (tup_of e16) (by decide +kernel) (by decide +kernel) (by decide) (by decide) (ok_small (by decide) (by decide) (by decide) (by decide +kernel)) ?_⟩⟩
    intro H17 s17 la0
    refine ⟨rfl, ?_⟩
    have lv : LangAt D.C H17 v (canon ["a"]) (canon ["by", "of"]) := la0
    rw [oneN, canon_self (by decide +kernel) (by decide +kernel)] at lv
    have S17 := S15.trans (s16.trans s17)
    obtain ⟨ev, fv, _, _, gv, -, -, -, -, -⟩ := id lv
    refine ⟨u, eu, fu, v, ev, fv, rfl, rfl, S17 _ _ gu', gv, u, .ref v, _, _, rfl, lu.same S17, nB, nO, by decide, by decide, .inr ⟨v, _, _, rfl, lv, nA, nBO, by decide, by decide, ?_⟩⟩
    rw [show inBoth (["by"] : List Str) ["a"] = ([] : List Str) by decide +kernel, show inBoth (["of"] : List Str) ["by", "of"] = (["of"] : List Str) by decide +kernel]
    refine ⟨fun _ z2 H18 s18 _ lz2 => ?_, fun c => ?_⟩
    rotate_left
    · rw [ok_small (by decide) (by decide) (by decide) (by decide +kernel)] at c
      cases c
    rw [canon_self (ys := []) (by decide +kernel) (by decide +kernel)] at lz2
    obtain ⟨e2, f2, _, _, g2, -, -, -, -, -⟩ := id lz2
    refine ⟨z2, rfl, z2, e2, f2, rfl, g2, z2, _, _, rfl, lz2, fun pw hpw => ?_⟩
    have hpw' : H18 pw = some (.tup (([] : List Str).map V.str)) := hpw
    refine ⟨by show 0 ≤ sizeLine; decide, fun t5 m5 => ?_⟩
    have e19 : (upd H18 t5 (.tup [])) t5 = some (.tup []) := upd_same
    have s19 : Same H18 (upd H18 t5 (.tup [])) := same_new m5
    generalize upd H18 t5 (.tup []) = H19 at *
    refine ⟨.tuple (dS []), .tuple (dS []), dp_tuple (zs := []) (tup_of (s19 _ _ hpw')), dp_tuple (zs := []) (tup_of e19), shaped_tuple (zs := []) (by intro z hz; cases hz), shaped_tuple (zs := []) (by intro z hz; cases hz), ?_⟩
    rw [eqv_tuples]
    exact q _
end
end Tf

/-! the end: what the written part tells -/
namespace Tf
open PySem PySem.Spec PyProof.Rows L2 ClX LamX TfG
theorem kit_ref {K : PySem.W.Frag} {t : Value} {C : Addr} {b : Bool} (hc : PySem.W.isClsIn K C = true) (ht : PySem.W.typeIn K (.ref C) = some (.type "type")) (hne : (t == Value.ref C) = false) (h : PySem.W.subIn K t (.ref C) = some b) : PySem.W.kitOne K t (.ref C) = some b := by
  have e2 : ((PySem.W.clsIn K C).isSome && PySem.W.typeIn K (.ref C) == some (.type "type")) = true := by
    have h2' : (PySem.W.clsIn K C).isSome = true := hc
    rw [h2', ht] <;> rfl
  unfold PySem.W.kitOne PySem.W.kitCls
  rw [hne, if_neg Bool.false_ne_true]
  show (if ((PySem.W.clsIn K C).isSome && PySem.W.typeIn K (.ref C) == some (.type "type")) = true then PySem.W.subIn K t (.ref C) else none) = some b
  rw [if_pos e2]
  exact h
theorem kit_refT {K : PySem.W.Frag} {t : Value} {C : Addr} (hc : PySem.W.isClsIn K C = true) (ht : PySem.W.typeIn K (.ref C) = some (.type "type")) (h : PySem.W.subIn K t (.ref C) = some true) : PySem.W.kitOne K t (.ref C) = some true := by
  cases e : (t == Value.ref C) with
  | false => exact kit_ref hc ht e h
  | true =>
    unfold PySem.W.kitOne
    rw [e, if_pos rfl]
theorem kit_refB {K : PySem.W.Frag} {C : Addr} {T : String} {b : Bool} (hm : PySem.W.kitMeta T = true) (h : PySem.W.subIn K (.ref C) (.type T) = some b) : PySem.W.kitOne K (.ref C) (.type T) = some b := by
  have e : (Value.ref C == Value.type T) = false := beq_eq_false_iff_ne.mpr (fun z => by cases z)
  unfold PySem.W.kitOne PySem.W.kitCls
  rw [e, if_neg Bool.false_ne_true]
  show (if PySem.W.kitMeta T = true then PySem.W.subIn K (.ref C) (.type T) else none) = some b
  rw [if_pos hm]
  exact h
theorem ty_ne (t : String) (C : Addr) : (Value.type t == Value.ref C) = false := beq_eq_false_iff_ne.mpr (fun z => by cases z)
theorem sup_in {K : PySem.W.Frag} {CI CT : Addr} {nm q : Str} {N : Addr} {bs : List Value} {sn : List Str} {sub : List Value} {ab : Bool} {col : Option Bool} {dd : Option Addr} {m0 m1 m2 m3 m5 : Option Value}
    (l : K.lookup CI = some (excClassObj nm q CI N bs (.ref CT :: veBm) true sn sub ab col dd m0 m1 m2 m3 m5 "ValueError.__new__")) (ne : CI ≠ CT) : PySem.W.ks_superIn K CI CT "__init__" = some (some (.builtin "ValueError.__init__")) := by
  unfold PySem.W.ks_superIn PySem.W.clsIn
  rw [l]
  show PySem.W.alongIn K "__init__" (((Value.ref CI :: Value.ref CT :: veBm).dropWhile (· != .ref CT)).drop 1) = _
  have e1 : (Value.ref CI != Value.ref CT) = true := bne_iff_ne.mpr (fun z => ne (Value.ref.inj z))
  have e2 : (Value.ref CT != Value.ref CT) = false := bne_self_eq_false _
  rw [List.dropWhile_cons_of_pos (by exact e1), List.dropWhile_cons_of_neg (by rw [e2]; exact Bool.false_ne_true)]
  show PySem.W.alongIn K "__init__" veBm = _
  have e3 : PySem.fastBuiltinOwn "ValueError" "__init__" = some (.builtin "ValueError.__init__") := by decide +kernel
  have e4 : PySem.W.ownIn K "__init__" (.type "ValueError") = some (some (.builtin "ValueError.__init__")) := congrArg some e3
  show PySem.W.alongIn K "__init__" (.type "ValueError" :: [.type "Exception", .type "BaseException", .type "object"]) = _
  unfold PySem.W.alongIn
  rw [e4]
theorem line_tree {CI CT : Addr} : PySem.TfKE.LineOk "ValueError" (Value.ref CI :: Value.ref CT :: veBm) := by
  refine ⟨?_, ?_, ?_⟩ <;> rw [List.contains_cons, ty_ne, List.contains_cons, ty_ne] <;> decide +kernel
theorem exm_two {K : PySem.W.Frag} {S S' : Addr} {b : Bool} (h1 : PySem.W.subIn K (.ref S') (.type "BaseException") = some true) (h2 : PySem.W.isClsIn K S' = true) (h3 : PySem.W.typeIn K (.ref S') = some (.type "type")) (h4 : PySem.W.subIn K (.ref S) (.ref S') = some b) : PySem.W.exmOne K (.ref S) (.ref S') = some b := by
  have e1 : (PySem.W.subIn K (.ref S') (.type "BaseException") == some true) = true := by rw [h1] <;> rfl
  have e2 : ((PySem.W.clsIn K S').isSome && PySem.W.typeIn K (.ref S') == some (.type "type")) = true := by
    have h2' : (PySem.W.clsIn K S').isSome = true := h2
    rw [h2', h3] <;> rfl
  unfold PySem.W.exmOne
  rw [if_pos e1]
  show (if ((PySem.W.clsIn K S').isSome && PySem.W.typeIn K (.ref S') == some (.type "type")) = true then PySem.W.subIn K (.ref S) (.ref S') else none) = some b
  rw [if_pos e2]
  exact h4
theorem rawN {P : Program} {w : World} {K : PySem.W.Frag} {mg : Str → Option Value} {base : Heap} {CX : CXT} {k : Nat} {f : Addr} {fd : FuncData} {ps : List Str} {sp : Sp} (F : FnOk P w K mg base CX k f fd ps sp) (hb : Binds K fd ps []) : FnR P w K mg base CX k f sp :=
  (F.raw hb .nil).imp fun vs H Q E h => by
    rw [List.append_nil]
    exact h
theorem all_mk {P : Program} {w : World} {K : PySem.W.Frag} {h : Heap} {mg : Str → Option Value} {fa : Addr} (X : K.In h) (G : h.Ns mainGlobals mg) (hfa : mg "law" = some (.ref fa)) {l : PySem.W.OpenLaw} (hP : l.prog = P)
    {rec : Str → Prop} (tab : ∀ (x : Str) (c P : Addr), rec x → PySem.W.tabIn K x = some (c, P) → PySem.W.CodeHd h c P ∧ h.get? P = some { cls := .none, data := .fields #[] }) (rc1 : rec "_law_pair_right") (rc2 : rec "_law_changes_right")
    {C CT pOf pMk pKi : Addr}
    {t8 t4 t9 ts : Tok} {rOf rMk rKi : List Value} {cdT : ClassData}
    {CI : Addr} {nmI qI : Str} {NI : Addr} {bsI : List Value} {snI : List Str} {subI : List Value} {abI : Bool} {colI : Option Bool} {ddI : Option Addr} {m0I m1I m2I m3I m5I : Option Value}
    {fI ccI cdaI : Addr} {ocI dcI pmI ctI cclI clI : Value} {odI anI cddI cldI : Option Addr} {slI ccsI cslI : Array (Option Value)} {vsI : Array Value} {p1I p2I q1I q2I q3I q4I q5I q6I : Pos} {fileI : Str} {tfI : Tok}
    {CO : Addr} {nmO qO : Str} {NO : Addr} {bsO : List Value} {snO : List Str} {subO : List Value} {abO : Bool} {colO : Option Bool} {ddO : Option Addr} {m0O m1O m2O m3O m5O : Option Value}
    {fO ccO cdaO : Addr} {ocO dcO pmO ctO cclO clO : Value} {odO anO cddO cldO : Option Addr} {slO ccsO cslO : Array (Option Value)} {vsO : Array Value} {p1O p2O q1O q2O q3O q4O q5O q6O : Pos} {fileO : Str} {tfO : Tok}
    {fNa : Addr} {odNa anNa : Option Addr} {slNa : Array (Option Value)} {ocNa kVNa dcNa pmNa cdNa ctNa : Value}
    {fDf : Addr} {odDf anDf : Option Addr} {slDf : Array (Option Value)} {ocDf kVDf dcDf pmDf cdDf ctDf : Value}
    {fLi : Addr} {odLi anLi : Option Addr} {slLi : Array (Option Value)} {ocLi kVLi dcLi pmLi cdLi ctLi : Value}
    {fDi : Addr} {odDi anDi : Option Addr} {slDi : Array (Option Value)} {ocDi kVDi dcDi pmDi cdDi ctDi : Value}
    {fRo : Addr} {odRo anRo : Option Addr} {slRo : Array (Option Value)} {ocRo kVRo dcRo pmRo cdRo ctRo : Value}
    {fPi : Addr} {odPi anPi : Option Addr} {slPi : Array (Option Value)} {ocPi kVPi dcPi pmPi cdPi ctPi : Value}
    {fMi : Addr} {odMi anMi : Option Addr} {slMi : Array (Option Value)} {ocMi kVMi dcMi pmMi cdMi ctMi : Value}
    {fSo : Addr} {odSo anSo : Option Addr} {slSo : Array (Option Value)} {ocSo kVSo dcSo pmSo cdSo ctSo : Value}
    {fPl : Addr} {odPl anPl : Option Addr} {slPl : Array (Option Value)} {ocPl kVPl dcPl pmPl cdPl ctPl : Value}
    {fCa : Addr} {odCa anCa : Option Addr} {slCa : Array (Option Value)} {ocCa kVCa dcCa pmCa cdCa ctCa : Value}
    {fIs : Addr} {odIs anIs : Option Addr} {slIs : Array (Option Value)} {ocIs kVIs dcIs pmIs cdIs ctIs : Value}
    {fPa cPa PPa : Addr} {odPa anPa oePa : Option Addr} {slPa sePa : Array (Option Value)} {ocPa kVPa dcPa pmPa ctPa vePa : Value} {vsPa : Array Value}
    {fCh cCh PCh : Addr} {odCh anCh oeCh : Option Addr} {slCh seCh : Array (Option Value)} {ocCh kVCh dcCh pmCh ctCh veCh : Value} {vsCh : Array Value}
    {fLa cLa PLa : Addr} {odLa anLa oeLa : Option Addr} {slLa seLa : Array (Option Value)} {ocLa kVLa dcLa pmLa ctLa veLa : Value} {vsLa : Array Value}
    {fIn : Addr} {odIn anIn : Option Addr} {slIn : Array (Option Value)} {ocIn kVIn dcIn pmIn cdIn ctIn : Value}
    {fOf : Addr} {odOf anOf : Option Addr} {slOf : Array (Option Value)} {ocOf kVOf dcOf pmOf cdOf ctOf : Value}
    {fMk : Addr} {odMk anMk : Option Addr} {slMk : Array (Option Value)} {ocMk kVMk dcMk pmMk cdMk ctMk : Value}
    {fKi : Addr} {odKi anKi : Option Addr} {slKi : Array (Option Value)} {ocKi kVKi dcKi pmKi cdKi ctKi : Value}
    {fWm : Addr} {odWm anWm : Option Addr} {slWm : Array (Option Value)} {ocWm kVWm dcWm pmWm cdWm ctWm : Value}
    {fWk : Addr} {odWk anWk : Option Addr} {slWk : Array (Option Value)} {ocWk kVWk dcWk pmWk cdWk ctWk : Value}
    {fOu : Addr} {odOu anOu : Option Addr} {slOu : Array (Option Value)} {ocOu kVOu dcOu pmOu cdOu ctOu : Value}
    {fWi : Addr} {odWi anWi : Option Addr} {slWi : Array (Option Value)} {ocWi kVWi dcWi pmWi cdWi ctWi : Value}
    {fOr : Addr} {odOr anOr : Option Addr} {slOr : Array (Option Value)} {ocOr kVOr dcOr pmOr cdOr ctOr : Value}
    {fAn : Addr} {odAn anAn : Option Addr} {slAn : Array (Option Value)} {ocAn kVAn dcAn pmAn cdAn ctAn : Value}
    {fEq : Addr} {odEq anEq : Option Addr} {slEq : Array (Option Value)} {ocEq kVEq dcEq pmEq cdEq ctEq : Value}
    {fHa : Addr} {odHa anHa : Option Addr} {slHa : Array (Option Value)} {ocHa kVHa dcHa pmHa cdHa ctHa : Value}
    {fLe : Addr} {odLe anLe : Option Addr} {slLe : Array (Option Value)} {ocLe kVLe dcLe pmLe cdLe ctLe : Value}
    (aC : PySem.W.nsIn K mainGlobals "Language" = some (some (.ref C)))
    (opq : PySem.W.nsIn K cStatics "thirdparty.any" = some none)
    (tS : (P.main.scope.names.lookup ("super" : Str)).isSome = false)
    (aI : PySem.W.nsIn K mainGlobals "InvalidLanguage" = some (some (.ref CI)))
    (xI : K.lookup CI = some (excClassObj nmI qI CI NI bsI (.ref CT :: veBm) true snI subI abI colI ddI m0I m1I m2I m3I m5I "ValueError.__new__"))
    (iI : PySem.W.findIn K (.ref CI) "__init__" = some (some (.ref fI)))
    (tfI' : PySem.W.typeIn K (.ref fI) = some (.type "function"))
    (kI : PySem.W.keepIn K (.ref CI) = true)
    (bI : PySem.W.subIn K (.ref CI) (.type "BaseException") = some true)
    (tI : PySem.W.typeIn K (.ref CI) = some (.type "type"))
    (vI : PySem.W.subIn K (.ref CI) (.type "ValueError") = some true)
    (lI : K.lookup fI = some ⟨ocI, odI, .func (PySem.W.ksFn "__init__" "TreeError.__init__" (PySem.TfS.iA "message" p1I p2I) (PySem.TfS.sB "message" q1I q2I q3I q4I q5I q6I :: []) (PySem.TfS.iS "message") .none .none dcI pmI anI (.ref cdaI) ctI ccI), slI⟩)
    (cI : PySem.W.codeIn K (.ref cdaI) "TreeError.__init__" = true)
    (lcI : K.lookup cdaI = some ⟨cclI, cddI, .fields vsI, ccsI⟩)
    (lvI : vsI[2]? = some (.str fileI tfI))
    (lfI : ((P.main.file : Str) == fileI) = true)
    (lxI : K.lookup ccI = some ⟨clI, cldI, .cell (some (.ref CT)), cslI⟩)
    (evI : ∀ env : Env, ∃ pl : Sem Bool, eval (PySem.TfS.cB "message" q1I q2I q3I q4I q5I) env = (do let ov ← attributeBase (.Call (.Name "super" q1I) [] [] q2I) "__init__" env (eval (.Call (.Name "super" q1I) [] [] q2I) env); standAt q3I.atName; let (f, first) ← holding [ov] (getMethod ov "__init__" pl); callWith q5I f first (backTo q5I (starEach [.Name "message" q4I] env)) []))
    (mI : PySem.W.mroIn K CI (.ref CT) = some true)
    (icI : PySem.W.isClsIn K CI = true)
    (aO : PySem.W.nsIn K mainGlobals "InvalidOperation" = some (some (.ref CO)))
    (xO : K.lookup CO = some (excClassObj nmO qO CO NO bsO (.ref CT :: veBm) true snO subO abO colO ddO m0O m1O m2O m3O m5O "ValueError.__new__"))
    (iO : PySem.W.findIn K (.ref CO) "__init__" = some (some (.ref fO)))
    (tfO' : PySem.W.typeIn K (.ref fO) = some (.type "function"))
    (kO : PySem.W.keepIn K (.ref CO) = true)
    (bO : PySem.W.subIn K (.ref CO) (.type "BaseException") = some true)
    (tO : PySem.W.typeIn K (.ref CO) = some (.type "type"))
    (vO : PySem.W.subIn K (.ref CO) (.type "ValueError") = some true)
    (lO : K.lookup fO = some ⟨ocO, odO, .func (PySem.W.ksFn "__init__" "TreeError.__init__" (PySem.TfS.iA "message" p1O p2O) (PySem.TfS.sB "message" q1O q2O q3O q4O q5O q6O :: []) (PySem.TfS.iS "message") .none .none dcO pmO anO (.ref cdaO) ctO ccO), slO⟩)
    (cO : PySem.W.codeIn K (.ref cdaO) "TreeError.__init__" = true)
    (lcO : K.lookup cdaO = some ⟨cclO, cddO, .fields vsO, ccsO⟩)
    (lvO : vsO[2]? = some (.str fileO tfO))
    (lfO : ((P.main.file : Str) == fileO) = true)
    (lxO : K.lookup ccO = some ⟨clO, cldO, .cell (some (.ref CT)), cslO⟩)
    (evO : ∀ env : Env, ∃ pl : Sem Bool, eval (PySem.TfS.cB "message" q1O q2O q3O q4O q5O) env = (do let ov ← attributeBase (.Call (.Name "super" q1O) [] [] q2O) "__init__" env (eval (.Call (.Name "super" q1O) [] [] q2O) env); standAt q3O.atName; let (f, first) ← holding [ov] (getMethod ov "__init__" pl); callWith q5O f first (backTo q5O (starEach [.Name "message" q4O] env)) []))
    (mO : PySem.W.mroIn K CO (.ref CT) = some true)
    (icO : PySem.W.isClsIn K CO = true)
    (cT : PySem.W.clsIn K CT = some cdT)
    (neI : CI ≠ CT)
    (neO : CO ≠ CT)
    (sII : PySem.W.subIn K (.ref CI) (.ref CI) = some true)
    (e5 : PySem.W.specialIn K (.builtin "object.__class__") "__get__" = some (some (.builtin "getset_descriptor.__get__")))
    (e6 : PySem.W.takesIn K (.builtin "object.__class__") = some true)
    (l1 : PySem.W.plainGet K C Str.empty = true)
    (l2 : PySem.W.hasDictIn K C = true)
    (l3 : PySem.W.plainOver K C = true)
    (l4 : PySem.W.findIn K (.ref C) "__setattr__" = some (some (.builtin "object.__setattr__")))
    (l5 : PySem.W.findIn K (.ref C) "own_marks" = some none)
    (l6 : PySem.W.findIn K (.ref C) "own_kinds" = some none)
    (l7 : PySem.W.makesIn K C = true)
    (l8' : PySem.W.keepIn K (.ref C) = true)
    (l9' : PySem.W.findIn K (.ref C) "__class__" = some (some (.builtin "object.__class__")))
    (la : PySem.W.mroIn K C (.type "object") = some true)
    (lb : PySem.W.subIn K (.ref C) (.type "tuple") = some false)
    (le : PySem.W.isClsIn K C = true)
    (lg : PySem.W.typeIn K (.ref C) = some (.type "type"))
    (sf : PySem.W.selfFirst K C = true)
    (ld : PySem.W.findIn K (.ref C) "__ne__" = some (some (.builtin "object.__ne__")))
    (s0 : PySem.W.subIn K (.type "NoneType") (.ref C) = some false)
    (n0 : PySem.W.notFirst K C (.type "NoneType") = true)
    (s1 : PySem.W.subIn K (.type "bool") (.ref C) = some false)
    (n1 : PySem.W.notFirst K C (.type "bool") = true)
    (s2 : PySem.W.subIn K (.type "int") (.ref C) = some false)
    (n2 : PySem.W.notFirst K C (.type "int") = true)
    (s3 : PySem.W.subIn K (.type "str") (.ref C) = some false)
    (n3 : PySem.W.notFirst K C (.type "str") = true)
    (s4 : PySem.W.subIn K (.type "list") (.ref C) = some false)
    (n4 : PySem.W.notFirst K C (.type "list") = true)
    (s5 : PySem.W.subIn K (.type "tuple") (.ref C) = some false)
    (n5 : PySem.W.notFirst K C (.type "tuple") = true)
    (s6 : PySem.W.subIn K (.type "dict") (.ref C) = some false)
    (n6 : PySem.W.notFirst K C (.type "dict") = true)
    (nC : PySem.W.notFirst K C (.ref C) = true)
    (r1' : PySem.W.readsIn K C (.type "type") = true)
    (r2' : PySem.W.specialIn K (.ref C) "__getattribute__" = some (some (.builtin "type.__getattribute__")))
    (r3' : PySem.W.findCls K (.ref C) (.type "type") "of" = some (.get (.builtin "classmethod.__get__") (.ref pOf) .none (.ref C)))
    (r4' : PySem.W.recIn K pOf "classmethod" = some (.ref fOf :: rOf))
    (r5' : PySem.W.fnIn K fOf = true)
    (u1Mk : PySem.W.findIn K (.ref C) "marks" = some (some (.ref pMk)))
    (u2Mk : PySem.W.specialIn K (.ref pMk) "__get__" = some (some (.builtin "property.__get__")))
    (u3Mk : PySem.W.takesIn K (.ref pMk) = some true)
    (u4Mk : PySem.W.recIn K pMk "property" = some (.ref fMk :: rMk))
    (u1Ki : PySem.W.findIn K (.ref C) "kinds" = some (some (.ref pKi)))
    (u2Ki : PySem.W.specialIn K (.ref pKi) "__get__" = some (some (.builtin "property.__get__")))
    (u3Ki : PySem.W.takesIn K (.ref pKi) = some true)
    (u4Ki : PySem.W.recIn K pKi "property" = some (.ref fKi :: rKi))
    (v1In : PySem.W.findIn K (.ref C) "__init__" = some (some (.ref fIn)))
    (v2In : PySem.W.isFn K (.ref fIn) = true)
    (v1Wm : PySem.W.findIn K (.ref C) "with_marks" = some (some (.ref fWm)))
    (v2Wm : PySem.W.isFn K (.ref fWm) = true)
    (v1Wk : PySem.W.findIn K (.ref C) "with_kinds" = some (some (.ref fWk)))
    (v2Wk : PySem.W.isFn K (.ref fWk) = true)
    (v1Ou : PySem.W.findIn K (.ref C) "without" = some (some (.ref fOu)))
    (v2Ou : PySem.W.isFn K (.ref fOu) = true)
    (v1Wi : PySem.W.findIn K (.ref C) "is_within" = some (some (.ref fWi)))
    (v2Wi : PySem.W.isFn K (.ref fWi) = true)
    (v1Or : PySem.W.findIn K (.ref C) "__or__" = some (some (.ref fOr)))
    (v2Or : PySem.W.isFn K (.ref fOr) = true)
    (v1An : PySem.W.findIn K (.ref C) "__and__" = some (some (.ref fAn)))
    (v2An : PySem.W.isFn K (.ref fAn) = true)
    (v1Eq : PySem.W.findIn K (.ref C) "__eq__" = some (some (.ref fEq)))
    (v2Eq : PySem.W.isFn K (.ref fEq) = true)
    (v1Ha : PySem.W.findIn K (.ref C) "__contains__" = some (some (.ref fHa)))
    (v2Ha : PySem.W.isFn K (.ref fHa) = true)
    (v1Le : PySem.W.findIn K (.ref C) "__len__" = some (some (.ref fLe)))
    (v2Le : PySem.W.isFn K (.ref fLe) = true)
    (w0Na : PySem.W.nsIn K mainGlobals "is_name" = some (some (.ref fNa)))
    (w1Na : K.lookup fNa = some ⟨ocNa, odNa, .func (PySem.W.fnOf "is_name" "is_name" (defArgs sName) (defBody sName) (defScope sName) .none kVNa dcNa pmNa anNa cdNa ctNa), slNa⟩)
    (w2Na : PySem.W.codeIn K cdNa "is_name" = true)
    (w3Na : PySem.W.keepIn K (.ref fNa) = true)
    (w0Df : PySem.W.nsIn K mainGlobals "different_names" = some (some (.ref fDf)))
    (w1Df : K.lookup fDf = some ⟨ocDf, odDf, .func (PySem.W.fnOf "different_names" "different_names" (defArgs sDiff) (defBody sDiff) (defScope sDiff) .none kVDf dcDf pmDf anDf cdDf ctDf), slDf⟩)
    (w2Df : PySem.W.codeIn K cdDf "different_names" = true)
    (w3Df : PySem.W.keepIn K (.ref fDf) = true)
    (w0Li : PySem.W.nsIn K mainGlobals "language_in" = some (some (.ref fLi)))
    (w1Li : K.lookup fLi = some ⟨ocLi, odLi, .func (PySem.W.fnOf "language_in" "language_in" (defArgs sLin) (defBody sLin) (defScope sLin) .none kVLi dcLi pmLi anLi cdLi ctLi), slLi⟩)
    (w2Li : PySem.W.codeIn K cdLi "language_in" = true)
    (w3Li : PySem.W.keepIn K (.ref fLi) = true)
    (w0Di : PySem.W.nsIn K mainGlobals "_law_dice" = some (some (.ref fDi)))
    (w1Di : K.lookup fDi = some ⟨ocDi, odDi, .func (PySem.W.fnOf "_law_dice" "_law_dice" (defArgs sDice) (defBody sDice) (defScope sDice) .none kVDi dcDi pmDi anDi cdDi ctDi), slDi⟩)
    (w2Di : PySem.W.codeIn K cdDi "_law_dice" = true)
    (w3Di : PySem.W.keepIn K (.ref fDi) = true)
    (w0Ro : PySem.W.nsIn K mainGlobals "_law_roll" = some (some (.ref fRo)))
    (w1Ro : K.lookup fRo = some ⟨ocRo, odRo, .func (PySem.W.fnOf "_law_roll" "_law_roll" (defArgs sRoll) (defBody sRoll) (defScope sRoll) .none kVRo dcRo pmRo anRo cdRo ctRo), slRo⟩)
    (w2Ro : PySem.W.codeIn K cdRo "_law_roll" = true)
    (w3Ro : PySem.W.keepIn K (.ref fRo) = true)
    (w0Pi : PySem.W.nsIn K mainGlobals "_law_pick" = some (some (.ref fPi)))
    (w1Pi : K.lookup fPi = some ⟨ocPi, odPi, .func (PySem.W.fnOf "_law_pick" "_law_pick" (defArgs sPick) (defBody sPick) (defScope sPick) .none kVPi dcPi pmPi anPi cdPi ctPi), slPi⟩)
    (w2Pi : PySem.W.codeIn K cdPi "_law_pick" = true)
    (w3Pi : PySem.W.keepIn K (.ref fPi) = true)
    (w0Mi : PySem.W.nsIn K mainGlobals "_law_mixed" = some (some (.ref fMi)))
    (w1Mi : K.lookup fMi = some ⟨ocMi, odMi, .func (PySem.W.fnOf "_law_mixed" "_law_mixed" (defArgs sMixed) (defBody sMixed) (defScope sMixed) .none kVMi dcMi pmMi anMi cdMi ctMi), slMi⟩)
    (w2Mi : PySem.W.codeIn K cdMi "_law_mixed" = true)
    (w3Mi : PySem.W.keepIn K (.ref fMi) = true)
    (w0So : PySem.W.nsIn K mainGlobals "_law_some" = some (some (.ref fSo)))
    (w1So : K.lookup fSo = some ⟨ocSo, odSo, .func (PySem.W.fnOf "_law_some" "_law_some" (defArgs sSome) (defBody sSome) (defScope sSome) .none kVSo dcSo pmSo anSo cdSo ctSo), slSo⟩)
    (w2So : PySem.W.codeIn K cdSo "_law_some" = true)
    (w3So : PySem.W.keepIn K (.ref fSo) = true)
    (w0Pl : PySem.W.nsIn K mainGlobals "_law_plain" = some (some (.ref fPl)))
    (w1Pl : K.lookup fPl = some ⟨ocPl, odPl, .func (PySem.W.fnOf "_law_plain" "_law_plain" (defArgs sPlain) (defBody sPlain) (defScope sPlain) .none kVPl dcPl pmPl anPl cdPl ctPl), slPl⟩)
    (w2Pl : PySem.W.codeIn K cdPl "_law_plain" = true)
    (w3Pl : PySem.W.keepIn K (.ref fPl) = true)
    (w0Ca : PySem.W.nsIn K mainGlobals "_law_can_be" = some (some (.ref fCa)))
    (w1Ca : K.lookup fCa = some ⟨ocCa, odCa, .func (PySem.W.fnOf "_law_can_be" "_law_can_be" (defArgs sCan) (defBody sCan) (defScope sCan) .none kVCa dcCa pmCa anCa cdCa ctCa), slCa⟩)
    (w2Ca : PySem.W.codeIn K cdCa "_law_can_be" = true)
    (w3Ca : PySem.W.keepIn K (.ref fCa) = true)
    (w0Is : PySem.W.nsIn K mainGlobals "_law_is_right" = some (some (.ref fIs)))
    (w1Is : K.lookup fIs = some ⟨ocIs, odIs, .func (PySem.W.fnOf "_law_is_right" "_law_is_right" (defArgs sIsr) (defBody sIsr) (defScope sIsr) .none kVIs dcIs pmIs anIs cdIs ctIs), slIs⟩)
    (w2Is : PySem.W.codeIn K cdIs "_law_is_right" = true)
    (w3Is : PySem.W.keepIn K (.ref fIs) = true)
    (w0Pa : PySem.W.nsIn K mainGlobals "_law_pair_right" = some (some (.ref fPa)))
    (w1Pa : K.lookup fPa = some ⟨ocPa, odPa, .func (PySem.W.fnOf "_law_pair_right" "_law_pair_right" (defArgs sPair) (defBody sPair) (defScope sPair) .none kVPa dcPa pmPa anPa (.ref cPa) ctPa), slPa⟩)
    (w2Pa : PySem.W.codeIn K (.ref cPa) "_law_pair_right" = true)
    (w3Pa : PySem.W.keepIn K (.ref fPa) = true)
    (w4Pa : K.lookup cPa = some ⟨vePa, oePa, .fields vsPa, sePa⟩)
    (w5Pa : vsPa[11]? = some (.ref PPa))
    (w6Pa : K.lookup PPa = none)
    (w0Ch : PySem.W.nsIn K mainGlobals "_law_changes_right" = some (some (.ref fCh)))
    (w1Ch : K.lookup fCh = some ⟨ocCh, odCh, .func (PySem.W.fnOf "_law_changes_right" "_law_changes_right" (defArgs sChg) (defBody sChg) (defScope sChg) .none kVCh dcCh pmCh anCh (.ref cCh) ctCh), slCh⟩)
    (w2Ch : PySem.W.codeIn K (.ref cCh) "_law_changes_right" = true)
    (w3Ch : PySem.W.keepIn K (.ref fCh) = true)
    (w4Ch : K.lookup cCh = some ⟨veCh, oeCh, .fields vsCh, seCh⟩)
    (w5Ch : vsCh[11]? = some (.ref PCh))
    (w6Ch : K.lookup PCh = none)
    (w0La : PySem.W.nsIn K mainGlobals "law" = some (some (.ref fLa)))
    (w1La : K.lookup fLa = some ⟨ocLa, odLa, .func (PySem.W.fnOf "law" "law" (defArgs sLaw) (defBody sLaw) (defScope sLaw) .none kVLa dcLa pmLa anLa (.ref cLa) ctLa), slLa⟩)
    (w2La : PySem.W.codeIn K (.ref cLa) "law" = true)
    (w3La : PySem.W.keepIn K (.ref fLa) = true)
    (w4La : K.lookup cLa = some ⟨veLa, oeLa, .fields vsLa, seLa⟩)
    (w5La : vsLa[11]? = some (.ref PLa))
    (w6La : K.lookup PLa = none)
    (nePP : PPa ≠ PCh)
    (w1In : K.lookup fIn = some ⟨ocIn, odIn, .func (PySem.W.fnOf "__init__" "Language.__init__" (defArgs sInit) (defBody sInit) (defScope sInit) .none kVIn dcIn pmIn anIn cdIn ctIn), slIn⟩)
    (w2In : PySem.W.codeIn K cdIn "Language.__init__" = true)
    (w3In : PySem.W.keepIn K (.ref fIn) = true)
    (w1Of : K.lookup fOf = some ⟨ocOf, odOf, .func (PySem.W.fnOf "of" "Language.of" (defArgs sOf) (defBody sOf) (defScope sOf) .none kVOf dcOf pmOf anOf cdOf ctOf), slOf⟩)
    (w2Of : PySem.W.codeIn K cdOf "Language.of" = true)
    (w3Of : PySem.W.keepIn K (.ref fOf) = true)
    (w1Mk : K.lookup fMk = some ⟨ocMk, odMk, .func (PySem.W.fnOf "marks" "Language.marks" (defArgs sMarks) (defBody sMarks) (defScope sMarks) .none kVMk dcMk pmMk anMk cdMk ctMk), slMk⟩)
    (w2Mk : PySem.W.codeIn K cdMk "Language.marks" = true)
    (w3Mk : PySem.W.keepIn K (.ref fMk) = true)
    (w1Ki : K.lookup fKi = some ⟨ocKi, odKi, .func (PySem.W.fnOf "kinds" "Language.kinds" (defArgs sKinds) (defBody sKinds) (defScope sKinds) .none kVKi dcKi pmKi anKi cdKi ctKi), slKi⟩)
    (w2Ki : PySem.W.codeIn K cdKi "Language.kinds" = true)
    (w3Ki : PySem.W.keepIn K (.ref fKi) = true)
    (w1Wm : K.lookup fWm = some ⟨ocWm, odWm, .func (PySem.W.fnOf "with_marks" "Language.with_marks" (defArgs sWm) (defBody sWm) (defScope sWm) .none kVWm dcWm pmWm anWm cdWm ctWm), slWm⟩)
    (w2Wm : PySem.W.codeIn K cdWm "Language.with_marks" = true)
    (w3Wm : PySem.W.keepIn K (.ref fWm) = true)
    (w1Wk : K.lookup fWk = some ⟨ocWk, odWk, .func (PySem.W.fnOf "with_kinds" "Language.with_kinds" (defArgs sWk) (defBody sWk) (defScope sWk) .none kVWk dcWk pmWk anWk cdWk ctWk), slWk⟩)
    (w2Wk : PySem.W.codeIn K cdWk "Language.with_kinds" = true)
    (w3Wk : PySem.W.keepIn K (.ref fWk) = true)
    (w1Ou : K.lookup fOu = some ⟨ocOu, odOu, .func (PySem.W.fnOf "without" "Language.without" (defArgs sOut) (defBody sOut) (defScope sOut) .none kVOu dcOu pmOu anOu cdOu ctOu), slOu⟩)
    (w2Ou : PySem.W.codeIn K cdOu "Language.without" = true)
    (w3Ou : PySem.W.keepIn K (.ref fOu) = true)
    (w1Wi : K.lookup fWi = some ⟨ocWi, odWi, .func (PySem.W.fnOf "is_within" "Language.is_within" (defArgs sWi) (defBody sWi) (defScope sWi) .none kVWi dcWi pmWi anWi cdWi ctWi), slWi⟩)
    (w2Wi : PySem.W.codeIn K cdWi "Language.is_within" = true)
    (w3Wi : PySem.W.keepIn K (.ref fWi) = true)
    (w1Or : K.lookup fOr = some ⟨ocOr, odOr, .func (PySem.W.fnOf "__or__" "Language.__or__" (defArgs sOr) (defBody sOr) (defScope sOr) .none kVOr dcOr pmOr anOr cdOr ctOr), slOr⟩)
    (w2Or : PySem.W.codeIn K cdOr "Language.__or__" = true)
    (w3Or : PySem.W.keepIn K (.ref fOr) = true)
    (w1An : K.lookup fAn = some ⟨ocAn, odAn, .func (PySem.W.fnOf "__and__" "Language.__and__" (defArgs sAnd) (defBody sAnd) (defScope sAnd) .none kVAn dcAn pmAn anAn cdAn ctAn), slAn⟩)
    (w2An : PySem.W.codeIn K cdAn "Language.__and__" = true)
    (w3An : PySem.W.keepIn K (.ref fAn) = true)
    (w1Eq : K.lookup fEq = some ⟨ocEq, odEq, .func (PySem.W.fnOf "__eq__" "Language.__eq__" (defArgs sEq) (defBody sEq) (defScope sEq) .none kVEq dcEq pmEq anEq cdEq ctEq), slEq⟩)
    (w2Eq : PySem.W.codeIn K cdEq "Language.__eq__" = true)
    (w3Eq : PySem.W.keepIn K (.ref fEq) = true)
    (w1Ha : K.lookup fHa = some ⟨ocHa, odHa, .func (PySem.W.fnOf "__contains__" "Language.__contains__" (defArgs sHas) (defBody sHas) (defScope sHas) .none kVHa dcHa pmHa anHa cdHa ctHa), slHa⟩)
    (w2Ha : PySem.W.codeIn K cdHa "Language.__contains__" = true)
    (w3Ha : PySem.W.keepIn K (.ref fHa) = true)
    (w1Le : K.lookup fLe = some ⟨ocLe, odLe, .func (PySem.W.fnOf "__len__" "Language.__len__" (defArgs sLen) (defBody sLen) (defScope sLen) .none kVLe dcLe pmLe anLe cdLe ctLe), slLe⟩)
    (w2Le : PySem.W.codeIn K cdLe "Language.__len__" = true)
    (w3Le : PySem.W.keepIn K (.ref fLe) = true)
    (z_isinstance : PySem.W.nsIn K mainGlobals "isinstance" = some none)
    (z_tuple : PySem.W.nsIn K mainGlobals "tuple" = some none)
    (z_all : PySem.W.nsIn K mainGlobals "all" = some none)
    (z_any : PySem.W.nsIn K mainGlobals "any" = some none)
    (z_sorted : PySem.W.nsIn K mainGlobals "sorted" = some none)
    (z_list : PySem.W.nsIn K mainGlobals "list" = some none)
    (z_len : PySem.W.nsIn K mainGlobals "len" = some none)
    (z_str : PySem.W.nsIn K mainGlobals "str" = some none)
    (z_int : PySem.W.nsIn K mainGlobals "int" = some none)
    (z_abs : PySem.W.nsIn K mainGlobals "abs" = some none)
    (z_max : PySem.W.nsIn K mainGlobals "max" = some none)
    (z_min : PySem.W.nsIn K mainGlobals "min" = some none)
    (z_range : PySem.W.nsIn K mainGlobals "range" = some none)
    (z_repr : PySem.W.nsIn K mainGlobals "repr" = some none)
    (z_super : PySem.W.nsIn K mainGlobals "super" = some none)
    (z_set : PySem.W.nsIn K mainGlobals "set" = some none)
    (g8 : PySem.W.nsIn K mainGlobals "MAX_MARKS" = some (some (.int 8 t8)))
    (g4 : PySem.W.nsIn K mainGlobals "MAX_KINDS" = some (some (.int 4 t4)))
    (g9 : PySem.W.nsIn K mainGlobals "MAX_SIGNS" = some (some (.int 8 t9)))
    (gs : PySem.W.nsIn K mainGlobals "SIGNS" = some (some (.str "abcdefghijklmnopqrstuvwxyz" ts)))
    : LawG l w K CX0 11 63 "_law_script" mg fa h := by
  subst hP
  have e := hfa.symm.trans (PySem.W.mg_of X G w0La)
  cases e
  have m_super := PySem.W.mg_none_of X G z_super
  have TI : TreeTxt l.prog K mg "InvalidLanguage" CI CT fI := {
    gC := PySem.W.mg_of X G aI, cls := ⟨nmI, qI, NI, bsI, _, snI, subI, abI, colI, ddI, m0I, m1I, m2I, m3I, m5I, xI, line_tree⟩, iC := iI, tC := tfI', kC := kI, exC := bI, tyC := tI, suB := vI, sup := sup_in xI neI, opq := opq,
    fn := ⟨_, _, _, _, _, _, _, _, _, _, _, _, _, _, _, _, _, _, _, _, _, _, _, _, _, _, lI, cI, lcI, lvI, lfI, lxI, evI⟩, clD := ⟨_, cT⟩, inD := mI, noS := m_super, topS := tS }
  have TO : TreeTxt l.prog K mg "InvalidOperation" CO CT fO := {
    gC := PySem.W.mg_of X G aO, cls := ⟨nmO, qO, NO, bsO, _, snO, subO, abO, colO, ddO, m0O, m1O, m2O, m3O, m5O, xO, line_tree⟩, iC := iO, tC := tfO', kC := kO, exC := bO, tyC := tO, suB := vO, sup := sup_in xO neO, opq := opq,
    fn := ⟨_, _, _, _, _, _, _, _, _, _, _, _, _, _, _, _, _, _, _, _, _, _, _, _, _, _, lO, cO, lcO, lvO, lfO, lxO, evO⟩, clD := ⟨_, cT⟩, inD := mO, noS := m_super, topS := tS }
  have ex : PySem.W.exmOne K (.ref CI) (.ref CI) = some true := exm_two bI icI tI sII
  have L : LCls K C := ⟨⟨l1, l2, l3, l4⟩, l5, l6⟩
  have Mm : Mk K C fIn := ⟨l7, v1In, v2In, l8'⟩
  have Is : LIs K C := ⟨l9', e5, e6, la, by unfold PySem.W.kitOne; rw [if_pos (beq_self_eq_true _)], kit_refB (by decide +kernel) lb⟩
  have cr : CRead K C (.type "type") := ⟨r1', r2'⟩
  have cm : CMet K C (.type "type") "of" pOf fOf := ⟨r3', ⟨_, r4'⟩, r5'⟩
  have pMk' : PropOf K C "marks" pMk fMk := ⟨u1Mk, u2Mk, u3Mk, ⟨_, u4Mk⟩⟩
  have pKi' : PropOf K C "kinds" pKi fKi := ⟨u1Ki, u2Ki, u3Ki, ⟨_, u4Ki⟩⟩
  have FNa := fun_mk (st := sName) w1Na w2Na w3Na
  have FDf := fun_mk (st := sDiff) w1Df w2Df w3Df
  have FLi := fun_mk (st := sLin) w1Li w2Li w3Li
  have FDi := fun_mk (st := sDice) w1Di w2Di w3Di
  have FRo := fun_mk (st := sRoll) w1Ro w2Ro w3Ro
  have FPi := fun_mk (st := sPick) w1Pi w2Pi w3Pi
  have FMi := fun_mk (st := sMixed) w1Mi w2Mi w3Mi
  have FSo := fun_mk (st := sSome) w1So w2So w3So
  have FPl := fun_mk (st := sPlain) w1Pl w2Pl w3Pl
  have FCa := fun_mk (st := sCan) w1Ca w2Ca w3Ca
  have FIs := fun_mk (st := sIsr) w1Is w2Is w3Is
  have FPa := func_mk (st := sPair) w1Pa w2Pa w3Pa
  have FCh := func_mk (st := sChg) w1Ch w2Ch w3Ch
  have FLa := func_mk (st := sLaw) w1La w2La w3La
  have FIn := fun_mk (st := sInit) w1In w2In w3In
  have FOf := fun_mk (st := sOf) w1Of w2Of w3Of
  have FMk := fun_mk (st := sMarks) w1Mk w2Mk w3Mk
  have FKi := fun_mk (st := sKinds) w1Ki w2Ki w3Ki
  have FWm := fun_mk (st := sWm) w1Wm w2Wm w3Wm
  have FWk := fun_mk (st := sWk) w1Wk w2Wk w3Wk
  have FOu := fun_mk (st := sOut) w1Ou w2Ou w3Ou
  have FWi := fun_mk (st := sWi) w1Wi w2Wi w3Wi
  have FOr := fun_mk (st := sOr) w1Or w2Or w3Or
  have FAn := fun_mk (st := sAnd) w1An w2An w3An
  have FEq := fun_mk (st := sEq) w1Eq w2Eq w3Eq
  have FHa := fun_mk (st := sHas) w1Ha w2Ha w3Ha
  have FLe := fun_mk (st := sLen) w1Le w2Le w3Le
  have bNa := FNa.binds (ps := ["value"]) fun _ _ _ _ _ _ us hl => match us, hl with | [_], _ => rfl
  have bDf := FDf.binds (ps := ["values"]) fun _ _ _ _ _ _ us hl => match us, hl with | [_], _ => rfl
  have bLi := FLi.binds (ps := ["marks", "kinds"]) fun _ _ _ _ _ _ us hl => match us, hl with | [_, _], _ => rfl
  have bDi := FDi.binds (ps := ["_law_script", "_law_spot"]) fun _ _ _ _ _ _ us hl => match us, hl with | [_, _], _ => rfl
  have bRo := FRo.binds (ps := ["_law_dice_here", "_law_upto"]) fun _ _ _ _ _ _ us hl => match us, hl with | [_, _], _ => rfl
  have bPi := FPi.binds (ps := ["_law_dice_here", "_law_items"]) fun _ _ _ _ _ _ us hl => match us, hl with | [_, _], _ => rfl
  have bMi := FMi.binds (ps := ["_law_dice_here", "_law_items"]) fun _ _ _ _ _ _ us hl => match us, hl with | [_, _], _ => rfl
  have bSo := FSo.binds (ps := ["_law_dice_here", "_law_items", "_law_least", "_law_most"]) fun _ _ _ _ _ _ us hl => match us, hl with | [_, _, _, _], _ => rfl
  have bPl := FPl.binds (ps := ["_law_dice_here"]) fun _ _ _ _ _ _ us hl => match us, hl with | [_], _ => rfl
  have bCa := FCa.binds (ps := ["_law_marks", "_law_sorts"]) fun _ _ _ _ _ _ us hl => match us, hl with | [_, _], _ => rfl
  have bIs := FIs.binds (ps := ["_law_call", "_law_marks", "_law_sorts"]) fun _ _ _ _ _ _ us hl => match us, hl with | [_, _, _], _ => rfl
  have bPa := FPa.binds (ps := ["_law_one", "_law_other"]) fun _ _ _ _ _ _ us hl => match us, hl with | [_, _], _ => rfl
  have bCh := FCh.binds (ps := ["_law_dice_here", "_law_one"]) fun _ _ _ _ _ _ us hl => match us, hl with | [_, _], _ => rfl
  have bLa := FLa.binds (ps := ["_law_script"]) fun _ _ _ _ _ _ us hl => match us, hl with | [_], _ => rfl
  have bOf := FOf.binds (ps := ["cls", "marks", "kinds"]) fun _ _ _ _ _ _ us hl => match us, hl with | [_, _, _], _ => rfl
  have bMk := FMk.binds (ps := ["self"]) fun _ _ _ _ _ _ us hl => match us, hl with | [_], _ => rfl
  have bKi := FKi.binds (ps := ["self"]) fun _ _ _ _ _ _ us hl => match us, hl with | [_], _ => rfl
  have bWi := FWi.binds (ps := ["self", "value"]) fun _ _ _ _ _ _ us hl => match us, hl with | [_, _], _ => rfl
  have bOr := FOr.binds (ps := ["self", "other"]) fun _ _ _ _ _ _ us hl => match us, hl with | [_, _], _ => rfl
  have bAn := FAn.binds (ps := ["self", "other"]) fun _ _ _ _ _ _ us hl => match us, hl with | [_, _], _ => rfl
  have bEq := FEq.binds (ps := ["self", "other"]) fun _ _ _ _ _ _ us hl => match us, hl with | [_, _], _ => rfl
  have bHa := FHa.binds (ps := ["self", "value"]) fun _ _ _ _ _ _ us hl => match us, hl with | [_, _], _ => rfl
  have bLe := FLe.binds (ps := ["self"]) fun _ _ _ _ _ _ us hl => match us, hl with | [_], _ => rfl
  have m_isinstance := PySem.W.mg_none_of X G z_isinstance
  have m_tuple := PySem.W.mg_none_of X G z_tuple
  have m_all := PySem.W.mg_none_of X G z_all
  have m_any := PySem.W.mg_none_of X G z_any
  have m_sorted := PySem.W.mg_none_of X G z_sorted
  have m_list := PySem.W.mg_none_of X G z_list
  have m_len := PySem.W.mg_none_of X G z_len
  have m_str := PySem.W.mg_none_of X G z_str
  have m_int := PySem.W.mg_none_of X G z_int
  have m_abs := PySem.W.mg_none_of X G z_abs
  have m_max := PySem.W.mg_none_of X G z_max
  have m_min := PySem.W.mg_none_of X G z_min
  have m_range := PySem.W.mg_none_of X G z_range
  have m_repr := PySem.W.mg_none_of X G z_repr
  have m_set := PySem.W.mg_none_of X G z_set
  have gC := PySem.W.mg_of X G aC
  have g8' := PySem.W.mg_of X G g8
  have g4' := PySem.W.mg_of X G g4
  have g9' := PySem.W.mg_of X G g9
  have gs' : mg "SIGNS" = some (.str signs ts) := PySem.W.mg_of X G gs
  obtain ⟨hdR, tbR⟩ := tab "_law_pair_right" cPa PPa rc1 (tab_in w0Pa w1Pa rfl w4Pa w5Pa)
  obtain ⟨hdL, tbL⟩ := tab "_law_changes_right" cCh PCh rc2 (tab_in w0Ch w1Ch rfl w4Ch w5Ch)
  have inR : (PPa, (("_law_pair_right" : Str) ++ ".<locals>.") ++ "<lambda>") ∈ [(PPa, (("_law_pair_right" : Str) ++ ".<locals>.") ++ "<lambda>"), (PCh, (("_law_changes_right" : Str) ++ ".<locals>.") ++ "<lambda>")] := List.mem_cons_self
  have inL : (PCh, (("_law_changes_right" : Str) ++ ".<locals>.") ++ "<lambda>") ∈ [(PPa, (("_law_pair_right" : Str) ++ ".<locals>.") ++ "<lambda>"), (PCh, (("_law_changes_right" : Str) ++ ".<locals>.") ++ "<lambda>")] := List.mem_cons_of_mem _ List.mem_cons_self
  have hUR : ∀ p ∈ [(PPa, (("_law_pair_right" : Str) ++ ".<locals>.") ++ "<lambda>"), (PCh, (("_law_changes_right" : Str) ++ ".<locals>.") ++ "<lambda>")], p.1 = PPa → p.2 = (("_law_pair_right" : Str) ++ ".<locals>.") ++ "<lambda>" := by
    simp only [List.forall_mem_cons]
    exact ⟨fun _ => by trivial, fun z => (nePP z.symm).elim, fun p hp => (nomatch hp)⟩
  have hUL : ∀ p ∈ [(PPa, (("_law_pair_right" : Str) ++ ".<locals>.") ++ "<lambda>"), (PCh, (("_law_changes_right" : Str) ++ ".<locals>.") ++ "<lambda>")], p.1 = PCh → p.2 = (("_law_changes_right" : Str) ++ ".<locals>.") ++ "<lambda>" := by
    simp only [List.forall_mem_cons]
    exact ⟨fun z => (nePP z).elim, fun _ => by trivial, fun p hp => (nomatch hp)⟩
  refine ⟨PySem.W.fnOf "law" "law" (defArgs sLaw) (defBody sLaw) (defScope sLaw) .none kVLa dcLa pmLa anLa (.ref cLa) ctLa, [(cPa, PPa), (cCh, PCh)], spLaw K [(PPa, (("_law_pair_right" : Str) ++ ".<locals>.") ++ "<lambda>"), (PCh, (("_law_changes_right" : Str) ++ ".<locals>.") ++ "<lambda>")], ⟨?_, ?_, ?_⟩, fun s u => .of_eq rfl, fun H a ns hl _ hT hS => ⟨a, ns, rfl, hS, hl, ?_, fun _ => rfl⟩, fun base KB GB TB => ?_⟩
  · simp only [List.forall_mem_cons]
    exact ⟨tbR, tbL, fun p hp => (nomatch hp)⟩
  · simp only [List.forall_mem_cons]
    exact ⟨w6Pa, w6Ch, fun p hp => (nomatch hp)⟩
  · simp only [List.forall_mem_cons]
    exact ⟨hdR, hdL, fun p hp => (nomatch hp)⟩
  · unfold Tabs
    simp only [List.forall_mem_cons] at hT ⊢
    exact ⟨TabS.nil hT.1, TabS.nil hT.2.1, fun p hp => (nomatch hp)⟩
  simp only [List.forall_mem_cons] at TB
  have GN : ∀ k, FnOk l.prog w K mg base CX0 (k + 1) fNa _ ["value"] (spName K) := fun k => ok_name FNa m_isinstance m_str m_len m_all g9' gs'
  have GD : ∀ k, FnOk l.prog w K mg base (L2N.CX l.prog w) (k + 3) fDf _ ["values"] (spDiff K CI) := fun k => ok_diff FDf TI (GN k) bNa (PySem.W.mg_of X G w0Na) w3Na m_isinstance m_tuple m_all m_sorted m_list
  have GI : ∀ k, FnA l.prog w K mg base (L2N.CX l.prog w) (k + 4) fIn ["kinds"] (spInit K C CI) := fun k => ok_init FIn L TI (GD k) bDf (PySem.W.mg_of X G w0Df) w3Df m_len m_any g8' g4'
  have GO : ∀ k, FnOk l.prog w K mg base (L2N.CX l.prog w) (k + 6) fOf _ ["cls", "marks", "kinds"] (spOf K C CI) := fun k => ok_of FOf Mm TI (GI k) m_isinstance m_tuple
  have GL : ∀ k, FnOk l.prog w K mg base (L2N.CX l.prog w) (k + 6) fLi _ ["marks", "kinds"] (spLin K C CI) := fun k => ok_lin FLi Mm (GI k) gC
  have gLi := PySem.W.mg_of X G w0Li
  have gHa : FnR l.prog w K mg base CX0 1 fHa (spHas K C) := rawN (ok_has FHa L) bHa
  have eO1 : PySem.dunder Operator.BitOr.info.2 = ("__or__" : Str) := by decide +kernel
  have eA1 : PySem.dunder Operator.BitAnd.info.2 = ("__and__" : Str) := by decide +kernel
  have Lx : Lg l.prog w K mg base 7 4 ⟨C, CI, CO, fIn, fOf, pOf, fWm, fWk, fOu, fWi, fOr, fAn, fMk, pMk, fKi, pKi, fEq, fLe, .type "type", _, _, _, _, _⟩ := {
    Mm := Mm, GI := GI 0, hI := by decide, gLa := gC, L := L
    tn := by
      simp only [List.forall_mem_cons]
      exact ⟨kit_ref le lg (ty_ne _ _) s0, kit_ref le lg (ty_ne _ _) s2, kit_ref le lg (ty_ne _ _) s3, kit_ref le lg (ty_ne _ _) s4, kit_ref le lg (ty_ne _ _) s5, fun p hp => (nomatch hp)⟩
    nC := nC, GO := GO 1, bO := bOf, cr := cr, cm := cm
    mWm := ⟨v1Wm, v2Wm, w3Wm⟩, gWm := ok_wm FWm L (GL 0) bLi gLi w3Li, mWk := ⟨v1Wk, v2Wk, w3Wk⟩, gWk := ok_wk FWk L (GL 0) bLi gLi w3Li
    mOu := ⟨v1Ou, v2Ou, w3Ou⟩, gOu := ok_out FOu L ⟨v1Ha, v2Ha⟩ gHa (by decide) (GL 0) bLi gLi w3Li m_tuple
    mWi := ⟨v1Wi, v2Wi, w3Wi⟩, GWi := ok_wi FWi L Is gC m_isinstance m_all, bWi := bWi
    oS := by rw [eO1]; exact v1Or
    oF := v2Or, gOr := rawN (ok_or FOr L Is TO (GL 0) bLi gLi w3Li gC m_isinstance) bOr
    aS := by rw [eA1]; exact v1An
    aF := v2An, gAn := rawN (ok_and FAn L Is TO (GL 0) bLi gLi w3Li gC m_isinstance m_tuple) bAn
    sf := sf, GMk := ok_marks FMk L, bMk := bMk, pMk := pMk', GKi := ok_kinds FKi L, bKi := bKi, pKi := pKi'
    oE := ⟨v1Eq, v2Eq⟩, GE := ok_eq FEq L Is gC m_isinstance, bE := bEq, gE := rawN (ok_eq FEq L Is gC m_isinstance) bEq, ne := ld, mo := la, oL := ⟨v1Le, v2Le⟩, gL := rawN (ok_len FLe L m_len) bLe }
  have IC : IsrC l.prog w K mg base 7 C CI fIs _ := ⟨FIs, bIs, PySem.W.mg_of X G w0Is, 2, fCa, fMk, fKi, pMk, pKi, _, _, _, by decide, by decide, {
    GCa := ok_can FCa m_len m_set, HCa := ok_canH FCa m_len m_set, bCa := bCa, gCa := PySem.W.mg_of X G w0Ca, kCa := w3Ca, L := L, GMk := ok_marks FMk L, bMk := bMk, pMk := pMk', GKi := ok_kinds FKi L, bKi := bKi, pKi := pKi', gI := PySem.W.mg_of X G aI, ex := ex, mT := m_tuple, mSo := m_sorted, mSe := m_set }⟩
  have GR : ∀ k, FnOk l.prog w K mg base CX0 (k + 1) fRo _ ["_law_dice_here", "_law_upto"] spRoll := fun k => ok_roll FRo m_int
  have GP : ∀ k, FnOk l.prog w K mg base CX0 (k + 2) fPi _ ["_law_dice_here", "_law_items"] (spPick K) := fun k => ok_pick FPi FRo bRo (PySem.W.mg_of X G w0Ro) m_int m_len
  have GX : ∀ k, FnOk l.prog w K mg base CX0 (k + 2) fMi _ ["_law_dice_here", "_law_items"] (spMixed K) := fun k => ok_mixed FMi FRo bRo (PySem.W.mg_of X G w0Ro) m_int m_len m_list
  have GSo := ok_some FSo (GR 7) bRo (PySem.W.mg_of X G w0Ro) w3Ro (GX 6) bMi (PySem.W.mg_of X G w0Mi) w3Mi m_min m_len
  have GPl := ok_plain FPl (GR 8) bRo (PySem.W.mg_of X G w0Ro) w3Ro (GX 7) bMi (PySem.W.mg_of X G w0Mi) w3Mi (GP 7) bPi (PySem.W.mg_of X G w0Pi) w3Pi m_tuple m_sorted
  have GPa := ok_pair (k := 7) FPa Lx (by decide) IC TB.1 inR hUR m_len m_tuple m_repr
  have GCh := ok_chg (k := 7) FCh Lx (by decide) IC TB.2.1 inL hUL (GP 7) bPi (PySem.W.mg_of X G w0Pi) w3Pi GSo bSo (PySem.W.mg_of X G w0So) w3So m_tuple
  exact ok_law (k := 7) FLa Lx (by decide) (ok_dice FDi m_int m_len m_abs m_max) bDi (PySem.W.mg_of X G w0Di) w3Di GPl bPl (PySem.W.mg_of X G w0Pl) w3Pl GPa bPa (PySem.W.mg_of X G w0Pa) w3Pa GCh bCh (PySem.W.mg_of X G w0Ch) w3Ch m_range m_max m_min m_len
end Tf

open PySem PySem.W PyProof.Rows
set_option maxRecDepth 100000 in
set_option maxHeartbeats 0 in
theorem PySem.Challenge.cw_treefits_k02_languages_joined_holds : PySem.Challenge.rw_treefits_k02_languages_joined.Holds := by
  w_on; o_law; k_head; (case hw => w_witness2)
  k_fill
  refine TfG.walk_G (l := PySem.Challenge.rw_treefits_k02_languages_joined) (n := 63) (k := 11) (x := "_law_script") (CX := fun _ => L2.CX0) rfl (by decide) rfl ⟨rfl, by decide, by decide⟩ (fun w h Y => PySem.W.km_in_of Y) ?F (fun _ _ _ _ _ h => h)
  case F =>
    intro w mg fa h Y KX G tab hmg
    refine' Tf.all_mk KX G hmg rfl tab ?zq_rc1 ?zq_rc2 ?zq_aC ?zq_opq ?zq_tS ?zq_aI ?zq_xI ?zq_iI ?zq_tfIp ?zq_kI ?zq_bI ?zq_tI ?zq_vI ?zq_lI ?zq_cI ?zq_lcI ?zq_lvI ?zq_lfI ?zq_lxI ?zq_evI ?zq_mI ?zq_icI ?zq_aO ?zq_xO ?zq_iO ?zq_tfOp ?zq_kO ?zq_bO ?zq_tO ?zq_vO ?zq_lO ?zq_cO ?zq_lcO ?zq_lvO ?zq_lfO ?zq_lxO ?zq_evO ?zq_mO ?zq_icO ?zq_cT ?zq_neI ?zq_neO ?zq_sII ?zq_e5 ?zq_e6 ?zq_l1 ?zq_l2 ?zq_l3 ?zq_l4 ?zq_l5 ?zq_l6 ?zq_l7 ?zq_l8p ?zq_l9p ?zq_la ?zq_lb ?zq_le ?zq_lg ?zq_sf ?zq_ld ?zq_s0 ?zq_n0 ?zq_s1 ?zq_n1 ?zq_s2 ?zq_n2 ?zq_s3 ?zq_n3 ?zq_s4 ?zq_n4 ?zq_s5 ?zq_n5 ?zq_s6 ?zq_n6 ?zq_nC ?zq_r1p ?zq_r2p ?zq_r3p ?zq_r4p ?zq_r5p ?zq_u1Mk ?zq_u2Mk ?zq_u3Mk ?zq_u4Mk ?zq_u1Ki ?zq_u2Ki ?zq_u3Ki ?zq_u4Ki ?zq_v1In ?zq_v2In ?zq_v1Wm ?zq_v2Wm ?zq_v1Wk ?zq_v2Wk ?zq_v1Ou ?zq_v2Ou ?zq_v1Wi ?zq_v2Wi ?zq_v1Or ?zq_v2Or ?zq_v1An ?zq_v2An ?zq_v1Eq ?zq_v2Eq ?zq_v1Ha ?zq_v2Ha ?zq_v1Le ?zq_v2Le ?zq_w0Na ?zq_w1Na ?zq_w2Na ?zq_w3Na ?zq_w0Df ?zq_w1Df ?zq_w2Df ?zq_w3Df ?zq_w0Li ?zq_w1Li ?zq_w2Li ?zq_w3Li ?zq_w0Di ?zq_w1Di ?zq_w2Di ?zq_w3Di ?zq_w0Ro ?zq_w1Ro ?zq_w2Ro ?zq_w3Ro ?zq_w0Pi ?zq_w1Pi ?zq_w2Pi ?zq_w3Pi ?zq_w0Mi ?zq_w1Mi ?zq_w2Mi ?zq_w3Mi ?zq_w0So ?zq_w1So ?zq_w2So ?zq_w3So ?zq_w0Pl ?zq_w1Pl ?zq_w2Pl ?zq_w3Pl ?zq_w0Ca ?zq_w1Ca ?zq_w2Ca ?zq_w3Ca ?zq_w0Is ?zq_w1Is ?zq_w2Is ?zq_w3Is ?zq_w0Pa ?zq_w1Pa ?zq_w2Pa ?zq_w3Pa ?zq_w4Pa ?zq_w5Pa ?zq_w6Pa ?zq_w0Ch ?zq_w1Ch ?zq_w2Ch ?zq_w3Ch ?zq_w4Ch ?zq_w5Ch ?zq_w6Ch ?zq_w0La ?zq_w1La ?zq_w2La ?zq_w3La ?zq_w4La ?zq_w5La ?zq_w6La ?zq_nePP ?zq_w1In ?zq_w2In ?zq_w3In ?zq_w1Of ?zq_w2Of ?zq_w3Of ?zq_w1Mk ?zq_w2Mk ?zq_w3Mk ?zq_w1Ki ?zq_w2Ki ?zq_w3Ki ?zq_w1Wm ?zq_w2Wm ?zq_w3Wm ?zq_w1Wk ?zq_w2Wk ?zq_w3Wk ?zq_w1Ou ?zq_w2Ou ?zq_w3Ou ?zq_w1Wi ?zq_w2Wi ?zq_w3Wi ?zq_w1Or ?zq_w2Or ?zq_w3Or ?zq_w1An ?zq_w2An ?zq_w3An ?zq_w1Eq ?zq_w2Eq ?zq_w3Eq ?zq_w1Ha ?zq_w2Ha ?zq_w3Ha ?zq_w1Le ?zq_w2Le ?zq_w3Le ?zq_z_isinstance ?zq_z_tuple ?zq_z_all ?zq_z_any ?zq_z_sorted ?zq_z_list ?zq_z_len ?zq_z_str ?zq_z_int ?zq_z_abs ?zq_z_max ?zq_z_min ?zq_z_range ?zq_z_repr ?zq_z_super ?zq_z_set ?zq_g8 ?zq_g4 ?zq_g9 ?zq_gs
    (case zq_rc1 => decide +kernel)
    (case zq_rc2 => decide +kernel)
    (case zq_aC => k_is)
    (case zq_opq => k_is)
    (case zq_tS => decide +kernel)
    (case zq_aI => k_is)
    (case zq_xI => k_is)
    (case zq_iI => k_is)
    (case zq_tfIp => k_is)
    (case zq_kI => k_is)
    (case zq_bI => k_is)
    (case zq_tI => k_is)
    (case zq_vI => k_is)
    (case zq_lI => k_is)
    (case zq_cI => k_is)
    (case zq_lcI => k_is)
    (case zq_lvI => rfl)
    (case zq_lfI => decide +kernel)
    (case zq_lxI => k_is)
    (case zq_evI => exact fun env => ⟨_, rfl⟩)
    (case zq_mI => k_is)
    (case zq_icI => k_is)
    (case zq_aO => k_is)
    (case zq_xO => k_is)
    (case zq_iO => k_is)
    (case zq_tfOp => k_is)
    (case zq_kO => k_is)
    (case zq_bO => k_is)
    (case zq_tO => k_is)
    (case zq_vO => k_is)
    (case zq_lO => k_is)
    (case zq_cO => k_is)
    (case zq_lcO => k_is)
    (case zq_lvO => rfl)
    (case zq_lfO => decide +kernel)
    (case zq_lxO => k_is)
    (case zq_evO => exact fun env => ⟨_, rfl⟩)
    (case zq_mO => k_is)
    (case zq_icO => k_is)
    (case zq_cT => k_is)
    (case zq_neI => decide)
    (case zq_neO => decide)
    (case zq_sII => first | k_is | rfl)
    (case zq_e5 => k_is)
    (case zq_e6 => k_is)
    (case zq_l1 => k_is)
    (case zq_l2 => k_is)
    (case zq_l3 => k_is)
    (case zq_l4 => k_is)
    (case zq_l5 => k_is)
    (case zq_l6 => k_is)
    (case zq_l7 => k_is)
    (case zq_l8p => k_is)
    (case zq_l9p => k_is)
    (case zq_la => k_is)
    (case zq_lb => k_is)
    (case zq_le => k_is)
    (case zq_lg => k_is)
    (case zq_sf => k_is)
    (case zq_ld => k_is)
    (case zq_s0 => k_is)
    (case zq_n0 => k_is)
    (case zq_s1 => k_is)
    (case zq_n1 => k_is)
    (case zq_s2 => k_is)
    (case zq_n2 => k_is)
    (case zq_s3 => k_is)
    (case zq_n3 => k_is)
    (case zq_s4 => k_is)
    (case zq_n4 => k_is)
    (case zq_s5 => k_is)
    (case zq_n5 => k_is)
    (case zq_s6 => k_is)
    (case zq_n6 => k_is)
    (case zq_nC => k_is)
    (case zq_r1p => k_is)
    (case zq_r2p => k_is)
    (case zq_r3p => k_is)
    (case zq_r4p => k_is)
    (case zq_r5p => k_is)
    (case zq_u1Mk => k_is)
    (case zq_u2Mk => k_is)
    (case zq_u3Mk => k_is)
    (case zq_u4Mk => k_is)
    (case zq_u1Ki => k_is)
    (case zq_u2Ki => k_is)
    (case zq_u3Ki => k_is)
    (case zq_u4Ki => k_is)
    (case zq_v1In => k_is)
    (case zq_v2In => k_is)
    (case zq_v1Wm => k_is)
    (case zq_v2Wm => k_is)
    (case zq_v1Wk => k_is)
    (case zq_v2Wk => k_is)
    (case zq_v1Ou => k_is)
    (case zq_v2Ou => k_is)
    (case zq_v1Wi => k_is)
    (case zq_v2Wi => k_is)
    (case zq_v1Or => k_is)
    (case zq_v2Or => k_is)
    (case zq_v1An => k_is)
    (case zq_v2An => k_is)
    (case zq_v1Eq => k_is)
    (case zq_v2Eq => k_is)
    (case zq_v1Ha => k_is)
    (case zq_v2Ha => k_is)
    (case zq_v1Le => k_is)
    (case zq_v2Le => k_is)
    (case zq_w0Na => k_is)
    (case zq_w1Na => k_is)
    (case zq_w2Na => k_is)
    (case zq_w3Na => k_is)
    (case zq_w0Df => k_is)
    (case zq_w1Df => k_is)
    (case zq_w2Df => k_is)
    (case zq_w3Df => k_is)
    (case zq_w0Li => k_is)
    (case zq_w1Li => k_is)
    (case zq_w2Li => k_is)
    (case zq_w3Li => k_is)
    (case zq_w0Di => k_is)
    (case zq_w1Di => k_is)
    (case zq_w2Di => k_is)
    (case zq_w3Di => k_is)
    (case zq_w0Ro => k_is)
    (case zq_w1Ro => k_is)
    (case zq_w2Ro => k_is)
    (case zq_w3Ro => k_is)
    (case zq_w0Pi => k_is)
    (case zq_w1Pi => k_is)
    (case zq_w2Pi => k_is)
    (case zq_w3Pi => k_is)
    (case zq_w0Mi => k_is)
    (case zq_w1Mi => k_is)
    (case zq_w2Mi => k_is)
    (case zq_w3Mi => k_is)
    (case zq_w0So => k_is)
    (case zq_w1So => k_is)
    (case zq_w2So => k_is)
    (case zq_w3So => k_is)
    (case zq_w0Pl => k_is)
    (case zq_w1Pl => k_is)
    (case zq_w2Pl => k_is)
    (case zq_w3Pl => k_is)
    (case zq_w0Ca => k_is)
    (case zq_w1Ca => k_is)
    (case zq_w2Ca => k_is)
    (case zq_w3Ca => k_is)
    (case zq_w0Is => k_is)
    (case zq_w1Is => k_is)
    (case zq_w2Is => k_is)
    (case zq_w3Is => k_is)
    (case zq_w0Pa => k_is)
    (case zq_w1Pa => k_is)
    (case zq_w2Pa => k_is)
    (case zq_w3Pa => k_is)
    (case zq_w4Pa => k_is)
    (case zq_w5Pa => rfl)
    (case zq_w6Pa => kernel_rfl)
    (case zq_w0Ch => k_is)
    (case zq_w1Ch => k_is)
    (case zq_w2Ch => k_is)
    (case zq_w3Ch => k_is)
    (case zq_w4Ch => k_is)
    (case zq_w5Ch => rfl)
    (case zq_w6Ch => kernel_rfl)
    (case zq_w0La => k_is)
    (case zq_w1La => k_is)
    (case zq_w2La => k_is)
    (case zq_w3La => k_is)
    (case zq_w4La => k_is)
    (case zq_w5La => rfl)
    (case zq_w6La => kernel_rfl)
    (case zq_nePP => decide)
    (case zq_w1In => k_is)
    (case zq_w2In => k_is)
    (case zq_w3In => k_is)
    (case zq_w1Of => k_is)
    (case zq_w2Of => k_is)
    (case zq_w3Of => k_is)
    (case zq_w1Mk => k_is)
    (case zq_w2Mk => k_is)
    (case zq_w3Mk => k_is)
    (case zq_w1Ki => k_is)
    (case zq_w2Ki => k_is)
    (case zq_w3Ki => k_is)
    (case zq_w1Wm => k_is)
    (case zq_w2Wm => k_is)
    (case zq_w3Wm => k_is)
    (case zq_w1Wk => k_is)
    (case zq_w2Wk => k_is)
    (case zq_w3Wk => k_is)
    (case zq_w1Ou => k_is)
    (case zq_w2Ou => k_is)
    (case zq_w3Ou => k_is)
    (case zq_w1Wi => k_is)
    (case zq_w2Wi => k_is)
    (case zq_w3Wi => k_is)
    (case zq_w1Or => k_is)
    (case zq_w2Or => k_is)
    (case zq_w3Or => k_is)
    (case zq_w1An => k_is)
    (case zq_w2An => k_is)
    (case zq_w3An => k_is)
    (case zq_w1Eq => k_is)
    (case zq_w2Eq => k_is)
    (case zq_w3Eq => k_is)
    (case zq_w1Ha => k_is)
    (case zq_w2Ha => k_is)
    (case zq_w3Ha => k_is)
    (case zq_w1Le => k_is)
    (case zq_w2Le => k_is)
    (case zq_w3Le => k_is)
    (case zq_z_isinstance => k_is)
    (case zq_z_tuple => k_is)
    (case zq_z_all => k_is)
    (case zq_z_any => k_is)
    (case zq_z_sorted => k_is)
    (case zq_z_list => k_is)
    (case zq_z_len => k_is)
    (case zq_z_str => k_is)
    (case zq_z_int => k_is)
    (case zq_z_abs => k_is)
    (case zq_z_max => k_is)
    (case zq_z_min => k_is)
    (case zq_z_range => k_is)
    (case zq_z_repr => k_is)
    (case zq_z_super => k_is)
    (case zq_z_set => k_is)
    (case zq_g8 => k_is)
    (case zq_g4 => k_is)
    (case zq_g9 => k_is)
    (case zq_gs => k_is)

