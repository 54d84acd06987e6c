import PyProof.Rows.All
import Wide.All
import OpenK.AllK
import Wide.FinOn
import KE.KExcSuper
import KE.KCallOwn
import KE.KFmtOwn
import HandS.ForMost
import HandS.ForExc
import HandS.More
import HandS.Star
import HandS.ClsMeth
import HandS.Property
import HandS.IsInst
import HandS.ExcIs
import HandS.OwnEq
import HandS.Deep
import HandS.Strs
import HandS.SetKeys
import HandS.DictComp
import HandS.Conv
import HandS.Style
import HandS.FStr
import HandS.CallSlots
import HandS.Wide
import HandS.TupAny
import HandS.Flow
import HandS.Defaults
import HandS.Set
import HandS.SetFor
import HandS.Walk
import PySem.Challenge.RW_treefits_k01_names_and_languages
set_option Elab.async false
set_option linter.all false
set_option maxRecDepth 100000
set_option maxHeartbeats 4000000
/-! own errors whose __init__ says super().__init__(x) -/
namespace PySem
namespace TfS
open PySem.W PySem.Calls PyProof.Rows PySem.HandSPX
def iA (n : Str) (p1 p2 : Pos) : Arguments := { posonlyargs := [], args := [{ arg := "self", annotation := none, pos := p1 }, { arg := n, annotation := none, pos := p2 }], vararg := none, kwonlyargs := [], kw_defaults := [], kwarg := none, defaults := [] }
def sB (n : Str) (q1 q2 q3 q4 q5 q6 : Pos) : Stmt := .Expr (.Call (.Attribute (.Call (.Name "super" q1) [] [] q2) "__init__" q3) [.Name n q4] [] q5) q6
def cB (n : Str) (q1 q2 q3 q4 q5 : Pos) : Expr := .Call (.Attribute (.Call (.Name "super" q1) [] [] q2) "__init__" q3) [.Name n q4] [] q5
def iS (n : Str) : Scope := { kind := .function, names := [(PySem.Str.ofString "self", .local), (n, .local), (PySem.Str.ofString "__class__", .free), (PySem.Str.ofString "super", .globalImplicit)], isGenerator := false, isCoroutine := false, more := [] }
/-- the written part says: x is an error class at C over the built-in B; its __init__, of the class at D, is at fI: super().__init__(n), then rest -/
structure SupTxt (prog : Program) (K : Frag) (mg : Str → Option Value) (B newId initId : String) (bmB : List Value) (x n qual : Str) (rest : List Stmt) (C D fI : Addr) : Prop where
  gC : mg x = some (.ref C)
  cls : ∃ nm q N bs bm sn sub ab col dd k0 k1 k2 k3 k5, K.lookup C = some (excClassObj nm q C N bs bm true sn sub ab col dd k0 k1 k2 k3 k5 newId) ∧ (∀ X : String, bm.contains (.type X) = bmB.contains (.type X))
  iC : findIn K (.ref C) "__init__" = some (some (.ref fI))
  tC : typeIn K (.ref fI) = some (.type "function")
  kC : keepIn K (.ref C) = true
  exC : subIn K (.ref C) (.type "BaseException") = some true
  tyC : typeIn K (.ref C) = some (.type "type")
  suB : subIn K (.ref C) (.type B) = some true
  sup : ks_superIn K C D "__init__" = some (some (.builtin initId))
  opq : nsIn K cStatics "thirdparty.any" = some none
  fn : ∃ (oc : Value) (od : Option Addr) (doc pm : Value) (an : Option Addr) (cda : Addr) (ct : Value) (osl : Array (Option Value)) (p1 p2 q1 q2 q3 q4 q5 q6 : Pos) (cc : Addr) (ccl : Value) (cdd : Option Addr) (vs : Array Value) (ccs : Array (Option Value)) (file : Str) (tf : Tok) (cl : Value) (cld : Option Addr) (csl : Array (Option Value)),
    K.lookup fI = some ⟨oc, od, .func (ksFn "__init__" qual (iA n p1 p2) (sB n q1 q2 q3 q4 q5 q6 :: rest) (iS n) .none .none doc pm an (.ref cda) ct cc), osl⟩ ∧ codeIn K (.ref cda) qual = true ∧
    K.lookup cda = some ⟨ccl, cdd, .fields vs, ccs⟩ ∧ vs[2]? = some (.str file tf) ∧ ((prog.main.file : Str) == file) = true ∧ K.lookup cc = some ⟨cl, cld, .cell (some (.ref D)), csl⟩ ∧
    ∀ env : Env, ∃ pl : Sem Bool, eval (cB n q1 q2 q3 q4 q5) env = (do
      let ov ← attributeBase (.Call (.Name "super" q1) [] [] q2) "__init__" env (eval (.Call (.Name "super" q1) [] [] q2) env)
      standAt q3.atName
      let (f, first) ← holding [ov] (getMethod ov "__init__" pl)
      callWith q5 f first (backTo q5 (starEach [.Name n q4] env)) [])
  clD : ∃ cdD, clsIn K D = some cdD
  inD : mroIn K C (.ref D) = some true
  noS : mg "super" = none
  topS : (prog.main.scope.names.lookup ("super" : Str)).isSome = false
/-- the module's names, in a heap -/
def Glb (mg : Str → Option Value) (h : Heap) : Prop := h.Ns mainGlobals mg ∧ ∃ mb, h.Ns builtinsNs mb ∧ ∀ x : Str, x ≠ "__name__" → mb x = bootBuiltins x
section
variable {prog : Program} {w : World} {A : Around} {E : Value → Shared → Prop} {R : Result → Shared → Prop} {s : Shared} {K : Frag} {mg : Str → Option Value} {B newId initId : String} {bmB : List Value} {x n qual : Str} {rest : List Stmt} {C D fI : Addr}
/-- the bound built-in __init__, called -/
theorem bw_call {u e t0 : Addr} {vs : List Value} {Q : Value → Shared → Prop} {h : Heap} {g : Array GenState} {d : Drawn} {t : Nat} {os : OsState} {nm q : Str} {N : Addr} {bs bm : List Value} {sn : List Str} {sub : List Value} {ab : Bool} {col : Option Bool} {dd : Option Addr} {k0 k1 k2 k3 k5 : Option Value}
    (FB : ExcBaseFacts B newId initId bmB) (hC : h.get? C = some (excClassObj nm q C N bs bm true sn sub ab col dd k0 k1 k2 k3 k5 newId)) (he : h.get? e = some (excO C t0)) (hu : h.get? u = some (kxs_mw initId e)) (hz : vs.length ≤ sizeLine)
    (hq : ∀ h' t1, (∀ b o, b ≠ e → h.get? b = some o → h'.get? b = some o) → h'.get? e = some (excO C t1) → Q .none ⟨h', g, d, t, os⟩) :
    wpAny (model prog w) A (call (.ref u) vs) Q E ⟨h, g, d, t, os⟩ := by
  refine wpAny_call (codeAny_of_tree ?_)
  show wpAny _ A.in1 (callAny (.ref u) ⟨vs, []⟩) _ _ _
  simp only [callAny]
  refine wpAny_bind (wpAny_load hu ?_)
  simp only [kxs_mw, show (Value.type "method-wrapper" == Value.type "method" || Value.type "method-wrapper" == Value.type "builtin_function_or_method" || Value.type "method-wrapper" == Value.type "method-wrapper") = true by decide, if_true]
  refine W.KFB.if_so (by decide) ?_
  refine wpAny_bind (check_bound_init FB.toExcCallFacts hC he rfl ?_)
  refine wpAny_bind (wpAny_pure (wpAny_pure ?_))
  refine ⟨plainId_quiet FB.init.plain _, codeAny_builtin FB.initEntry ?_⟩
  exact exc_init_tree (cls := .ref C) (t0 := t0) (dv := none) (c2 := .none) (c3 := .none) (b4 := .bool false) he hz fun h' k e' _ => hq h' _ k e'
/-- __init__ of such a class, at a fresh error -/
theorem sup_init (KF : KxsFacts B initId) (FB : ExcBaseFacts B newId initId bmB) (T : SupTxt prog K mg B newId initId bmB x n qual rest C D fI) (l2 : (iS n).names.lookup n = some .local) (l3 : (iS n).names.lookup ("__class__" : Str) = some .free) (l4 : (iS n).names.lookup ("super" : Str) = some .globalImplicit) (hnd : (n == ("__debug__" : Str)) = false) (hns : (n == ("self" : Str)) = false)
    (hbd : ∀ (q : Str) (p1 p2 : Pos) (b : List Stmt) (doc pm : Value) (an : Option Addr) (cdv ct : Value) (cc : Addr) (e v : Value), bindArgs (ksFn "__init__" q (iA n p1 p2) b (iS n) .none .none doc pm an cdv ct cc) ⟨[e, v], []⟩ = pure [(("self" : Str), e), (n, v)])
    {e t0 : Addr} {v : Value} (X : K.In s.heap) (G : Glb mg s.heap) (hlim : s.heap.NoLimit) (hx : s.heap.get? e = some (excO C t0)) (hnx : K.lookup e = none) (hroom : A.depth < recursionLimit)
    (hq : ∀ (env : Env) (h' : Heap) (tk : Nat) (t1 : Addr) (m : Str → Option Value) (c : Code), (∀ b o, b ≠ e → s.heap.get? b = some o → h'.get? b = some o) → h'.get? e = some (excO C t1) → h'.Ns env.locals m → m "self" = some (.ref e) → m n = some v → env.scope = iS n → s.heap.objs.size ≤ env.locals →
      PySem.wpAt (model prog w) (A.deeper env) c (execs rest env) (fun f s' => R (.ok (.ret (match f with | .ret v => v | _ => .none))) s')
        (fun e s' => wpAny (model prog w) (A.deeper env) (leaving env e) (fun _ s'' => R (.error e) s'') (fun e' s'' => R (.error e') s'') s') { s with heap := h', toks := tk }) :
    codeAny (model prog w) A (.call (.ref fI) ⟨[.ref e, v], []⟩) R s := by
  obtain ⟨oc, od, doc, pm, an, cda, ct, osl, p1, p2, q1, q2, q3, q4, q5, q6, cc, ccl, cdd, vs, ccs, file, tf, cl, cld, csl, ho, hcd, hcode, hvs, hfile, hcell, hev⟩ := T.fn
  obtain ⟨nm, q, N, bs, bm, sn, sub, ab, col, dd, k0, k1, k2, k3, k5, hC, hT⟩ := T.cls
  obtain ⟨cdD, hD⟩ := T.clD
  obtain ⟨hg, mb, hb, hmb⟩ := G
  obtain ⟨hh, g, d, t, os⟩ := s
  have hcl : clsIn K C = some { name := nm, bases := bs, mro := .ref C :: bm, ns := N, qualname := q, hasDict := true, slotNames := sn, subclasses := sub, abstract := ab, collection := col, hasDel := false } := by unfold clsIn; rw [hC] <;> rfl
  have l1 : (iS n).names.lookup ("self" : Str) = some .local := rfl
  refine ks_codeAny_call_defAt (fd := ksFn "__init__" qual (iA n p1 p2) (sB n q1 q2 q3 q4 q5 q6 :: rest) (iS n) .none .none doc pm an (.ref cda) ct cc) (body := sB n q1 q2 q3 q4 q5 q6 :: rest) (binds := [("self", .ref e), (n, v)]) hroom (X _ _ ho) rfl hlim (codeRec_of X hcd) rfl
    (BindsTo.of_eq (hbd _ _ _ _ _ _ _ _ _ _ _ _)) ?_ ?_ (fun h₁ hn1 hk₁ => ?_) rfl rfl rfl
  · intro y hy
    simp only [iS, List.mem_cons, List.not_mem_nil, or_false] at hy
    rcases hy with rfl | rfl | rfl | rfl <;> exact fun z => nomatch z
  · intro y hy
    simp only [List.mem_cons, List.not_mem_nil, or_false] at hy
    rcases hy with rfl | rfl
    · exact l1
    · exact l2
  have hk₁' : ∀ b o, hh.get? b = some o → h₁.get? b = some o := hk₁
  have X1 : K.In h₁ := X.keeps hk₁'
  have hx1 := hk₁' _ _ hx
  have eL : hh.objs.size ≠ e := Nat.ne_of_gt (Heap.lt_size hx)
  have mself : ([("self", Value.ref e), (n, v)] : List (Str × Value)).reverse.lookup ("self" : Str) = some (.ref e) := by
    show (match ("self" : Str) == n with | true => _ | false => _) = _
    have : (("self" : Str) == n) = false := by
      simp only [beq_eq_false_iff_ne, ne_eq] at hns ⊢
      exact fun z => hns z.symm
    rw [this]
    rfl
  have mn : ([("self", Value.ref e), (n, v)] : List (Str × Value)).reverse.lookup n = some v := by
    show (match n == n with | true => _ | false => _) = _
    simp
  have ICe : InstAt h₁ e (excO C t0) C none := ⟨hx1, rfl, rfl, trivial⟩
  obtain ⟨pl, hev⟩ := hev (callEnv (ksFn "__init__" qual (iA n p1 p2) (sB n q1 q2 q3 q4 q5 q6 :: rest) (iS n) .none .none doc pm an (.ref cda) ct cc) hh.objs.size fI)
  refine ks_wpAt_execs_cons (ks_wpAt_Expr_any (ks_wpAt_MethodCall (pl := pl) ?_ hev))
  refine ks_wpAt_super_base (env := ksEnv qual (iS n) hh.objs.size fI (.ref cda) cc) l4 l3 (by decide +kernel) rfl (X1 _ _ ho) rfl (ar := { arg := "self", annotation := none, pos := p1 }) rfl rfl (X1 _ _ hcode) rfl hvs hfile T.topS ?_
  refine ks_loadName_global rfl l4 (loadGlobal_builtin (env := ksEnv qual (iS n) hh.objs.size fI (.ref cda) cc) (hg.keeps hk₁') T.noS (hb.keeps hk₁') ((hmb _ (by decide +kernel)).trans (by decide +kernel)) ⟨rfl, ?_⟩)
  refine wpAny_loadName_free rfl l3 rfl ⟨_, X1 _ _ hcell, rfl⟩ ?_
  refine wpAny_loadName_local rfl l1 hn1 mself ?_
  obtain ⟨oD, hD1, hD2⟩ : ∃ oD, h₁.get? D = some oD ∧ oD.data = .cls cdD := by
    unfold clsIn at hD
    split at hD
    · rename_i c d cd' sl ho
      cases hD
      exact ⟨_, X1 _ _ ho, rfl⟩
    · cases hD
  refine ks_wpAny_isType_cls hD1 hD2 ⟨rfl, ?_⟩
  refine ks_wpAny_call_super hD1 hD2 hx1 rfl (fun c z => nomatch z) (looks_mroIn X1 T.inD) (fun h2 e2 k2 => ?_)
  -- the bound __init__
  have X2 : K.In h2 := X1.keeps k2
  have hsup := T.sup
  unfold ks_superIn at hsup
  rw [hcl] at hsup
  have ICe2 : InstAt h2 e (excO C t0) C none := ⟨k2 _ _ hx1, rfl, rfl, trivial⟩
  refine kxs_getMethod KF e2 (looks_opaque X2 T.opq) (l₀ := .ref C :: bm) ?_ rfl X2 hsup (ICe2.type.andThen (looks_subIn X2 T.suB)) (ks_ne X2 ICe2 hcl) (by decide +kernel) ?_
  · exact fun A Q E s k q => wpAny_bind ((looks_clsIn X2 hcl) A _ E s k (wpAny_pure q))
  have k3 : ∀ b o, h2.get? b = some o → (h2.push (kxs_mw initId e)).get? b = some o := fun b o z => Heap.get?_push_of_some _ z
  have hu : (h2.push (kxs_mw initId e)).get? h2.objs.size = some (kxs_mw initId e) := Heap.get?_push_at rfl rfl
  refine kxs_callWith (i := initId) (x := e) rfl ?_
  refine evalArgs_plain (spliced_cons ?_)
  have hn3 : (h2.push (kxs_mw initId e)).Ns hh.objs.size (fun y => ([("self", Value.ref e), (n, v)] : List (Str × Value)).reverse.lookup y) := hn1.keeps fun b o z => k3 b o (k2 b o z)
  refine wpAny_Name (wpAny_loadName_local rfl l2 hn3 mn (spliced_nil ⟨hu, ?_⟩)) hnd
  refine bw_call FB (k3 _ _ (k2 _ _ (X1 _ _ hC))) (k3 _ _ (k2 _ _ hx1)) hu (by show 1 ≤ sizeLine; rw [sizeLine_eq]; omega) fun h4 t1 k4 e4 => ?_
  refine hq (ksEnv qual (iS n) hh.objs.size fI (.ref cda) cc) h4 _ t1 (fun y => ([("self", Value.ref e), (n, v)] : List (Str × Value)).reverse.lookup y) _ (fun b o hb z => k4 b o hb (k3 b o (k2 b o (hk₁' b o z)))) e4 ?_ mself mn rfl (Nat.le_refl _)
  obtain ⟨oL, es, ep, hL, r⟩ := hn3
  exact ⟨oL, es, ep, k4 _ _ eL hL, r⟩
/-- C(v), nothing behind super().__init__ -/
theorem sup_made (KF : KxsFacts B initId) (FB : ExcBaseFacts B newId initId bmB) (T : SupTxt prog K mg B newId initId bmB x n qual [] C D fI) (l2 : (iS n).names.lookup n = some .local) (l3 : (iS n).names.lookup ("__class__" : Str) = some .free) (l4 : (iS n).names.lookup ("super" : Str) = some .globalImplicit) (hnd : (n == ("__debug__" : Str)) = false) (hns : (n == ("self" : Str)) = false)
    (hbd : ∀ (q : Str) (p1 p2 : Pos) (b : List Stmt) (doc pm : Value) (an : Option Addr) (cdv ct : Value) (cc : Addr) (e v : Value), bindArgs (ksFn "__init__" q (iA n p1 p2) b (iS n) .none .none doc pm an cdv ct cc) ⟨[e, v], []⟩ = pure [(("self" : Str), e), (n, v)])
    {v : Value} (X : K.In s.heap) (G : Glb mg s.heap) (hlim : s.heap.NoLimit) (hroom : A.depth + 1 < recursionLimit)
    (hq : ∀ h' tk e t1, (∀ b o, s.heap.get? b = some o → h'.get? b = some o) → s.heap.objs.size ≤ e → h'.get? e = some (excO C t1) → R (.ok (.ret (.ref e))) { s with heap := h', toks := tk }) :
    codeAny (model prog w) A (.call (.ref C) ⟨[v], []⟩) R s := by
  obtain ⟨nm, q, N, bs, bm, sn, sub, ab, col, dd, k0, k1, k2, k3, k5, hC, hT⟩ := T.cls
  obtain ⟨hp, g, dr, tk, os⟩ := s
  have k : ∀ b o, hp.get? b = some o → ((hp.push (kdv_tup [v])).push (excO C hp.objs.size)).get? b = some o := fun b o e => Heap.get?_push_of_some _ (Heap.get?_push_of_some _ e)
  have hget : ((hp.push (kdv_tup [v])).push (excO C hp.objs.size)).get? (hp.objs.size + 1) = some (excO C hp.objs.size) := by heap_get
  have hnx : K.lookup (hp.objs.size + 1) = none := by
    cases e : K.lookup (hp.objs.size + 1) with
    | none => rfl
    | some o =>
      have z : hp.get? (hp.objs.size + 1) = some o := X _ _ e
      exact absurd (Nat.lt_of_succ_lt (Heap.lt_size z)) (Nat.lt_irrefl _)
  refine call_own FB hT (X _ _ hC) (looks_findIn X T.iC) (fun self => bind_fn X self T.tC) (by show 1 ≤ sizeLine; rw [sizeLine_eq]; omega) ?_
  obtain ⟨hg, mb, hb, hmb⟩ := G
  refine sup_init (s := ⟨(hp.push (kdv_tup [v])).push (excO C hp.objs.size), g, dr, tk, os⟩) KF FB T l2 l3 l4 hnd hns hbd (X.keeps k) ⟨hg.keeps k, mb, hb.keeps k, hmb⟩ (hlim.keeps k) hget hnx ?_ fun env h' tk' t1 m c k' hx hn' ms mn es le => ?_
  · show A.depth + 1 < recursionLimit
    exact hroom
  · refine wpAt_of_wpAny (wpAny_execs_nil ?_)
    have old : ∀ b o, hp.get? b = some o → h'.get? b = some o := fun b o e => k' b o (Nat.ne_of_lt (Nat.lt_succ_of_lt (Heap.lt_size e))) (k b o e)
    exact ⟨rfl, hq h' tk' (hp.objs.size + 1) t1 old (Nat.le_succ _) hx⟩
end
end TfS
end PySem
namespace L2
open PySem PySem.Spec PyProof.Rows
section
variable {X : Cx} {B newId initId : String} {bmB : List Value} {x n qual : Str} {C D fI : Addr}
theorem Inv.glb {pins : List (Addr × Obj)} {σ : St} {H : Hp} {s : Shared} (I : Inv X pins σ H s) : PySem.TfS.Glb X.mg s.heap := by
  obtain ⟨mb, hb, hm⟩ := I.ok.mod.blt
  exact ⟨I.ok.mod.glob.keeps I.bk, mb, hb.keeps I.bk, hm⟩
/-- x(a): a new error of the class at C, without a dict of its own -/
def tMkS (C : Addr) (ta : TA) : St → Hp → XK → Prop := fun σ H Q => ta σ H fun vs H1 => ∃ v, vs = [v] ∧ Q (.ref C) none H1
theorem pmk_sup {a : Expr} {ta : TA} {p pos : Pos} {k : Nat} (KF : PySem.W.KxsFacts B initId) (FB : ExcBaseFacts B newId initId bmB) (T : PySem.TfS.SupTxt X.prog X.K X.mg B newId initId bmB x n qual [] C D fI) (hr : Room k X.A) (ha : PA X [a] ta)
    (l2 : (PySem.TfS.iS n).names.lookup n = some .local) (l3 : (PySem.TfS.iS n).names.lookup ("__class__" : Str) = some .free) (l4 : (PySem.TfS.iS n).names.lookup ("super" : Str) = some .globalImplicit) (hnd : (n == ("__debug__" : Str)) = false) (hns : (n == ("self" : Str)) = false)
    (hbd : ∀ (q : Str) (p1 p2 : Pos) (b : List Stmt) (doc pm : Value) (an : Option Addr) (cdv ct : Value) (cc : Addr) (e v : Value), bindArgs (PySem.W.ksFn "__init__" q (PySem.TfS.iA n p1 p2) b (PySem.TfS.iS n) .none .none doc pm an cdv ct cc) ⟨[e, v], []⟩ = pure [(("self" : Str), e), (n, v)])
    (hg : Gl X x := by rfl) (hdb : (x == ("__debug__" : Str)) = false := by decide)
    (he : starEach (a :: []) X.env = (false, eval a X.env) :: starEach [] X.env := by rfl) (hpl : (backTo pos (starEach [] X.env)).any (·.1) = false := by rfl) :
    PMk X (.Call (.Name x p) [a] [] pos) (tMkS C ta) := by
  intro pins s σ H Q I h
  refine wpAny_Call_Name_kw (ld_glob I hg T.gC ?_ hdb)
  refine PySem.W.callWith_K (h₀ := X.base) I.ok.mod.kin T.kC (thn (ha.run pos pins s σ H _ I h) fun us s1 hh => ?_) he hpl
  obtain ⟨vs, H1, I1, r1, v, ev, q1⟩ := hh
  subst ev
  refine ⟨I1.kIn, ?_⟩
  cases r1 with
  | cons rv rn =>
    rename_i v' us'
    cases rn
    show wpAny _ _ (call (.ref C) [v']) _ _ _
    have hlim := I1.nolimit
    refine wpAny_call (PySem.TfS.sup_made KF FB T l2 l3 l4 hnd hns hbd I1.kIn I1.glb hlim (by have := hr.dp; omega) fun h' tk' e t1 kp new he' => ?_)
    show MkP X pins σ Q (.ref e) _
    exact ⟨e, _, _, s1, H1, .ref C, none, rfl, I1, kp, Heap.get?_none_of_le new, he', ⟨rfl, rfl⟩, rfl, rfl, I1.hok.fresh new, rfl, I1.bare, raises_own T.exC T.tyC, q1⟩
end
end L2

/-! own special methods: len(o), x in o, o == x, o != x, str(o) -/
namespace PySem
namespace TfO
open PySem.W PySem.Calls PyProof.Rows
section
variable {prog : Program} {w : World} {M : Model} {A : Around} {E : Value → Shared → Prop} {s : Shared} {K : Frag} {x C f : Addr} {ox : Obj} {od : Option Obj} {b tb : Value}
theorem ifBound_B {name : Str} {id : String} {args : List Value} {Q : Option Value → Shared → Prop} (X : K.In s.heap) (I : InstAt s.heap x ox C od) (hs : findIn K (.ref C) name = some (some (.builtin id)))
    (hb : ∀ self, bindSpecial (.builtin id) self = pure (.builtin id, [self])) (h : wpAny M A (call (.builtin id) (.ref x :: args)) (fun v => Q (some v)) E s) : wpAny M A (callSpecialIfBound? (.ref x) name args) Q E s := by
  simp only [callSpecialIfBound?, bindSpecialIfBound?]
  refine wpAny_holding (wpAny_bind (wpAny_bind (wpAny_bind (I.type.here ((looks_findIn X hs).here ?_)))))
  refine wpAny_bind (wpAny_askSetting (wpAny_ite ?_))
  have fin : wpAny M A (call (.builtin id) ([.ref x] ++ args) >>= fun v => pure (some v)) Q E s := wpAny_bind (wpAny_mono h (fun v s' h' => wpAny_pure h') fun _ _ h' => h')
  split
  · exact wpAny_bind ((Looks.of_pure (hb _)).here (wpAny_pure (by exact fin)))
  · exact wpAny_tryCatch (wpAny_bind ((Looks.of_pure (hb _)).here (wpAny_pure (by exact fin))))
theorem slot_one : Slot "object" "__ne__" "object.__ne__" := .of (owner := "object") (n := "__ne__") (by rw [typeLookup_type, builtinLookup_eq_fast]; kernel_rfl) (by decide +kernel) (by decide +kernel) (by decide +kernel) (by first | exact .inl (by decide +kernel) | exact .inr (by decide +kernel)) (by rw [isSubtype_type]; kernel_rfl)
/-- o != b: no own __ne__, an own __eq__ that answers with a bool -/
theorem ne_K {Q : Value → Shared → Prop} (hu : A.units + 1 < cLine) (X : K.In s.heap) (I : InstAt s.heap x ox C od) (hb : Looks (model prog w) s.heap (typeOf b) tb) (hn : notFirst K C tb = true)
    (hs : findIn K (.ref C) "__eq__" = some (some (.ref f))) (hf : isFn K (.ref f) = true) (hne : findIn K (.ref C) "__ne__" = some (some (.builtin "object.__ne__"))) (hm : mroIn K C (.type "object") = some true)
    (h : wpAny (model prog w) A.in1 (call (.ref f) [.ref x, b]) (fun v s' => ∃ r, v = .bool r ∧ Q (.bool (!r)) s') E s) : wpAny (model prog w) A (richCompare .NotEq (.ref x) b) Q E s := by
  have one : wpAny (model prog w) A (tryCompare (.ref x) (cmpInfo .NotEq).2.1 b) (fun r s' => ∃ v, r = some v ∧ Q v s') E s := by
    unfold tryCompare
    refine wpAny_bind (ifBound_B (name := "__ne__") X I hne slot_one.bind ?_)
    refine wpAny_call (codeAny_call_builtin slot_one.plain F.cmpEntry_ne (check_slot (i := "object.__ne__") (owner := "object") (n := "__ne__") F.cmpKind_ne F.cmpSplit_ne (I.type.andThen (looks_mroIn X hm)) (F.cmpArgs_ne _ _) ?_))
    unfold Builtin.«object.__ne__»
    refine wpAny_bind (m := slotArgs "__ne__" 1 _) (wpAny_pure ?_)
    refine wpAny_bind (m := cRoomFor _ _) (wpAny_cRoomFor hu ?_)
    refine wpAny_bind (m := callSpecialIfBound? (.ref x) (Str.ofString "__eq__") _) (ifBound_K X I hs hf (wpAny_mono h (fun r s' hq => ?_) fun _ _ y => y))
    obtain ⟨r, rfl, hq⟩ := hq
    refine wpAny_bind (m := truthy (.bool r)) (wpAny_truthy_bool ?_)
    exact wpAny_pure (wpAny_pure ⟨_, rfl, hq⟩)
  unfold richCompare
  simp only [oneThing_ref]
  refine wpAny_holding (wpAny_bind (wpAny_cRoomFor (Nat.lt_of_succ_lt hu) ?_))
  refine wpAny_bind (I.type.here (wpAny_bind (hb.here ?_)))
  split
  · rename_i q
    have e : subIn K tb (.ref C) = some false := by
      rcases Bool.or_eq_true_iff.mp hn with e | e
      · rw [beq_iff_eq.mp e] at q; simp at q
      · exact beq_iff_eq.mp e
    refine wpAny_bind ((looks_subIn X e).here ?_)
    simp only [Bool.false_eq_true, if_false]
    refine wpAny_bind (wpAny_mono one (fun r s' z => ?_) fun _ _ e => e)
    obtain ⟨v, rfl, hq⟩ := z
    exact wpAny_pure hq
  · refine wpAny_bind (wpAny_pure ?_)
    simp only [Bool.false_eq_true, if_false]
    refine wpAny_bind (wpAny_mono one (fun r s' z => ?_) fun _ _ e => e)
    obtain ⟨v, rfl, hq⟩ := z
    exact wpAny_pure hq
end
end TfO
end PySem
namespace L2
open PySem PySem.Spec PyProof.Rows
section
variable {X : Cx} {CX : CXT} {k : Nat} {f C : Addr} {sp : Sp} {E : XK}
theorem run_sub {pins : List (Addr × Obj)} {σ : St} {H : Hp} {s : Shared} {Q : VK} {A : Around} {us : List Value} {vs : List V} (F : FnR X.prog X.w X.K X.mg X.base CX k f sp) (sb : Sub X k A) (hx : Passes CX X E) (I : Inv X pins σ H s) (r : Vals vs us) (h : sp vs H Q E) :
    wpAny (model X.prog X.w) A (call (.ref f) us) (EP X pins σ Q) X.xe s := by
  have e0 : Env0 X.prog X.w X.K X.mg X.base A X.stack s H := by
    have e := I.env0
    exact ⟨by rw [sb.fr]; exact e.frames, e.mod, e.bs, e.bsz, e.funs, e.frf, e.hok, e.bare⟩
  refine wpAny_call (codeAny_mono (F A X.stack s H us vs Q E sb.room e0 r h) fun r s' hq => ?_)
  cases r with
  | error e => exact hx pins σ H s e s' I hq
  | ok fl =>
    cases fl with
    | ret w => exact I.after hq
    | next => exact False.elim hq
    | brk => exact False.elim hq
    | cont => exact False.elim hq
theorem sub0 (hr : Room k X.A) : Sub X k X.A := ⟨hr, rfl⟩
theorem sub1 (hr : Room (k + 1) X.A) : Sub X k X.A.in1 := ⟨hr.in1, rfl⟩
theorem sub2 (hr : Room (k + 2) X.A) : Sub X k X.A.in1.in1 := ⟨hr.in1.in1, rfl⟩
/-- an instance as the library sees it -/
theorem ins_at {pins : List (Addr × Obj)} {σ : St} {H : Hp} {s : Shared} {a dx : Addr} {fs : List (Str × V)} (I : Inv X pins σ H s) (h : H a = some (.ins C dx fs)) : ∃ ox od, PySem.W.InstAt s.heap a ox C od := by
  obtain ⟨mA, O, _⟩ := ins_get I.hok h
  obtain ⟨od, J, _⟩ := O.look
  exact ⟨_, _, J⟩
/-- C's special method named m is the def at f -/
structure Own (K : PySem.W.Frag) (C : Addr) (m : Str) (f : Addr) : Prop where
  at_ : PySem.W.findIn K (.ref C) m = some (some (.ref f))
  fn : PySem.W.isFn K (.ref f) = true
def bk (Q : VK) : VK := fun v H' => ∃ b, v = .bl b ∧ Q (.bl b) H'
/-- len(o) -/
def rLenO (C : Addr) (sp : Sp) (E : XK) : List V → Hp → VK → Prop := fun xs H Q => ∃ a dx fs, xs = [.ref a] ∧ H a = some (.ins C dx fs) ∧ sp [.ref a] H (fun v H' => ∃ n : Int, v = .int n ∧ 0 ≤ n ∧ n < 2 ^ 63 ∧ Q (.int n) H') E
theorem call_lenO (o : Own X.K C "__len__" f) (F : FnR X.prog X.w X.K X.mg X.base CX k f sp) (hr : Room (k + 1) X.A) (hx : Passes CX X E) : CallR X (.builtin "len") (rLenO C sp E) := by
  intro pins s σ H xs us Q I r h
  obtain ⟨a, dx, fs, rfl, ha, h⟩ := h
  cases r with
  | cons ra rn =>
    cases rn
    cases ra
    obtain ⟨ox, od, J⟩ := ins_at I ha
    obtain ⟨m, hF⟩ := I.fr
    refine PySem.W.len_K hF I.ok.mod.kin J o.at_ o.fn (wpAny_mono (run_sub F (sub1 hr) hx I (vs := [.ref a]) (.cons rfl .nil) h) (fun v s' q => ?_) fun _ _ z => z)
    obtain ⟨v', H', I', rv, n, rfl, h0, h1, q⟩ := q
    obtain ⟨t, rfl⟩ := rv
    exact ⟨⟨h0, h1⟩, .int n, H', I'.tok _, ⟨_, rfl⟩, q⟩
/-- x in o, x not in o -/
def rInO (C : Addr) (sp : Sp) (E : XK) (neg : Bool) : R2 := fun x y H Q => ∃ a dx fs, y = .ref a ∧ H a = some (.ins C dx fs) ∧ sp [.ref a, x] H (fun v H' => ∃ b, v = .bl b ∧ Q (.bl (if neg then !b else b)) H') E
theorem op_inO (o : Own X.K C "__contains__" f) (F : FnR X.prog X.w X.K X.mg X.base CX k f sp) (hr : Room k X.A) (hx : Passes CX X E) : OpR X (compareOp .In) (rInO C sp E false) := by
  intro pins s σ H x y u v Q I rx ry h
  obtain ⟨a, dx, fs, rfl, ha, h⟩ := h
  cases ry
  obtain ⟨ox, od, J⟩ := ins_at I ha
  obtain ⟨m, hF⟩ := I.fr
  refine PySem.W.in_K hF I.ok.mod.kin J o.at_ o.fn (wpAny_mono (run_sub F (sub0 hr) hx I (vs := [.ref a, x]) (.cons rfl (.cons rx .nil)) h) (fun v s' q => ?_) fun _ _ z => z)
  obtain ⟨v', H', I', rv, b, rfl, q⟩ := q
  cases rv
  exact wpAny_truthy_bool ⟨.bl b, H', I', rfl, q⟩
theorem op_notInO (o : Own X.K C "__contains__" f) (F : FnR X.prog X.w X.K X.mg X.base CX k f sp) (hr : Room k X.A) (hx : Passes CX X E) : OpR X (compareOp .NotIn) (rInO C sp E true) := by
  intro pins s σ H x y u v Q I rx ry h
  obtain ⟨a, dx, fs, rfl, ha, h⟩ := h
  cases ry
  obtain ⟨ox, od, J⟩ := ins_at I ha
  obtain ⟨m, hF⟩ := I.fr
  refine PySem.W.notIn_K hF I.ok.mod.kin J o.at_ o.fn (wpAny_mono (run_sub F (sub0 hr) hx I (vs := [.ref a, x]) (.cons rfl (.cons rx .nil)) h) (fun v s' q => ?_) fun _ _ z => z)
  obtain ⟨v', H', I', rv, b, rfl, q⟩ := q
  cases rv
  exact wpAny_truthy_bool ⟨.bl (!b), H', I', rfl, q⟩
/-- the type of y, seen in the heap -/
def TyL (X : Cx) (H : Hp) (y : V) (tb : Value) : Prop := ∀ (pins : List (Addr × Obj)) (σ : St) (s : Shared) (u : Value), Inv X pins σ H s → RelV y u → PySem.W.Looks (model X.prog X.w) s.heap (typeOf u) tb
theorem TyL.ins {H : Hp} {b dx : Addr} {fs : List (Str × V)} (h : H b = some (.ins C dx fs)) : TyL X H (.ref b) (.ref C) := fun pins σ s u I r => by
  cases r
  obtain ⟨ox, od, J⟩ := ins_at I h
  exact J.type
/-- o == y, o != y -/
def rEqO (X : Cx) (C : Addr) (sp : Sp) (E : XK) (neg : Bool) : R2 := fun x y H Q => ∃ a dx fs tb, x = .ref a ∧ H a = some (.ins C dx fs) ∧ TyL X H y tb ∧ PySem.W.notFirst X.K C tb = true ∧ sp [.ref a, y] H (fun v H' => ∃ b, v = .bl b ∧ Q (.bl (if neg then !b else b)) H') E
theorem op_eqO (o : Own X.K C "__eq__" f) (F : FnR X.prog X.w X.K X.mg X.base CX k f sp) (hr : Room k X.A) (hx : Passes CX X E) : OpR X (compareOp .Eq) (rEqO X C sp E false) := by
  intro pins s σ H x y u v Q I rx ry h
  obtain ⟨a, dx, fs, tb, rfl, ha, ht, hn, h⟩ := h
  cases rx
  obtain ⟨ox, od, J⟩ := ins_at I ha
  obtain ⟨m, hF⟩ := I.fr
  show wpAny (model X.prog X.w) X.A (richCompare .Eq (.ref a) v) (EP X pins σ Q) X.xe s
  refine PySem.W.cmp_K (op := .Eq) (tb := tb) (by have := hr.un; omega) hF I.ok.mod.kin J (ht _ _ _ _ I ry) hn o.at_ o.fn (wpAny_mono (run_sub F (sub0 hr) hx I (vs := [.ref a, y]) (.cons rfl (.cons ry .nil)) h) (fun v s' q => ?_) fun _ _ z => z)
  obtain ⟨v', H', I', rv, b, rfl, q⟩ := q
  cases rv
  exact ⟨.bl b, H', I', rfl, q⟩
theorem op_neO (o : Own X.K C "__eq__" f) (hne : PySem.W.findIn X.K (.ref C) "__ne__" = some (some (.builtin "object.__ne__"))) (hm : PySem.W.mroIn X.K C (.type "object") = some true) (F : FnR X.prog X.w X.K X.mg X.base CX k f sp) (hr : Room (k + 1) X.A) (hx : Passes CX X E) : OpR X (compareOp .NotEq) (rEqO X C sp E true) := by
  intro pins s σ H x y u v Q I rx ry h
  obtain ⟨a, dx, fs, tb, rfl, ha, ht, hn, h⟩ := h
  cases rx
  obtain ⟨ox, od, J⟩ := ins_at I ha
  show wpAny (model X.prog X.w) X.A (richCompare .NotEq (.ref a) v) (EP X pins σ Q) X.xe s
  refine PySem.TfO.ne_K (tb := tb) (by have := hr.un; omega) I.kIn J (ht _ _ _ _ I ry) hn o.at_ o.fn hne hm (wpAny_mono (run_sub F (sub1 hr) hx I (vs := [.ref a, y]) (.cons rfl (.cons ry .nil)) h) (fun v s' q => ?_) fun _ _ z => z)
  obtain ⟨v', H', I', rv, b, rfl, q⟩ := q
  cases rv
  exact ⟨b, rfl, .bl (!b), H', I', rfl, q⟩
/-- str(o) -/
def rStrO (C : Addr) (sp : Sp) (E : XK) : List V → Hp → VK → Prop := fun xs H Q => ∃ a dx fs, xs = [.ref a] ∧ H a = some (.ins C dx fs) ∧ sp [.ref a] H (fun v H' => ∃ z, v = .str z ∧ Q (.str z) H') E
theorem call_strO (o : Own X.K C "__str__" f) (F : FnR X.prog X.w X.K X.mg X.base CX k f sp) (hr : Room (k + 2) X.A) (hx : Passes CX X E) : CallR X (.type "str") (rStrO C sp E) := by
  intro pins s σ H xs us Q I r h
  obtain ⟨a, dx, fs, rfl, ha, h⟩ := h
  cases r with
  | cons ra rn =>
    cases rn
    cases ra
    obtain ⟨ox, od, J⟩ := ins_at I ha
    refine PySem.W.kso_call (by have := hr.un; show X.A.units + 1 + 1 < _; omega) I.kIn J o.at_ o.fn (wpAny_mono (run_sub F (sub2 hr) hx I (vs := [.ref a]) (.cons rfl .nil) h) (fun v s' q => ?_) fun _ _ z => z)
    obtain ⟨v', H', I', rv, z, rfl, q⟩ := q
    obtain ⟨t, rfl⟩ := rv
    exact ⟨.str z, H', I', ⟨_, rfl⟩, q⟩
end
end L2

/-! C(*xs, k = v): one starred argument and keywords; a def with *v and keyword-only parameters -/
namespace PySem
namespace TfM
open PySem.W PySem.Calls PyProof.Rows
section
variable {M : Model} {A : Around} {E : Value → Shared → Prop} {s : Shared}
theorem lone_kw {f : Value} {x : Sem Value} {pos : Pos} {kws : List (Option Str × Sem Value)} {Q : Args → Shared → Prop} (hall : kws.all (·.1.isSome) = true)
    (h : wpAny M A x (fun v s₁ => wpAny M A (evalAll (kws.map (·.2))) (fun ks s₂ => StarOf M A E v (fun vs s₃ => Q ⟨vs, (kws.filterMap (·.1)).zip ks⟩ s₃) s₂) E s₁) E s) :
    wpAny M A (evalArgs f true [(true, (do let v ← x; standAt pos; pure v))] kws) Q E s := by
  unfold evalArgs
  first
    | refine wpAny_bind (wpAny_bind (wpAny_mono h (fun v s₁ h₁ => wpAny_bind (wpAny_standAt (wpAny_pure ?_))) fun _ _ x => x))
    | refine wpAny_bind (wpAny_bind (wpAny_bind (wpAny_mono h (fun v s₁ h₁ => wpAny_bind (wpAny_standAt (wpAny_pure (wpAny_pure ?_)))) fun _ _ x => x)))
  refine wpAny_holding ?_
  simp only [hall, if_true]
  refine wpAny_bind (wpAny_mono h₁ (fun ks s₂ h₂ => ?_) fun _ _ x => x)
  unfold StarOf at h₂
  refine wpAny_bind (wpAny_bind (wpAny_mono h₂ (fun b s₃ h₃ => ?_) fun _ _ x => x))
  obtain ⟨rfl, h₃⟩ := h₃
  have z := wpAny_holding (vs := ((kws.filterMap (·.1)).zip ks).map (·.2)) (wpAny_mono h₃ (fun vs s₃ h₃ => (wpAny_pure h₃ : wpAny M A (pure (⟨vs, (kws.filterMap (·.1)).zip ks⟩ : Args)) Q E s₃)) fun _ _ x => x)
  try simp only [Bool.false_eq_true, if_false]
  first
    | exact z
    | exact wpAny_bind z
    | exact wpAny_bind (wpAny_pure z)
theorem call_kw {f : Value} {first : List Value} {pos : Pos} {Q : Value → Shared → Prop} {P : Heap → Prop} {args : List (Bool × Sem Value)} {kws : List (Option Str × Sem Value)} (hst : args.any (·.1) = true)
    (hk : ∀ h, P h → ∃ k, (k = Keeper.frame ∨ k = Keeper.machine ∨ k = Keeper.boundFrame) ∧ Looks M h (keeperOf f) k)
    (h : wpAny M A (evalArgs f true args kws) (fun a s₁ => P s₁.heap ∧ wpAny M A (call f (first ++ a.pos) a.kw) Q E s₁) E s) : wpAny M A (callWith pos f first args kws) Q E s := by
  unfold callWith
  refine wpAny_bind (wpAny_holding (wpAny_mono h (fun a s₁ h₁ => wpAny_bind (wpAny_standAt ?_)) fun _ _ x => x))
  obtain ⟨k, hk', L⟩ := hk _ h₁.1
  simp only [hst, Bool.true_or]
  refine wpAny_bind (L.here ?_)
  have tail : ∀ {t : Sem Value}, wpAny M A t Q E s₁ → wpAny M A (t >>= fun r => holding [r] point >>= fun _ => pure r) Q E s₁ :=
    fun ht => wpAny_bind (wpAny_mono ht (fun r s₂ hr => wpAny_bind (wpAny_holding (wpAny_point (wpAny_pure hr)))) fun _ _ x => x)
  have marked (mk : Value) : wpAny M A (callMarked mk f (first ++ a.pos) a.kw) Q E s₁ := by unfold callMarked; exact Calls.wpAny_keep h₁.2
  rcases hk' with rfl | rfl | rfl <;> dsimp only <;> first | exact tail (marked _) | exact tail (wpAny_operateT h₁.2) | exact tail (wpAny_operating h₁.2)
end
end TfM
end PySem
namespace L2
open PySem PySem.Spec PyProof.Rows
/-- the promise of a def called with values vs and keywords ks = zs -/
abbrev SpK := List V → List V → Hp → VK → XK → Prop
def FnA (P : Program) (w : World) (K : PySem.W.Frag) (mg : Str → Option Value) (base : Heap) (CX : CXT) (k : Nat) (f : Addr) (ks : List Str) (sp : SpK) : Prop :=
  ∀ (A : Around) (outer : List Env) (s : Shared) (H : Hp) (us ws : List Value) (vs zs : List V) (Q : VK) (E : XK), Room k A → Env0 P w K mg base A outer s H → Vals vs us → Vals zs ws → sp vs zs H Q E →
    codeAny (model P w) A (.call (.ref f) ⟨us, ks.zip ws⟩) (CR CX outer P w H s Q E) s
section
variable {CX : CXT} {P : Program} {w : World} {K : PySem.W.Frag} {mg : Str → Option Value} {base : Heap} {k : Nat} {f : Addr} {name qual : Str} {params : Arguments} {body : List Stmt} {scope : Scope} {dV kV doc pm cdv ct oc : Value} {an od : Option Addr}
  {osl : Array (Option Value)} {N : List Str} {sp : Sp}
/-- def f(a, *v, k): the values of a, k, then a new tuple of the rest -/
theorem fn_starK {pa pk pv : Str} (lk : K.lookup f = some ⟨oc, od, .func (PySem.W.fnOf name qual params body scope dV kV doc pm an cdv ct), osl⟩) (hcd : PySem.W.codeIn K cdv qual = true) (S : FnScope N [pa, pk, pv] scope) (hCX : StX.CXUp CX)
    (hb : ∀ (a : Value) (rest : List Value) (b : Value), bindArgs (PySem.W.fnOf name qual params body scope dV kV doc pm an cdv ct) ⟨a :: rest, [(pk, b)]⟩ = (newTuple rest >>= fun t => pure [(pa, a), (pk, b), (pv, t)]))
    (hbody : ∀ (A : Around) (outer : List Env) (s : Shared) (H : Hp) (vs : List V) (Q : VK) (E : XK), Room k (A.deeper (envOfC qual scope s.heap.objs.size f cdv)) → sp vs H Q E →
      ∃ t, PSs (cxOf CX P w K mg base N qual scope f cdv A outer s H E) body t ∧ t { nx := fun _ H' => Q .non H', rt := Q } (start N vs) H) :
    FnA P w K mg base CX (k + 1) f [pk] (fun vs zs H Q E => ∃ a rest b, vs = a :: rest ∧ zs = [b] ∧ rest.length ≤ sizeLine ∧ ∀ p, H p = Option.none → sp [a, b, V.ref p] (upd H p (.tup rest)) Q E) := by
  intro A outer s H us ws vs zs Q E hr e0 r rz hsp
  obtain ⟨a, rest, b, rfl, rfl, hz, hq⟩ := hsp
  cases r with
  | cons ra r2 =>
  cases rz with
  | cons rb rn =>
  cases rn
  rename_i ua u2 ub
  have hn : H s.heap.objs.size = Option.none := e0.hok.fresh (Nat.le_refl _)
  have hl2 : u2.length ≤ sizeLine := by rw [← r2.length]; exact hz
  refine StX.run_bnd lk hcd S hr e0 (G := fun xs H2 => ∃ p, H p = Option.none ∧ xs = [a, b, V.ref p] ∧ H2 = upd H p (.tup rest)) (fun A' Ex Q' h => ?_) fun s2 H2 xs ⟨p, hp, ex, eH⟩ hr' => ?_
  · show wpAny _ _ (bindArgs _ ⟨ua :: u2, [(pk, ub)]⟩) _ _ _
    rw [hb ua u2 ub]
    refine wpAny_bind (wpAny_newTuple (wpAny_pure ?_) hl2)
    have new : ObjOk P w (upd H s.heap.objs.size (.tup rest)) (s.heap.push ({ cls := .type "tuple", data := .seq u2.toArray } : Obj)) s.heap.objs.size (.tup rest) := ⟨hz, u2, r2, ⟨_, Heap.get?_push_size _ rfl, rfl, _, rfl⟩⟩
    have un := StX.un_laid (fs := frs outer) (s := s) (o := ({ cls := .type "tuple", data := .seq u2.toArray } : Obj)) (u := .tup rest) hn
    exact h _ _ [a, b, V.ref s.heap.objs.size] [ua, ub, Value.ref s.heap.objs.size] (StX.env0_laid e0 new) un rfl (fun e s' => hCX outer s H _ _ E e s' un (fun b o q => Heap.get?_push_of_some _ q) rfl) (.cons ra (.cons rb (.cons rfl .nil))) rfl ⟨_, hn, rfl, rfl⟩
  · subst ex eH
    exact hbody A outer s2 _ _ Q E hr' (hq p hp)
end
/-- C(*e, k = v): a new instance and its dict, then __init__ -/
def tMakeSK (K : PySem.W.Frag) (C : Addr) (sp : SpK) (E : XK) (tf te : TE) (tk : TA) : TE := fun σ H Q => tf σ H fun c H0 => c = .ref C ∧ te σ H0 fun y H1 => tk σ H1 fun zs H2 => ∃ a xs, y = V.ref a ∧ (SqT K H2 a xs ∨ SqL K H2 a xs) ∧ zs.length = 1 ∧ ∀ x dx, H2 x = none → H2 dx = none → dx ≠ x →
  sp (.ref x :: xs) zs (upd (upd H2 dx (.own x)) x (.ins C dx [])) (fun v H3 => v = .non ∧ Q (.ref x) H3) E
/-- C(e, .., k = v) -/
def tMakeAK (C : Addr) (sp : SpK) (E : XK) (t : TA) (tk : TA) : TE := fun σ H Q => t σ H fun xs H1 => tk σ H1 fun zs H2 => zs.length = 1 ∧ ∀ x dx, H2 x = none → H2 dx = none → dx ≠ x →
  sp (.ref x :: xs) zs (upd (upd H2 dx (.own x)) x (.ins C dx [])) (fun v H3 => v = .non ∧ Q (.ref x) H3) E
section
variable {X : Cx} {CX : CXT} {k : Nat} {f C : Addr} {ks : List Str} {sp : SpK} {E : XK} {x : Str} {p sp_ pos : Pos} {e fe : Expr} {es : List Expr} {kws : List Keyword} {t tk : TA} {te tf : TE}
theorem run_makeA {pins : List (Addr × Obj)} {σ : St} {H : Hp} {s : Shared} {Q : VK} {us ws : List Value} {vs zs : List V} (M : Mk X.K C f) (F : FnA X.prog X.w X.K X.mg X.base CX k f ks sp) (hr : Room (k + 1) X.A) (hx : Passes CX X E)
    (I : Inv X pins σ H s) (r : Vals vs us) (rz : Vals zs ws)
    (h : ∀ x dx, H x = none → H dx = none → dx ≠ x → sp (.ref x :: vs) zs (upd (upd H dx (.own x)) x (.ins C dx [])) (fun v H2 => v = .non ∧ Q (.ref x) H2) E) :
    wpAny (model X.prog X.w) X.A (call (.ref C) us (ks.zip ws)) (EP X pins σ Q) X.xe s := by
  have hq := h (s.heap.objs.size + 1) s.heap.objs.size (I.hok.fresh (Nat.le_succ _)) (I.hok.fresh (Nat.le_refl _)) (Nat.ne_of_lt (Nat.lt_succ_self _))
  have I2 := Inv.made (C := C) I
  have r1 : Vals (V.ref (s.heap.objs.size + 1) :: vs) (Value.ref (s.heap.objs.size + 1) :: us) := .cons rfl r
  refine wpAny_call (make_map (f := f) I.kIn M.makes M.init (beq_iff_eq.mp M.fn) (codeAny_mono (F _ X.stack _ _ (Value.ref (s.heap.objs.size + 1) :: us) ws _ _ _ E (hr.make C us (ks.zip ws))
    (I2.env0.make C us (ks.zip ws)) r1 rz hq) fun r s' hq' => ?_))
  cases r with
  | error e => exact hx pins σ _ _ e s' I2 hq'
  | ok fl =>
    cases fl with
    | ret u =>
      obtain ⟨v, H', I3, rv, ev, q3⟩ := I2.after hq'
      subst ev
      exact ⟨rv, ⟨V.ref (s.heap.objs.size + 1), H', I3, rfl, q3⟩⟩
    | next => exact False.elim hq'
    | brk => exact False.elim hq'
    | cont => exact False.elim hq'
theorem pe_makeSK (M : Mk X.K C f) (F : FnA X.prog X.w X.K X.mg X.base CX k f ks sp) (hr : Room (k + 1) X.A) (hx : Passes CX X E) (hf : PE X fe tf) (he : PE X e te) (hkw : PK X kws tk)
    (ht : eval (.Call fe [.Starred e sp_] kws pos) X.env = (do callWith pos (← eval fe X.env) [] (backTo pos (starEach [.Starred e sp_] X.env)) (backToKw pos (keywordEach kws X.env))) := by rfl)
    (hall : (backToKw pos (keywordEach kws X.env)).all (·.1.isSome) = true := by rfl) (hks : (backToKw pos (keywordEach kws X.env)).filterMap (·.1) = ks := by rfl)
    (hst : starEach [.Starred e sp_] X.env = [(true, eval e X.env)] := by rfl) :
    PE X (.Call fe [.Starred e sp_] kws pos) (tMakeSK X.K C sp E tf te tk) := by
  refine ⟨fun pins s σ H Q I h => ?_⟩
  rw [ht]
  refine wpAny_bind (thn (hf.run pins s σ H _ I h) fun u s0 ⟨y0, H0, I0, ry, ey0, q0⟩ => ?_)
  subst ey0
  obtain rfl : u = Value.ref C := ry
  rw [hst]
  refine PySem.TfM.call_kw (P := fun h => X.K.In h) rfl (PySem.W.keeps_K M.kp) (PySem.TfM.lone_kw hall ?_)
  refine thn (he.run pins s0 σ H0 _ I0 q0) fun v s1 ⟨y, H1, I1, rv, q1⟩ => ?_
  refine thn (hkw.run pos pins s1 σ H1 _ I1 q1) fun ws s2 ⟨zs, H2, I2, rz, a, xs, ey, hxs, hl, q2⟩ => ?_
  subst ey
  obtain rfl : v = Value.ref a := rv
  refine StX.star_any I2 hxs fun us s3 I3 r => ⟨I3.kIn, ?_⟩
  show wpAny _ _ (call (.ref C) us _) _ _ _
  rw [hks]
  exact run_makeA M F hr hx I3 r rz q2
theorem pe_makeAK (M : Mk X.K C f) (F : FnA X.prog X.w X.K X.mg X.base CX k f ks sp) (hr : Room (k + 1) X.A) (hg : Gl X x) (hm : X.mg x = some (.ref C)) (hx : Passes CX X E) (ha : PA X (e :: es) t) (hkw : PK X kws tk)
    (hall : (backToKw pos (keywordEach kws X.env)).all (·.1.isSome) = true := by rfl) (hks : (backToKw pos (keywordEach kws X.env)).filterMap (·.1) = ks := by rfl) (hdb : (x == ("__debug__" : Str)) = false := by decide)
    (he : starEach (e :: es) X.env = (false, eval e X.env) :: starEach es X.env := by rfl) (hpl : ((backTo pos (starEach (e :: es) X.env)).any (·.1) || (backToKw pos (keywordEach kws X.env)).any (·.1.isNone)) = false := by rfl) :
    PE X (.Call (.Name x p) (e :: es) kws pos) (tMakeAK C sp E t tk) := by
  refine ⟨fun pins s σ H Q I h => ?_⟩
  refine wpAny_Call_Name_kw (ld_glob I hg hm ?_ hdb)
  refine PySem.W.callWith_KW (h₀ := X.base) I.ok.mod.kin M.kp hall (thn (ha.run pos pins s σ H _ I h) fun us s1 ⟨vs, H1, I1, r, q⟩ => ?_) hpl he
  refine thn (hkw.run pos pins s1 σ H1 _ I1 q) fun ws s2 ⟨zs, H2, I2, rz, l1, q2⟩ => ⟨I2.kIn, ?_⟩
  rw [hks]
  exact run_makeA M F hr hx I2 r rz q2
end
end L2

/-! sets of texts: set(xs), sorted(set(xs)), len(set(xs)) -/
namespace L2
open PySem PySem.Spec PyProof.Rows
abbrev newSetO (w : World) : Obj := { cls := .type "set", dict := none, data := .set #[] 0 (.fresh 0 0 (!w.params.followText "set-order")) }
def txtOf (e : Int × Value) : Str := match e.2 with | .str x _ => x | _ => Str.empty
def TxtE (w : World) (e : Int × Value) : Prop := ∃ x tk, e.2 = Value.str x tk ∧ e.1 = hashStr w x
/-- the set of texts at a: its members are L, in some order -/
def SetS (w : World) (h : Heap) (a : Addr) (L : List Str) : Prop :=
  ∃ o es ep t, h.get? a = some o ∧ o.ExactSet ∧ o.data = .set es ep t ∧ (∀ e ∈ es.toList, TxtE w e) ∧ (es.toList.map txtOf).Perm L ∧ L.Nodup ∧
    es.size < scanBound ∧ t.fits es.size = true ∧ Ris t.place.toList ∧ (w.params.followText "set-order" = true ∨ t.led = true)
section
variable {P : Program} {w : World} {h h' : Heap} {a : Addr} {L : List Str}
theorem SetS.at (R : SetS w h a L) (k : ∀ o, h.get? a = some o → h'.get? a = some o) : SetS w h' a L := by
  obtain ⟨o, es, ep, t, ho, r⟩ := R
  exact ⟨o, es, ep, t, k o ho, r⟩
theorem txt_elems {l : List (Int × Value)} (g : ∀ e ∈ l, TxtE w e) : ElemsOf (PySem.strKind P w) l := fun e he => by
  obtain ⟨k, tk, h1, h2⟩ := g e he
  exact ⟨⟨k, by rw [h1]; exact strKind_is P w k tk, h2⟩, by rw [h1] <;> rfl⟩
theorem txt_is {e : Int × Value} (g : TxtE w e) (k : Str) : (PySem.strKind P w).is k e.2 = true ↔ txtOf e = k := by
  obtain ⟨k0, tk, h1, _⟩ := g
  unfold txtOf
  rw [h1]
  constructor
  · intro z
    obtain ⟨t, e⟩ := Value.isStrOf_shape (show Value.isStrOf k (.str k0 tk) = true from z)
    injection e
  · intro z
    show (PySem.strKind P w).is k (.str k0 tk) = true
    have z' : k0 = k := z
    rw [z']
    exact strKind_is P w k tk
theorem setS_fresh (w : World) {h : Heap} (ho : h.get? a = some (newSetO w)) : SetS w h a [] :=
  ⟨_, #[], 0, _, ho, ⟨rfl, rfl, rfl⟩, rfl, (fun e he => by simp at he), List.Perm.nil, List.nodup_nil, (by decide), (by rfl), List.Pairwise.nil, by
    show _ ∨ (!w.params.followText "set-order") = true
    cases w.params.followText "set-order"
    · exact .inr rfl
    · exact .inl rfl⟩
end
section
variable {P : Program} {w : World} {A : Around} {E : Value → Shared → Prop} {s : Shared} {a : Addr} {L : List Str}
theorem setS_tail {g : Bool → Sem Unit} (hg : ∀ (b : Bool) (s₁ : Shared) (Q' : Unit → Shared → Prop), Q' () s₁ → wpAny (model P w) A (g b) Q' E s₁)
    {o : Obj} {es : Array (Int × Value)} {ep : Nat} {t : SetTable} (ho : s.heap.get? a = some o) (hex : o.ExactSet) (hd : o.data = .set es ep t)
    {es1 : Array (Int × Value)} {t2 : SetTable} (g1 : ∀ e ∈ es1.toList, TxtE w e) (p1 : (es1.toList.map txtOf).Perm L) (nd : L.Nodup)
    (hb1 : es1.size < scanBound) (hf2 : t2.fits es1.size = true) (hr : Ris t2.place.toList) (hl : w.params.followText "set-order" = true ∨ t2.led = true) {wasDummy : Bool} {R : Option Bool → Shared → Prop}
    (hR : ∀ h', Heap.SameBut a s.heap h' → SetS w h' a L → R (some true) { s with heap := h' }) :
    wpAny (model P w) A (do
        storeSet a es1 t2
        if (!wasDummy && t2.tooFull) = true then do
            g (relayAll t2 es1 (SetTable.grown es1.size)).2.2
            storeSet a (relayAll t2 es1 (SetTable.grown es1.size)).1 (relayAll t2 es1 (SetTable.grown es1.size)).2.1
            pure (some true)
          else pure (some true)) R E s := by
  refine wpAny_bind (wpAny_storeSet_of ho hd ?_ (fits_of_scanBound hb1))
  have o1 := store_at (es' := es1) (t' := t2) ho hd
  have b1 := Heap.SameBut.update s.heap a (Obj.putSet es1 t2)
  split
  · have q1 := relayAll_perm t2 es1 (SetTable.grown es1.size)
    have q2 := relayAll_fits t2 es1 (SetTable.grown es1.size)
    have q3 := relayAll_ris t2 es1 (SetTable.grown es1.size)
    have q4 := relayAll_led t2 es1 (SetTable.grown es1.size)
    generalize relayAll t2 es1 (SetTable.grown es1.size) = Z at q1 q2 q3 q4 ⊢
    obtain ⟨es2, t3, gave⟩ := Z
    dsimp only at q1 q2 q3 q4 ⊢
    have sz : es2.size = es1.size := by rw [← Array.length_toList, q1.length_eq, Array.length_toList]
    have hb2 : es2.size < scanBound := by rw [sz]; exact hb1
    refine wpAny_bind (hg _ _ _ (wpAny_bind (wpAny_storeSet_of o1 rfl ?_ (fits_of_scanBound hb2))))
    have o2 := store_at (es' := es2) (t' := t3) o1 rfl
    refine wpAny_pure (hR _ (b1.trans (Heap.SameBut.update _ a _)) ⟨_, es2, _, t3, o2, hex, rfl, fun e he => g1 e (q1.mem_iff.mp he), (q1.map txtOf).trans p1, nd, hb2, q2, q3, ?_⟩)
    rcases hl with z | z
    · exact .inl z
    · exact .inr (by rw [q4]; exact z)
  · exact wpAny_pure (hR _ b1 ⟨_, es1, _, t2, o1, hex, rfl, g1, p1, nd, hb1, hf2, hr, hl⟩)
/-- one text more -/
theorem setS_add {x : Str} {tk : Tok} {Q : Bool → Shared → Prop} (R : SetS w s.heap a L) (room : L.length + 1 < scanBound)
    (hQ : ∀ h' b, Heap.SameBut a s.heap h' → SetS w h' a (if x ∈ L then L else L ++ [x]) → Q b { s with heap := h' }) :
    wpAny (model P w) A (setAddHashed a (.str x tk) ((PySem.strKind P w).hash x)) Q E s := by
  obtain ⟨o, es, ep, t, ho, hex, hd, g, pl, nd, hb, hf, hr, hl⟩ := R
  have key : (PySem.strKind P w).is x (.str x tk) = true := strKind_is P w x tk
  have sc : (Value.str x tk).scannable = true := rfl
  have el : ElemsOf (PySem.strKind P w) es.toList := txt_elems g
  have len : es.size = L.length := by
    have z := pl.length_eq
    rw [List.length_map, Array.length_toList] at z
    exact z
  unfold setAddHashed setAddHashedIn
  refine wpAny_holding (wpAny_bind (wpAny_setState_of ho hd hf ?_))
  dsimp only
  rw [byScan_of sc hb el]
  simp only [↓reduceIte]
  unfold setAddByScan
  refine wpAny_bind (wpAny_bind (wpAny_rule (wpAny_bind (wpAny_setScan_of key ho hd hf el ?_))))
  cases fi : List.findIdx? (fun e => (PySem.strKind P w).is x e.2) es.toList with
  | some j =>
    dsimp only
    obtain ⟨hj, pj, _⟩ := List.findIdx?_eq_some_iff_getElem.mp fi
    have mem : x ∈ L := pl.mem_iff.mp (List.mem_map.mpr ⟨es.toList[j], List.getElem_mem hj, (txt_is (P := P) (g _ (List.getElem_mem hj)) x).mp pj⟩)
    refine wpAny_pure (wpAny_pure (hQ s.heap _ (Heap.SameBut.refl a s.heap) ?_))
    rw [if_pos mem]
    exact ⟨o, es, ep, t, ho, hex, hd, g, pl, nd, hb, hf, hr, hl⟩
  | none =>
    dsimp only
    have nmem : x ∉ L := fun z => by
      obtain ⟨e, he, q⟩ := List.mem_map.mp (pl.mem_iff.mpr z)
      have c := List.findIdx?_eq_none_iff.mp fi e he
      rw [(txt_is (P := P) (g e he) x).mpr q] at c
      cases c
    have gw : ∀ (b : Bool) {s₁ : Shared} {Q' : Unit → Shared → Prop}, Q' () s₁ → wpAny (model P w) A (match b with | true => rule "set.scan.the-table-gave-way" | false => pure ()) Q' E s₁ :=
      fun b s₁ Q' q => by cases b <;> first | exact wpAny_pure q | exact wpAny_rule q
    have z1 := layNew_perm t es ((PySem.strKind P w).hash x) (.str x tk)
    have z2 := layNew_fits t es ((PySem.strKind P w).hash x) (.str x tk)
    have z3 := layNew_ris t es ((PySem.strKind P w).hash x) (.str x tk) hr
    have z4 := layNew_led t es ((PySem.strKind P w).hash x) (.str x tk)
    generalize layNew t es ((PySem.strKind P w).hash x) (.str x tk) = Z at z1 z2 z3 z4 ⊢
    obtain ⟨es1, t1, wasDummy, gave⟩ := Z
    dsimp only at z1 z2 z3 z4 ⊢
    rw [Array.toList_push] at z1
    have pk : (es1.toList.map txtOf).Perm (L ++ [x]) := by
      have q := z1.map txtOf
      rw [List.map_append] at q
      exact q.trans (pl.append_right _)
    have g1 : ∀ e ∈ es1.toList, TxtE w e := fun e he => by
      rcases List.mem_append.mp (z1.mem_iff.mp he) with z | z
      · exact g e z
      · rw [List.mem_singleton.mp z]; exact ⟨x, tk, rfl, rfl⟩
    have nd1 : (L ++ [x]).Nodup := List.nodup_append.mpr ⟨nd, List.nodup_cons.mpr ⟨by simp, List.nodup_nil⟩, fun y hy y' hy' e => nmem (by rw [← List.mem_singleton.mp hy', ← e]; exact hy)⟩
    have sz : es1.size = L.length + 1 := by
      have z := pk.length_eq
      rw [List.length_map, Array.length_toList, List.length_append] at z
      exact z
    have hb1 : es1.size < scanBound := by rw [sz]; exact room
    have led : w.params.followText "set-order" = true ∨ t1.led = true := by
      rcases hl with z | z
      · exact .inl z
      · exact .inr (by rw [z4]; exact z)
    have fin : ∀ h', Heap.SameBut a s.heap h' → SetS w h' a (L ++ [x]) → Q true { s with heap := h' } := fun h' sb r => hQ h' true sb (by rw [if_neg nmem]; exact r)
    refine wpAny_bind (gw _ ?_)
    split
    · refine wpAny_bind ?_
      rw [hashByValue_scannable 8 sc]
      refine wpAny_pure (setS_tail ?_ ho hex hd g1 pk nd1 hb1 ?_ ?_ ?_ ?_)
      · intro b s₁ Q' q; cases b <;> first | exact wpAny_pure q | exact wpAny_rule q
      · first | (split <;> first | exact z2 | exact SetTable.fits_plain_off z2) | exact z2
      · first | (split <;> exact z3) | exact z3
      · first | (split <;> exact led) | exact led
      · intro h' sb r; dsimp only; exact wpAny_pure (fin h' sb r)
    · refine wpAny_bind (wpAny_pure ?_)
      simp only [↓reduceIte]
      refine setS_tail ?_ ho hex hd g1 pk nd1 hb1 z2 z3 led ?_
      · intro b s₁ Q' q; cases b <;> first | exact wpAny_pure q | exact wpAny_rule q
      · intro h' sb r; dsimp only; exact wpAny_pure (fin h' sb r)
end
/-- the texts in the order in which they are first met -/
def firsts (xs : List Str) : List Str := xs.foldl (fun L x => if x ∈ L then L else L ++ [x]) []
theorem firsts_snoc (xs : List Str) (x : Str) : firsts (xs ++ [x]) = if x ∈ firsts xs then firsts xs else firsts xs ++ [x] := by
  unfold firsts
  rw [List.foldl_append]
  rfl
theorem firsts_len (xs : List Str) : (firsts xs).length ≤ xs.length := by
  have gen : ∀ (ys : List Str) (L : List Str), (ys.foldl (fun L x => if x ∈ L then L else L ++ [x]) L).length ≤ L.length + ys.length := by
    intro ys
    induction ys with
    | nil => intro L; exact Nat.le_refl _
    | cons y ys ih =>
      intro L
      refine Nat.le_trans (ih _) ?_
      rw [List.length_cons]
      show (if y ∈ L then L else L ++ [y]).length + _ ≤ _
      split
      · omega
      · rw [List.length_append, List.length_singleton]; omega
  exact Nat.le_trans (gen xs []) (by simp)
section
variable {P : Program} {w : World} {A : Around} {E : Value → Shared → Prop} {s : Shared}
/-- the loop of set.update over texts -/
theorem setS_loop {I : Addr} {fp wr : List Addr} {G : Array GenState → Array GenState → Prop} {n : Nat} {Pv : Nat → Value → Prop} {St : Nat → Shared → Prop} {R : Result → Shared → Prop}
    (W : WalksS P w A.in1 I fp wr G n Pv St) (S : Addr) (hSf : S ∉ fp) (xs : List Str) (hn : n = xs.length) (few : xs.length + 1 < scanBound) (hval : ∀ i v, Pv i v → ∃ x t, xs[i]? = some x ∧ v = .str x t) :
    ∀ (k i : Nat) (s : Shared), n - i = k → i ≤ n → St i s → SetS w s.heap S (firsts (xs.take i)) →
      (∀ s', Moved (S :: wr) G s s' → SetS w s'.heap S (firsts xs) → R (.ok (.ret .none)) s') →
      codeAny (model P w) A (.builtin "set.update.loop" ⟨[.ref S, .ref I], []⟩) R s := by
  have hSw : S ∉ wr := fun h => hSf (W.sub _ h)
  have wid : ∀ b ∈ wr, b ∈ S :: wr := fun b hb => List.mem_cons_of_mem _ hb
  intro k
  induction k with
  | zero =>
    intro i s hk hi hst hS hR
    have e : i = n := by omega
    subst e
    rw [hn, List.take_length] at hS
    refine codeAny_builtin F.entry_set_update_loop ?_
    rw [Around.under_plainId F.plain_set_update_loop _]
    show wpAny _ A.in1 (pyNext (.ref I) >>= _) _ _ s
    refine wpAny_bind (W.done s _ _ hst fun s' hm => ?_)
    exact wpAny_pure (hR s' (hm.mono wid) (hS.at fun o e => hm.heap S o hSw e))
  | succ k ih =>
    intro i s hk hi hst hS hR
    have lt : i < n := by omega
    refine codeAny_builtin F.entry_set_update_loop ?_
    rw [Around.under_plainId F.plain_set_update_loop _]
    show wpAny _ A.in1 (pyNext (.ref I) >>= _) _ _ s
    refine wpAny_bind (W.item i s _ _ lt hst fun v s' hP hst' hm => ?_)
    obtain ⟨x, t, hx, rfl⟩ := hval i v hP
    have hS' : SetS w s'.heap S (firsts (xs.take i)) := hS.at fun o e => hm.heap S o hSw e
    have tk : xs.take (i + 1) = xs.take i ++ [x] := by rw [List.take_add_one, hx]; rfl
    show wpAny _ A.in1 (holding [Value.str x t] (setAdd S (.str x t)) >>= _) _ _ s'
    refine wpAny_bind (wpAny_holding ?_)
    unfold setAdd
    refine wpAny_holding (wpAny_bind ((PySem.strKind P w).pyHash (strKind_is P w x t) ?_))
    have fl := firsts_len (xs.take i)
    rw [List.length_take] at fl
    refine setS_add (s := { s' with toks := s'.toks + 1 }) hS' (by omega) fun h' b sb r => ?_
    rw [← firsts_snoc, ← tk] at r
    refine wpAny_pure ⟨plainId_quiet F.plain_set_update_loop _, ih (i + 1) _ (by omega) lt (W.frame _ s' _ _ hst' (Nat.le_succ _) fun b hb o e => ?_) r fun s'' hm'' hS'' => ?_⟩
    · rw [sb.2 b (fun h : b = S => hSf (by rw [← h]; exact hb))]; exact e
    · refine hR s'' (Moved.trans W.gtrans ((hm.mono wid).then_heap (Nat.le_succ _) fun b o hb e => ?_) hm'') hS''
      rw [sb.2 b (fun h : b = S => hb (by rw [h]; exact List.mem_cons_self))]; exact e
end
section
variable {P : Program} {w : World} {A : Around} {E : Value → Shared → Prop} {s : Shared}
set_option maxHeartbeats 8000000 in
/-- set(xs), xs a list of texts -/
theorem setS_list {l : Addr} {items : Array Value} {xs : List Str} {Q : Value → Shared → Prop} (hh : A.handled = none) (hl : s.heap.IsList l items) (hv : ∀ (i : Nat) (v : Value), items[i]? = some v → ∃ x t, xs[i]? = some x ∧ v = .str x t) (hz : items.size = xs.length) (few : xs.length + 1 < scanBound)
    (h : ∀ (h' : Heap) (tk : Nat), SetS w h' s.heap.objs.size (firsts xs) → (∀ b o, s.heap.get? b = some o → h'.get? b = some o) → Q (.ref s.heap.objs.size) { s with heap := h', toks := tk }) :
    wpAny (model P w) A (call (.type "set") [.ref l]) Q E s := by
  obtain ⟨c, tl, hmro⟩ := F.called_set.mro
  have hmade := F.called_set.made
  have hsub := F.called_set.sub
  refine wpAny_call (codeAny_of_tree ?_)
  show wpAny _ _ (callAny (.type "set") _) _ _ _
  refine wpAny_pure ⟨Code.quiet_builtin _ (by decide +kernel), codeAny_builtin F.entry_type_call ?_⟩
  rw [Around.under_plain (weight_type_call_type "set" [.ref l] []) rfl]
  have h1 := F.called_set.notType
  have h2 := F.called_set.canCreate
  have hct := F.typeCall_set_1 (.ref l)
  repeat (any_goals (first | assumption | wp_step))
  refine codeAny_mono (code_set_led1 (.ref l) (E := E) (Q₁ := fun obj s₁ => obj = .ref s.heap.objs.size ∧ s₁ = { s with heap := s.heap.push (newSetO w) }) ⟨rfl, rfl⟩) fun r s₁ hr => ?_
  cases r with
  | error e => exact hr
  | ok fl =>
    cases fl with
    | ret obj =>
      obtain ⟨rfl, rfl⟩ := hr
      have hS : (s.heap.push (newSetO w)).get? s.heap.objs.size = some (newSetO w) := Heap.get?_push_size _ rfl
      have hT : Shared.TypeIs { s with heap := s.heap.push (newSetO w) } (.ref s.heap.objs.size) "set" := ⟨_, hS, rfl⟩
      have hli := F.called_set.init.lookup
      have hbi := F.called_set.init.bind (.ref s.heap.objs.size)
      repeat (any_goals (first | assumption | wp_step))
      refine codeAny_mono (codeAny_call_builtin (R := wants (fun r s₂ => r = .none ∧ ∃ h' tk, s₂ = { s with heap := h', toks := tk } ∧ SetS w h' s.heap.objs.size (firsts xs) ∧ (∀ b o, s.heap.get? b = some o → h'.get? b = some o)) E) F.called_set.init.plain F.entry_set_init (check_set_init_1 hT ?_)) fun r₂ s₂ hr₂ => ?_
      · obtain ⟨ol, hol, hcl, nl, hdl⟩ := hl
        obtain ⟨ocls, odict, odata, oslots⟩ := ol
        simp only at hcl hdl
        subst hcl; subst hdl
        have hol' : (s.heap.push (newSetO w)).get? l = some { cls := .type "list", dict := odict, data := .seq items nl, slots := oslots } := Heap.get?_push_of_some _ hol
        have hsls := F.sub_list_set
        have hslf := F.sub_list_frozenset
        have hne : (Value.type "list" == Value.type "dict") = false := by decide
        have hl1 : (s.heap.push (newSetO w)).IsList l items := ⟨_, hol', rfl, nl, rfl⟩
        unfold Builtin.«set.__init__» noKeywords Builtin.Frozenset.updateFrom
        generalize hPI : pyIter = PI
        wp_walk
        subst hPI
        refine wpAny_pyIter_list hl1 ?_
        refine wpAny_bind (wpAny_runValue ?_)
        have lt : l < s.heap.objs.size := Heap.lt_size hol
        have hh3 : A.in1.in1.in1.handled = none := by simp [hh]
        have sz : (s.heap.push (newSetO w)).objs.size = s.heap.objs.size + 1 := Heap.size_push ..
        have neI : l ≠ (s.heap.push (newSetO w)).objs.size := by
          rw [sz]
          exact Nat.ne_of_lt (Nat.lt_succ_of_lt lt)
        have nf : s.heap.objs.size ∉ [(s.heap.push (newSetO w)).objs.size, l] := by
          rw [sz]
          simp only [List.mem_cons, List.not_mem_nil, or_false, not_or]
          exact ⟨Nat.ne_of_lt (Nat.lt_succ_self _), Nat.ne_of_gt lt⟩
        refine setS_loop ((Walks.list hh3 _ l neI items).toS) s.heap.objs.size nf xs hz few hv (items.size - 0) 0 _ (by omega) (Nat.zero_le _) ⟨⟨_, Heap.get?_push_size _ rfl, rfl, rfl⟩, (hl1.push _)⟩ (setS_fresh w (Heap.get?_push_of_some _ hS)) ?hR
        case hR =>
          intro s' hm hS'
          obtain ⟨h', g2, d', tk', os'⟩ := s'
          have eg : g2 = s.gens := hm.gens
          have ed : d' = s.drawn := hm.drawn
          have eo : os' = s.os := hm.os
          subst eg; subst ed; subst eo
          show wpAny _ _ _ _ _ _
          refine wpAny_pure ?_
          show wpAny _ _ (ret Value.none) _ _ _
          refine wpAny_pure ⟨rfl, h', tk', rfl, hS', fun b o e => ?_⟩
          have lb := Heap.lt_size e
          refine hm.heap b o (fun z => ?_) (Heap.get?_push_of_some _ (Heap.get?_push_of_some _ e))
          rw [sz] at z
          simp only [List.mem_cons, List.not_mem_nil, or_false] at z
          rcases z with z | z
          · exact absurd z (Nat.ne_of_lt lb)
          · exact absurd z (Nat.ne_of_lt (Nat.lt_succ_of_lt lb))
      · cases r₂ with
        | error e => exact hr₂
        | ok fl₂ =>
          cases fl₂ with
          | ret r =>
            obtain ⟨rfl, h', tk, rfl, hS', hk'⟩ := hr₂
            repeat (any_goals (first | assumption | wp_step))
            exact h _ _ hS' hk'
          | _ => exact hr₂.elim
    | _ => exact hr.elim
set_option maxHeartbeats 8000000 in
/-- set(xs), xs a tuple of texts -/
theorem setS_tuple {l : Addr} {items : Array Value} {xs : List Str} {Q : Value → Shared → Prop} (hh : A.handled = none) (hl : s.heap.IsTuple l items) (hv : ∀ (i : Nat) (v : Value), items[i]? = some v → ∃ x t, xs[i]? = some x ∧ v = .str x t) (hz : items.size = xs.length) (few : xs.length + 1 < scanBound)
    (h : ∀ (h' : Heap) (tk : Nat), SetS w h' s.heap.objs.size (firsts xs) → (∀ b o, s.heap.get? b = some o → h'.get? b = some o) → Q (.ref s.heap.objs.size) { s with heap := h', toks := tk }) :
    wpAny (model P w) A (call (.type "set") [.ref l]) Q E s := by
  obtain ⟨c, tl, hmro⟩ := F.called_set.mro
  have hmade := F.called_set.made
  have hsub := F.called_set.sub
  refine wpAny_call (codeAny_of_tree ?_)
  show wpAny _ _ (callAny (.type "set") _) _ _ _
  refine wpAny_pure ⟨Code.quiet_builtin _ (by decide +kernel), codeAny_builtin F.entry_type_call ?_⟩
  rw [Around.under_plain (weight_type_call_type "set" [.ref l] []) rfl]
  have h1 := F.called_set.notType
  have h2 := F.called_set.canCreate
  have hct := F.typeCall_set_1 (.ref l)
  repeat (any_goals (first | assumption | wp_step))
  refine codeAny_mono (code_set_led1 (.ref l) (E := E) (Q₁ := fun obj s₁ => obj = .ref s.heap.objs.size ∧ s₁ = { s with heap := s.heap.push (newSetO w) }) ⟨rfl, rfl⟩) fun r s₁ hr => ?_
  cases r with
  | error e => exact hr
  | ok fl =>
    cases fl with
    | ret obj =>
      obtain ⟨rfl, rfl⟩ := hr
      have hS : (s.heap.push (newSetO w)).get? s.heap.objs.size = some (newSetO w) := Heap.get?_push_size _ rfl
      have hT : Shared.TypeIs { s with heap := s.heap.push (newSetO w) } (.ref s.heap.objs.size) "set" := ⟨_, hS, rfl⟩
      have hli := F.called_set.init.lookup
      have hbi := F.called_set.init.bind (.ref s.heap.objs.size)
      repeat (any_goals (first | assumption | wp_step))
      refine codeAny_mono (codeAny_call_builtin (R := wants (fun r s₂ => r = .none ∧ ∃ h' tk, s₂ = { s with heap := h', toks := tk } ∧ SetS w h' s.heap.objs.size (firsts xs) ∧ (∀ b o, s.heap.get? b = some o → h'.get? b = some o)) E) F.called_set.init.plain F.entry_set_init (check_set_init_1 hT ?_)) fun r₂ s₂ hr₂ => ?_
      · obtain ⟨ol, hol, hcl, nl, hdl⟩ := hl
        obtain ⟨ocls, odict, odata, oslots⟩ := ol
        simp only at hcl hdl
        subst hcl; subst hdl
        have hol' : (s.heap.push (newSetO w)).get? l = some { cls := .type "tuple", dict := odict, data := .seq items nl, slots := oslots } := Heap.get?_push_of_some _ hol
        have hsls := F.sub_tuple_set
        have hslf := F.sub_tuple_frozenset
        have hne : (Value.type "tuple" == Value.type "dict") = false := by decide
        have hl1 : (s.heap.push (newSetO w)).IsTuple l items := ⟨_, hol', rfl, nl, rfl⟩
        unfold Builtin.«set.__init__» noKeywords Builtin.Frozenset.updateFrom
        generalize hPI : pyIter = PI
        wp_walk
        subst hPI
        refine wpAny_pyIter_tuple hl1 ?_
        refine wpAny_bind (wpAny_runValue ?_)
        have lt : l < s.heap.objs.size := Heap.lt_size hol
        have hh3 : A.in1.in1.in1.handled = none := by simp [hh]
        have sz : (s.heap.push (newSetO w)).objs.size = s.heap.objs.size + 1 := Heap.size_push ..
        have neI : l ≠ (s.heap.push (newSetO w)).objs.size := by
          rw [sz]
          exact Nat.ne_of_lt (Nat.lt_succ_of_lt lt)
        have nf : s.heap.objs.size ∉ [(s.heap.push (newSetO w)).objs.size, l] := by
          rw [sz]
          simp only [List.mem_cons, List.not_mem_nil, or_false, not_or]
          exact ⟨Nat.ne_of_lt (Nat.lt_succ_self _), Nat.ne_of_gt lt⟩
        refine setS_loop ((Walks.tuple hh3 _ l neI items).toS) s.heap.objs.size nf xs hz few hv (items.size - 0) 0 _ (by omega) (Nat.zero_le _) ⟨⟨_, Heap.get?_push_size _ rfl, rfl, rfl⟩, (hl1.push _)⟩ (setS_fresh w (Heap.get?_push_of_some _ hS)) ?hR
        case hR =>
          intro s' hm hS'
          obtain ⟨h', g2, d', tk', os'⟩ := s'
          have eg : g2 = s.gens := hm.gens
          have ed : d' = s.drawn := hm.drawn
          have eo : os' = s.os := hm.os
          subst eg; subst ed; subst eo
          show wpAny _ _ _ _ _ _
          refine wpAny_pure ?_
          show wpAny _ _ (ret Value.none) _ _ _
          refine wpAny_pure ⟨rfl, h', tk', rfl, hS', fun b o e => ?_⟩
          have lb := Heap.lt_size e
          refine hm.heap b o (fun z => ?_) (Heap.get?_push_of_some _ (Heap.get?_push_of_some _ e))
          rw [sz] at z
          simp only [List.mem_cons, List.not_mem_nil, or_false] at z
          rcases z with z | z
          · exact absurd z (Nat.ne_of_lt lb)
          · exact absurd z (Nat.ne_of_lt (Nat.lt_succ_of_lt lb))
      · cases r₂ with
        | error e => exact hr₂
        | ok fl₂ =>
          cases fl₂ with
          | ret r =>
            obtain ⟨rfl, h', tk, rfl, hS', hk'⟩ := hr₂
            repeat (any_goals (first | assumption | wp_step))
            exact h _ _ hS' hk'
          | _ => exact hr₂.elim
    | _ => exact hr.elim
/-- sorted(the set) -/
theorem sortedS_set {a : Addr} {L : List Str} {Q : Value → Shared → Prop} (R : SetS w s.heap a L) (hh : A.handled = none) (h64 : L.length < 64)
    (hQ : ∀ s' p (out : Array Value) (c : Nat) (ys : List Str), (∀ b o, s.heap.get? b = some o → s'.heap.get? b = some o) → s'.gens = s.gens → s'.os = s.os → s.heap.objs.size ≤ p →
      s'.heap.get? p = some (seqObj "list" out c) → StrsAre out.toList ys → ys.Perm L → sortedS ys = true → Q (.ref p) s') :
    wpAny (model P w) A (call (.builtin "sorted") [.ref a]) Q E s := by
  obtain ⟨o, es, ep, t, ho, hex, hd, g, pl, nd, hb, hf, hr, hl⟩ := R
  refine Calls.call_function_entry kind_sorted plain_sorted entry_sorted (args_sorted1 _) ?_
  unfold Builtin.«sorted»
  refine wpAny_bind (m := checkCount "sorted" 1 1 _) (wpAny_pure ?_)
  refine wpAny_bind (collect_set (A := A.in1) hh ⟨o, ho, hex.1, hd⟩ hf hb hr hl fun s1 vs k1 hz g1 o1 pm => ?_)
  have txs : ∀ us : List Value, (∀ u ∈ us, ∃ x tk, u = Value.str x tk) → StrsAre us (us.map fun u => txtOf (0, u)) := by
    intro us
    induction us with
    | nil => intro _; exact .nil
    | cons u us ih =>
      intro hu
      obtain ⟨x, tk, rfl⟩ := hu u List.mem_cons_self
      exact .cons x tk (ih fun v hv => hu v (List.mem_cons_of_mem _ hv))
  have hS : StrsAre vs (vs.map fun u => txtOf (0, u)) := txs vs fun v hv => by
    obtain ⟨e, he, q⟩ := List.mem_map.mp (pm.mem_iff.mp hv)
    obtain ⟨x, tk, e1, _⟩ := g e he
    exact ⟨x, tk, by rw [← q]; exact e1⟩
  have pk : (vs.map fun u => txtOf (0, u)).Perm L := by
    have q := pm.map fun u => txtOf (0, u)
    rw [List.map_map] at q
    exact q.trans pl
  have vl : vs.length = L.length := by
    have z := pk.length_eq
    rw [List.length_map] at z
    exact z
  refine wpAny_bind (wpAny_newList ?_ (by rw [sizeLine_eq]; omega))
  have oL : (s1.heap.push (seqObj "list" vs.toArray 0)).get? s1.heap.objs.size = some (seqObj "list" vs.toArray 0) := Heap.get?_push_size _ rfl
  refine wpAny_bind (wpAny_holding (wpAny_call_entry slot_list_sort ⟨_, oL, rfl⟩ entry_list_sort
    (list_sort_treeK strKind_oneLt oL hS.keysOf (fun v₁ v₂ rest e => keyKind_strs (by rw [← e]; exact hS)) (by rw [vl]; exact h64) fun st' hp hs => ?_) (args_list_sort _)))
  obtain ⟨ys, f1, f2, f3⟩ := sorted_out_str hS hp hs
  obtain ⟨c, hc⟩ := sortedHeap_at (vs := vs) (out := (arrOf st').map (·.2)) oL
  refine ⟨_, rfl, wpAny_pure ⟨_, rfl, hQ _ s1.heap.objs.size _ c ys (fun b u e => ?_) g1 o1 hz hc f1 (f2.trans pk) f3⟩⟩
  have q := k1 b u e
  have lt := Heap.lt_size q
  show (sortedHeap (s1.heap.push (seqObj "list" vs.toArray 0)) s1.heap.objs.size vs _).get? b = some u
  rw [sortedHeap_old (Nat.ne_of_lt lt) (by rw [size_push']; exact Nat.lt_succ_of_lt lt)]
  exact Heap.get?_push_of_some _ q
end
/-- a set of texts, tracked -/
def SetX (w : World) (a : Addr) (L : List Str) : HO := .ext fun h => SetS w h a L
theorem setX_new {P : Program} {w : World} {H : Hp} {h : Heap} {a : Addr} {L : List Str} (R : SetS w h a L) : ObjOk P w H h a (SetX w a L) := by
  have ⟨o, es, ep, t, ho, r⟩ := R
  exact ⟨R, ⟨o, ho⟩, fun h1 h2 p k => SetS.at p k⟩
theorem vals_txs : ∀ {xs : List Str} {us : List Value}, Vals (xs.map V.str) us → ∀ (i : Nat) (v : Value), us[i]? = some v → ∃ x t, xs[i]? = some x ∧ v = .str x t
  | [], _, .nil, i, v, h => by simp at h
  | x :: xs, _, .cons r t, 0, v, h => by
    obtain ⟨tk, rfl⟩ := r
    have e := Option.some.inj h
    exact ⟨x, tk, rfl, e.symm⟩
  | x :: xs, _, .cons r t, i + 1, v, h => vals_txs t i v h
section
variable {X : Cx}
def rSetX (K : PySem.W.Frag) (w : World) : List V → Hp → VK → Prop := fun vs H Q => ∃ (l : Addr) (xs : List Str), vs = [.ref l] ∧ (SqL K H l (xs.map V.str) ∨ SqT K H l (xs.map V.str)) ∧ xs.length ≤ 60 ∧ ∀ p, H p = none → Q (.ref p) (upd H p (SetX w p (firsts xs)))
theorem cr_setX (hc : X.calm = true) : CallR X (.type "set") (rSetX X.K X.w) := by
  intro pins s σ H vs us Q I r h
  obtain ⟨l, xs, rfl, hl, hf, q⟩ := h
  rw [Vals.ref1 r]
  have fin : ∀ (h' : Heap) (tk : Nat), SetS X.w h' s.heap.objs.size (firsts xs) → (∀ b o, s.heap.get? b = some o → h'.get? b = some o) → EP X pins σ Q (.ref s.heap.objs.size) { s with heap := h', toks := tk } := fun h' tk R k =>
    ⟨.ref s.heap.objs.size, _, I.laid (t' := tk) k (Nat.le_refl _) (setX_new R), rfl, q _ (I.hok.fresh (Nat.le_refl _))⟩
  have sb : xs.length + 1 < scanBound := by unfold scanBound; omega
  rcases hl with hl | hl
  · obtain ⟨its, rv, pl, hz⟩ := I.list hl
    exact setS_list (I.ok.hd hc) pl.isList (fun i v e => vals_txs rv i v (by simpa using e)) (by rw [List.size_toArray, ← rv.length, List.length_map]) sb fin
  · obtain ⟨its, rv, pl, hz⟩ := I.tuple hl
    exact setS_tuple (I.ok.hd hc) pl (fun i v e => vals_txs rv i v (by simpa using e)) (by rw [List.size_toArray, ← rv.length, List.length_map]) sb fin
def rSortX (w : World) : List V → Hp → VK → Prop := fun vs H Q => ∃ (a : Addr) (L : List Str), vs = [.ref a] ∧ H a = some (SetX w a L) ∧ L.length < 64 ∧ ∀ (ys : List Str) (p : Addr), ys.Perm L → sortedS ys = true → H p = none → Q (.ref p) (upd H p (.lst (ys.map V.str)))
theorem cr_sortX (hc : X.calm = true) : CallR X (.builtin "sorted") (rSortX X.w) := by
  intro pins s σ H vs us Q I r h
  obtain ⟨a, L, rfl, ha, h64, q⟩ := h
  have R : SetS X.w s.heap a L := (I.hok a _ ha).1
  rw [Vals.ref1 r]
  refine sortedS_set R (I.ok.hd hc) h64 fun s' p out c ys k g o hp hg hst pm so => ?_
  have hlen : (ys.map V.str).length ≤ sizeLine := by rw [List.length_map, pm.length_eq, sizeLine_eq]; omega
  have hn : H p = none := I.hok.fresh hp
  have J : Inv X pins σ (upd H p (.lst (ys.map V.str))) { s with heap := s'.heap, gens := s'.gens, drawn := s'.drawn, toks := s'.toks } :=
    I.call (ch := []) (Un.laid k hp hn) (I.hok.laid k hp ⟨hlen, out.toList, c, vals_of_strs hst, hg⟩) (by rw [g]; exact I.bare) (fun _ z => nomatch z)
  have e : s' = { s with heap := s'.heap, gens := s'.gens, drawn := s'.drawn, toks := s'.toks } := by
    cases s'
    cases s
    cases o
    rfl
  rw [e]
  exact ⟨.ref p, _, J, rfl, q ys p pm so hn⟩
def rLenX (w : World) : List V → Hp → VK → Prop := fun vs H Q => ∃ (a : Addr) (L : List Str), vs = [.ref a] ∧ H a = some (SetX w a L) ∧ Q (.int L.length) H
theorem cr_lenX : CallR X (.builtin "len") (rLenX X.w) := by
  intro pins s σ H vs us Q I r h
  obtain ⟨a, L, rfl, ha, q⟩ := h
  obtain ⟨o, es, ep, t, ho, hex, hd, g, pl, nd, hb, hf, hr, hl⟩ : SetS X.w s.heap a L := (I.hok a _ ha).1
  rw [Vals.ref1 r]
  have len : es.size = L.length := by
    have z := pl.length_eq
    rw [List.length_map, Array.length_toList] at z
    exact z
  refine call_len_set ho hex hd hf (by unfold scanBound at hb; omega) ⟨.int L.length, H, I.tok _, ⟨_, by rw [len]⟩, q⟩
end
end L2

/-! small rules and words -/
namespace L2
open PySem PySem.Spec PyProof.Rows
section
variable {X : Cx}
theorem call_repr_bl : CallR X (.builtin "repr") (fun xs H Q => ∃ b, xs = [.bl b] ∧ Q (.str (if b then "True" else "False")) H) := by
  intro pins s σ H xs us Q I r h
  obtain ⟨b, rfl, q⟩ := h
  cases r with
  | cons rb rn =>
    cases rn
    cases rb
    exact PySem.P.repr_of_bool ⟨.str _, H, I.tok _, ⟨_, rfl⟩, q⟩
theorem op_powW : OpR X (binaryOp .Pow) (rI (fun i j => 0 ≤ j ∧ (Builtin.Int.intBits i : Int) * j ≤ 2 ^ 27) fun i j => .int (i ^ j.toNat)) := opI fun _ _ _ _ _ _ _ hc q => pow_int hc.1 hc.2 q
end
/-- all but what stands at d stays -/
def Nr (d : Addr) (H H' : Hp) : Prop := ∀ b o, b ≠ d → H b = some o → H' b = some o
theorem Nr.refl (d : Addr) (H : Hp) : Nr d H H := fun _ _ _ h => h
theorem Nr.trans {d : Addr} {H H1 H2 : Hp} (a : Nr d H H1) (b : Nr d H1 H2) : Nr d H H2 := fun c o n h => b c o n (a c o n h)
theorem Same.nr {d : Addr} {H H' : Hp} (a : Same H H') : Nr d H H' := fun c o _ h => a c o h
theorem Nr.upd {d : Addr} {H : Hp} {o : HO} : Nr d H (upd H d o) := fun b u n h => by rw [upd_ne n]; exact h
theorem same_new {H : Hp} {p : Addr} {o : HO} (h : H p = none) : Same H (upd H p o) := fun b u e => by
  rw [upd_ne (ne_of_none e h)]
  exact e
theorem Same.new {H H1 : Hp} {p : Addr} {o : HO} (s : Same H H1) (h : H1 p = none) : Same H (upd H1 p o) := s.trans (same_new h)
/-- a new object may change -/
theorem Same.mut {H H1 : Hp} {p : Addr} {o : HO} (s : Same H H1) (h : H p = none) : Same H (L2.upd H1 p o) := fun b u e => by
  rw [upd_ne (ne_of_none e h)]
  exact s b u e
theorem Same.tup {K : PySem.W.Frag} {H H' : Hp} {a : Addr} {xs : List V} (e : Same H H') (h : SqT K H a xs) : SqT K H' a xs := by
  rcases h with (h | ⟨o, h⟩) | h
  · exact .inl (.inl (e _ _ h))
  · exact .inl (.inr ⟨o, e _ _ h⟩)
  · exact .inr h
/-- the dice: three numbers, the first one not below nought -/
def Dice (H : Hp) (d : Addr) : Prop := ∃ a b c : Int, 0 ≤ a ∧ H d = some (.lst [.int a, .int b, .int c])
theorem Dice.same {H H' : Hp} {d : Addr} (x : Dice H d) (s : Same H H') : Dice H' d := by
  obtain ⟨a, b, c, h, e⟩ := x
  exact ⟨a, b, c, h, s _ _ e⟩
theorem lst_of {K : PySem.W.Frag} {H : Hp} {a : Addr} {xs : List V} (h : H a = some (.lst xs)) : SqL K H a xs := .inl (.inl h)
theorem tup_of {K : PySem.W.Frag} {H : Hp} {a : Addr} {xs : List V} (h : H a = some (.tup xs)) : SqT K H a xs := .inl (.inl h)
end L2

/-! texts that are names; lists of texts as data -/
namespace L2
open PySem PySem.Spec PyProof.Rows
def signs : Str := "abcdefghijklmnopqrstuvwxyz"
/-- a name: one to eight letters a to z -/
def nameB (z : Str) : Bool := (decide (1 ≤ z.length) && decide (z.length ≤ 8)) && z.cps.toList.all fun c => decide (c ∈ signs.cps.toList)
theorem nameB_len {z : Str} (h : nameB z = true) : 1 ≤ z.length ∧ z.length ≤ 8 := by
  unfold nameB at h
  rw [Bool.and_eq_true, Bool.and_eq_true] at h
  exact ⟨of_decide_eq_true h.1.1, of_decide_eq_true h.1.2⟩
theorem signs_ok : (signs.cps.toList.all fun c => decide (c < 128)) = true := by decide +kernel
theorem nameB_code {z : Str} (h : nameB z = true) {c : Nat} (hc : c ∈ z.cps.toList) : c < 128 := by
  unfold nameB at h
  rw [Bool.and_eq_true] at h
  have h2 := List.all_eq_true.mp h.2 c hc
  exact of_decide_eq_true (List.all_eq_true.mp signs_ok c (of_decide_eq_true h2))
theorem nameB_ok {z : Str} (h : nameB z = true) : PyData.strOk z = true := by
  unfold PyData.strOk
  rw [Array.all_eq_true']
  intro c hc
  have h1 := nameB_code h (Array.mem_def.mp hc)
  exact decide_eq_true (Nat.lt_trans h1 (by decide))
abbrev dS (zs : List Str) : List PyData := zs.map PyData.str
theorem dpAll_strs {K : PySem.W.Frag} {H : Hp} : ∀ zs : List Str, DpAll K H (zs.map V.str) (dS zs)
  | [] => .nil
  | z :: zs => .cons (.str z) (dpAll_strs zs)
theorem dp_list {K : PySem.W.Frag} {H : Hp} {a : Addr} {zs : List Str} (h : SqL K H a (zs.map V.str)) : Dp K H (.ref a) (.list (dS zs)) := .lst h (dpAll_strs zs)
theorem dp_tuple {K : PySem.W.Frag} {H : Hp} {a : Addr} {zs : List Str} (h : SqT K H a (zs.map V.str)) : Dp K H (.ref a) (.tuple (dS zs)) := .tup h (dpAll_strs zs)
theorem lay_strs : ∀ {zs : List Str}, (∀ z ∈ zs, nameB z = true) → PyData.canLayAll0 (dS zs) = true
  | [], _ => by simp [PyData.canLayAll0, dS]
  | z :: zs, h => by
    have h1 := lay_strs (zs := zs) fun y hy => h y (List.mem_cons_of_mem _ hy)
    have h2 := nameB_ok (h z List.mem_cons_self)
    show PyData.canLayAll0 (PyData.str z :: dS zs) = true
    simp only [PyData.canLayAll0, PyData.canLay0, h1, h2, Bool.and_self]
theorem depth_strs : ∀ zs : List Str, PyData.depthAll (dS zs) = 0
  | [] => by simp [PyData.depthAll, dS]
  | z :: zs => by
    show PyData.depthAll (PyData.str z :: dS zs) = 0
    simp only [PyData.depthAll, PyData.depth, depth_strs zs]
    rfl
theorem shaped_list {zs : List Str} (h : ∀ z ∈ zs, nameB z = true) : SeqAt.shaped (.list (dS zs)) = true := by
  show (PyData.canLay0 (.list (dS zs)) && decide (PyData.depth (.list (dS zs)) ≤ 64)) = true
  rw [Bool.and_eq_true]
  refine ⟨by simp only [PyData.canLay0]; exact lay_strs h, decide_eq_true ?_⟩
  simp only [PyData.depth, depth_strs]
  decide
theorem shaped_tuple {zs : List Str} (h : ∀ z ∈ zs, nameB z = true) : SeqAt.shaped (.tuple (dS zs)) = true := by
  show (PyData.canLay0 (.tuple (dS zs)) && decide (PyData.depth (.tuple (dS zs)) ≤ 64)) = true
  rw [Bool.and_eq_true]
  refine ⟨by simp only [PyData.canLay0]; exact lay_strs h, decide_eq_true ?_⟩
  simp only [PyData.depth, depth_strs]
  decide
theorem eqvAll_strs : ∀ xs ys : List Str, PyData.eqvAll (dS xs) (dS ys) = decide (xs = ys)
  | [], [] => by simp [PyData.eqvAll, dS]
  | [], y :: ys => by simp [PyData.eqvAll, dS]
  | x :: xs, [] => by simp [PyData.eqvAll, dS]
  | x :: xs, y :: ys => by
    have ih := eqvAll_strs xs ys
    show PyData.eqvAll (PyData.str x :: dS xs) (PyData.str y :: dS ys) = _
    simp only [PyData.eqvAll, PyData.eqv, ih]
    by_cases h : x = y
    · subst h
      simp
    · have h1 : (x == y) = false := by simpa using h
      have h2 : ¬ (x :: xs = y :: ys) := fun z => h (List.cons.inj z).1
      rw [h1, decide_eq_false h2]
      rfl
theorem eqv_lists (xs ys : List Str) : PyData.eqv (.list (dS xs)) (.list (dS ys)) = decide (xs = ys) := by
  simp only [PyData.eqv]
  exact eqvAll_strs xs ys
theorem eqv_tuples (xs ys : List Str) : PyData.eqv (.tuple (dS xs)) (.tuple (dS ys)) = decide (xs = ys) := by
  simp only [PyData.eqv]
  exact eqvAll_strs xs ys
end L2

/-! comprehensions whose element and test only make objects -/
namespace L2
open PySem PySem.Spec PyProof.Rows
/-- the test answers b, the expression gives v; what was tracked stays -/
def TTo (tt : TT) (σ : St) (H : Hp) (b : Bool) : Prop := ∀ Q : Bool → Hp → Prop, (∀ H', Same H H' → Q b H') → tt σ H Q
def TEo (te : TE) (σ : St) (H : Hp) (v : V) : Prop := ∀ Q : VK, (∀ H', Same H H' → Q v H') → te σ H Q
theorem tto_yes {σ : St} {H : Hp} : TTo tYes σ H true := fun _ q => q H (Same.refl H)
theorem lc_on {α : Type} {J : It} {n : Nat} {G : Hp → Prop} {xs : List α} {h : α → V} (w : Walk J n G (YAt (xs.map h))) (hn : n = xs.length) {tt : TT} {te : TE} {i : Nat} {σ : St} {H1 : Hp} {D : Addr} {Qd : Hp → Prop} (keep : α → Bool) (F : α → V) (nD : H1 D = none)
    (hG : ∀ H, Same H1 H → G H) (hlen : xs.length < 100000)
    (ht : ∀ a ∈ xs, ∀ H, Same H1 H → TTo tt ((wipe σ [i]).set i (some (h a))) H (keep a))
    (he : ∀ a ∈ xs, keep a = true → ∀ H, Same H1 H → TEo te ((wipe σ [i]).set i (some (h a))) H (F a))
    (hd : ∀ H, Same H1 H → H D = some (.lst ((xs.filter keep).map F)) → Qd H) :
    ∃ W : Nat → Nat → Hp → Prop, (∃ m, W 0 m (upd H1 D (.lst []))) ∧ ∀ j m H, W j m H →
      (J.stop j H ∧ Qd H) ∨ (J.go j H ∧ ∃ Nx : Hp → Prop, (∀ H', Nx H' → ∃ m', m' < m ∧ W (j + 1) m' H') ∧ ∀ x H', J.yld j H x H' → gName i x (wipe σ [i]) H' fun σ2 H2 => wipe σ2 [i] = wipe σ [i] ∧ tt σ2 H2 fun b H3 =>
        if b = true then te σ2 H3 fun y H4 => ∃ acc, H4 D = some (.lst acc) ∧ acc.length < sizeLine ∧ Nx (upd H4 D (.lst (acc ++ [y]))) else Nx H3) := by
  subst hn
  refine lc_it w (fun j H => Same H1 H ∧ H D = some (.lst (((xs.take j).filter keep).map F))) ⟨same_new nD, by rw [upd_same]; rfl⟩ (fun j H _ p => hG H p.1) (fun j x H H' hj p y => ?_) fun H p => hd H p.1 (by rw [p.2, List.take_length])
  obtain ⟨s, eD⟩ := p
  obtain ⟨rfl, ex⟩ := y
  rw [List.getElem?_map, List.getElem?_eq_getElem hj] at ex
  have ex' : h xs[j] = x := Option.some.inj ex
  subst ex'
  have mem : xs[j] ∈ xs := List.getElem_mem hj
  have tk : xs.take (j + 1) = xs.take j ++ [xs[j]] := by rw [List.take_add_one, List.getElem?_eq_getElem hj]; rfl
  refine ⟨?_, ht _ mem H' s _ fun H3 s3 => ?_⟩
  · simp [wipe]
  · cases hk : keep xs[j] with
    | false =>
      refine iteF ⟨s.trans s3, ?_⟩
      rw [s3 _ _ eD, tk, List.filter_append, List.filter_cons_of_neg (by rw [hk]; exact Bool.false_ne_true), List.filter_nil, List.append_nil]
    | true =>
      refine iteT (he _ mem hk H3 (s.trans s3) _ fun H4 s4 => ⟨_, s4 _ _ (s3 _ _ eD), ?_, ?_, ?_⟩)
      · have l1 := List.length_filter_le keep (xs.take j)
        rw [List.length_map]
        rw [List.length_take] at l1
        exact Nat.lt_of_le_of_lt (show _ ≤ 100000 by omega) (by decide)
      · exact (s.trans (s3.trans s4)).mut nD
      · rw [upd_same, tk, List.filter_append, List.filter_cons_of_pos hk, List.filter_nil, List.map_append]
        rfl
theorem walk_txt {z : Str} : Walk (Its z) z.cps.toList.length (fun _ => True) (YAt (z.cps.toList.map fun c => V.str ⟨#[c]⟩)) := by
  refine ⟨fun i H hi _ => ?_, fun H _ => ?_, fun i H x H' hi _ y => ?_⟩
  · rw [Array.length_toList] at hi
    exact hi
  · show z.cps.size ≤ z.cps.toList.length
    rw [Array.length_toList]
    exact Nat.le_refl _
  · obtain ⟨e, c, hc, ex⟩ := y
    refine ⟨e, ?_⟩
    rw [List.getElem?_map, Array.getElem?_toList, hc, ex]
    rfl
theorem fil_true {α : Type} (xs : List α) : xs.filter (fun _ => true) = xs := List.filter_eq_self.mpr fun _ _ => rfl
/-- without a test -/
theorem lc_map {α : Type} {J : It} {n : Nat} {G : Hp → Prop} {xs : List α} {h : α → V} (w : Walk J n G (YAt (xs.map h))) (hn : n = xs.length) {te : TE} {i : Nat} {σ : St} {H1 : Hp} {D : Addr} {Qd : Hp → Prop} (F : α → V) (nD : H1 D = none)
    (hG : ∀ H, Same H1 H → G H) (hlen : xs.length < 100000)
    (he : ∀ a ∈ xs, ∀ H, Same H1 H → TEo te ((wipe σ [i]).set i (some (h a))) H (F a))
    (hd : ∀ H, Same H1 H → H D = some (.lst (xs.map F)) → Qd H) :
    ∃ W : Nat → Nat → Hp → Prop, (∃ m, W 0 m (upd H1 D (.lst []))) ∧ ∀ j m H, W j m H →
      (J.stop j H ∧ Qd H) ∨ (J.go j H ∧ ∃ Nx : Hp → Prop, (∀ H', Nx H' → ∃ m', m' < m ∧ W (j + 1) m' H') ∧ ∀ x H', J.yld j H x H' → gName i x (wipe σ [i]) H' fun σ2 H2 => wipe σ2 [i] = wipe σ [i] ∧ tYes σ2 H2 fun b H3 =>
        if b = true then te σ2 H3 fun y H4 => ∃ acc, H4 D = some (.lst acc) ∧ acc.length < sizeLine ∧ Nx (upd H4 D (.lst (acc ++ [y]))) else Nx H3) :=
  lc_on w hn (fun _ => true) F nD hG hlen (fun _ _ _ _ => tto_yes) (fun a ha _ H s => he a ha H s) fun H s e => hd H s (by rw [e, fil_true])
end L2

/-! the order of texts; the sorted list of different texts is one -/
namespace L2
open PySem PySem.Spec PyProof.Rows
def leS (a b : Str) : Bool := !ltCps b.cps.toList a.cps.toList
theorem leS_iff {a b : Str} : leS a b = true ↔ a.cps.toList ≤ b.cps.toList := by
  unfold leS
  rw [ltCps_eq]
  simp [List.not_lt]
theorem leS_trans {a b c : Str} (h : leS a b = true) (k : leS b c = true) : leS a c = true := leS_iff.mpr (List.le_trans (leS_iff.mp h) (leS_iff.mp k))
theorem leS_total (a b : Str) : (leS a b || leS b a) = true := by
  rw [Bool.or_eq_true, leS_iff, leS_iff]
  exact List.le_total _ _
theorem str_ext {a b : Str} (h : a.cps.toList = b.cps.toList) : a = b := by
  obtain ⟨x⟩ := a
  obtain ⟨y⟩ := b
  congr 1
  exact Array.toList_inj.mp h
theorem leS_anti {a b : Str} (h : leS a b = true) (k : leS b a = true) : a = b := str_ext (List.le_antisymm (leS_iff.mp h) (leS_iff.mp k))
theorem rising_pw : ∀ (l : List Str) (x : Str), risingS x l = true → (x :: l).Pairwise (fun a b => leS a b = true)
  | [], x, _ => List.pairwise_singleton _ _
  | y :: l, x, h => by
    have h2 : (leS x y && risingS y l) = true := h
    rw [Bool.and_eq_true] at h2
    have ih := rising_pw l y h2.2
    refine List.pairwise_cons.mpr ⟨fun z hz => ?_, ih⟩
    rcases List.mem_cons.mp hz with rfl | hz
    · exact h2.1
    · exact leS_trans h2.1 ((List.pairwise_cons.mp ih).1 z hz)
theorem pw_rising : ∀ (l : List Str) (x : Str), (x :: l).Pairwise (fun a b => leS a b = true) → risingS x l = true
  | [], x, _ => rfl
  | y :: l, x, h => by
    obtain ⟨h1, h2⟩ := List.pairwise_cons.mp h
    show (leS x y && risingS y l) = true
    rw [Bool.and_eq_true]
    exact ⟨h1 y List.mem_cons_self, pw_rising l y h2⟩
theorem sortedS_pw {l : List Str} (h : sortedS l = true) : l.Pairwise (fun a b => leS a b = true) := by
  cases l with
  | nil => exact List.Pairwise.nil
  | cons x l => exact rising_pw l x h
theorem pw_sortedS {l : List Str} (h : l.Pairwise (fun a b => leS a b = true)) : sortedS l = true := by
  cases l with
  | nil => rfl
  | cons x l => exact pw_rising l x h
theorem sorted_one : ∀ {l l' : List Str}, l.Perm l' → l.Pairwise (fun a b => leS a b = true) → l'.Pairwise (fun a b => leS a b = true) → l = l'
  | [], l', p, _, _ => (List.nil_perm.mp p).symm
  | x :: l, [], p, _, _ => by have := p.length_eq; simp at this
  | x :: l, y :: l', p, h, h' => by
    obtain ⟨h1, h2⟩ := List.pairwise_cons.mp h
    obtain ⟨k1, k2⟩ := List.pairwise_cons.mp h'
    have e : x = y := by
      rcases List.mem_cons.mp (p.mem_iff.mp (List.mem_cons_self (a := x) (l := l))) with e | m
      · exact e
      · rcases List.mem_cons.mp (p.mem_iff.mpr (List.mem_cons_self (a := y) (l := l'))) with e | m'
        · exact e.symm
        · exact leS_anti (h1 y m') (k1 x m)
    subst e
    rw [sorted_one (List.Perm.cons_inv p) h2 k2]
theorem mem_firsts {z : Str} {xs : List Str} : z ∈ firsts xs ↔ z ∈ xs := by
  have gen : ∀ (ys L : List Str), z ∈ ys.foldl (fun L x => if x ∈ L then L else L ++ [x]) L ↔ z ∈ L ∨ z ∈ ys := by
    intro ys
    induction ys with
    | nil => intro L; simp
    | cons y ys ih =>
      intro L
      rw [List.foldl_cons, ih]
      split
      · rename_i hy
        rw [List.mem_cons]
        constructor
        · rintro (h | h)
          · exact .inl h
          · exact .inr (.inr h)
        · rintro (h | rfl | h)
          · exact .inl h
          · exact .inl hy
          · exact .inr h
      · rw [List.mem_append, List.mem_singleton, List.mem_cons, or_assoc]
  rw [firsts, gen]
  simp
theorem nodup_firsts (xs : List Str) : (firsts xs).Nodup := by
  have gen : ∀ (ys L : List Str), L.Nodup → (ys.foldl (fun L x => if x ∈ L then L else L ++ [x]) L).Nodup := by
    intro ys
    induction ys with
    | nil => intro L h; exact h
    | cons y ys ih =>
      intro L h
      refine ih _ ?_
      show (if y ∈ L then L else L ++ [y]).Nodup
      split
      · exact h
      · rename_i hy
        exact List.nodup_append.mpr ⟨h, List.nodup_cons.mpr ⟨by simp, List.nodup_nil⟩, fun a ha b hb e => hy (by rw [← List.mem_singleton.mp hb, ← e]; exact ha)⟩
  exact gen xs [] List.nodup_nil
/-- the different ones, ascending -/
def canon (zs : List Str) : List Str := (firsts zs).mergeSort leS
theorem canon_perm (zs : List Str) : (canon zs).Perm (firsts zs) := List.mergeSort_perm _ _
theorem canon_pw (zs : List Str) : (canon zs).Pairwise (fun a b => leS a b = true) := List.pairwise_mergeSort (le := leS) (fun _ _ _ h k => leS_trans h k) leS_total _
theorem canon_is {zs ys : List Str} (p : ys.Perm (firsts zs)) (s : sortedS ys = true) : ys = canon zs := sorted_one (p.trans (canon_perm zs).symm) (sortedS_pw s) (canon_pw zs)
theorem mem_canon {z : Str} {zs : List Str} : z ∈ canon zs ↔ z ∈ zs := (canon_perm zs).mem_iff.trans mem_firsts
theorem nodup_canon (zs : List Str) : (canon zs).Nodup := (canon_perm zs).nodup_iff.mpr (nodup_firsts zs)
theorem canon_len (zs : List Str) : (canon zs).length ≤ zs.length := by rw [(canon_perm zs).length_eq]; exact firsts_len zs
theorem canon_congr {xs ys : List Str} (h : ∀ z, z ∈ xs ↔ z ∈ ys) : canon xs = canon ys := by
  refine sorted_one ((List.perm_ext_iff_of_nodup (nodup_canon xs) (nodup_canon ys)).mpr fun z => ?_) (canon_pw xs) (canon_pw ys)
  rw [mem_canon, mem_canon, h]
/-- what is sorted and has no repeats is its own -/
theorem canon_self {ys : List Str} (nd : ys.Nodup) (pw : ys.Pairwise (fun a b => leS a b = true)) : canon ys = ys := by
  refine sorted_one ((List.perm_ext_iff_of_nodup (nodup_canon ys) nd).mpr fun z => mem_canon) (canon_pw ys) pw
theorem canon_canon (zs : List Str) : canon (canon zs) = canon zs := canon_self (nodup_canon zs) (canon_pw zs)
/-- a dict with the keys L -/
abbrev keyT (z : Str) : Key × V := (Sum.inr z, .bl true)
theorem put_keyT (L : List Str) (x : Str) : putK (L.map keyT) (Sum.inr x) (.bl true) = (if x ∈ L then L else L ++ [x]).map keyT := by
  unfold putK
  by_cases h : x ∈ L
  · have e : ((L.map keyT).any fun kv => decide (kv.1 = Sum.inr x)) = true := List.any_eq_true.mpr ⟨keyT x, List.mem_map.mpr ⟨x, h, rfl⟩, decide_eq_true rfl⟩
    rw [if_pos e, if_pos h, List.map_map]
    refine List.map_congr_left fun z _ => ?_
    show (if (Sum.inr z : Key) = Sum.inr x then ((Sum.inr z : Key), V.bl true) else keyT z) = keyT z
    split <;> rfl
  · have e : ¬ (((L.map keyT).any fun kv => decide (kv.1 = Sum.inr x)) = true) := fun z => by
      obtain ⟨kv, hm, hk⟩ := List.any_eq_true.mp z
      obtain ⟨y, hy, rfl⟩ := List.mem_map.mp hm
      have ey : (Sum.inr y : Key) = Sum.inr x := of_decide_eq_true hk
      exact h (by rw [← Sum.inr.inj ey]; exact hy)
    rw [if_neg e, if_neg h, List.map_append]
    rfl
end L2

/-! x in a tuple of texts, whatever x is -/
namespace PySem
namespace TfI
open SeqAt MeetsSeq
section
variable {A : Around} {s : Shared}
theorem str_eq_dict (b : Str) (u : Tok) (l : Addr) (o : Obj) (es : Array DictEntry) (ep : Nat) (hc : o.cls = .type "dict") (hd : o.data = .dict es ep) :
    Meets (Builtin.«str.__eq__» ⟨[.str b u, .ref l], []⟩) (fun _ R s => s.heap.get? l = some o ∧ R (.ok (.ret .notImplemented)) s) :=
  .of_wp fun prog w A R s h => by
    obtain ⟨hp, g, d, tk, os⟩ := s
    obtain ⟨hl, h⟩ := h
    obtain ⟨oc, od, dt, sl⟩ := o
    simp only at hc hd
    subst hc
    subst hd
    have hsd := F.sub_str_dict
    wp_walk using wpAny_loadPart' hl, wpAny_load hl
    exact ⟨_, rfl, h⟩
theorem dict_eq_str (b : Str) (u : Tok) (l : Addr) (o : Obj) (es : Array DictEntry) (ep : Nat) (hc : o.cls = .type "dict") (hd : o.data = .dict es ep) :
    Meets (Builtin.«dict.__eq__» ⟨[.ref l, .str b u], []⟩) (fun _ R s => s.heap.get? l = some o ∧ R (.ok (.ret .notImplemented)) s) :=
  .of_wp fun prog w A R s h => by
    obtain ⟨hp, g, d, tk, os⟩ := s
    obtain ⟨hl, h⟩ := h
    obtain ⟨oc, od, dt, sl⟩ := o
    simp only at hc hd
    subst hc
    subst hd
    have hsd := F.sub_str_dict
    wp_walk using wpAny_loadPart' hl, wpAny_load hl
    exact ⟨_, rfl, h⟩
theorem eq_str_dict {l : Addr} {o : Obj} (b : Str) (u : Tok) {es : Array DictEntry} {ep : Nat} (ho : s.heap.get? l = some o) (hc : o.cls = .type "dict") (hd : o.data = .dict es ep) (hu : A.units < cLine) : EqAt A s (.str b u) (.ref l) false := fun prog w E Q h => by
  unfold eqBool
  refine wpAny_holding ?_
  refine wpAny_ite_split (fun hab => absurd (eq_of_beq hab) nofun) (fun _ => ?_)
  refine wpAny_bind ?_
  exact rc_eq_decline_or (k := false) (typeIs_str s b u) ⟨_, ho, hc⟩ (by decide) F.sub_dict_str F.slot_str_eq F.slot_dict_eq_refl
    (fun _ hq => call_meets F.slot_str_eq (typeIs_str s b u) F.entry_str_eq (F.args_str_eq_2 _ _) (str_eq_dict b u l o es ep hc hd) ⟨ho, hq⟩)
    (fun _ hq => call_meets F.slot_dict_eq_refl ⟨_, ho, hc⟩ F.entry_dict_eq (F.args_dict_eq_2 _ _) (dict_eq_str b u l o es ep hc hd) ⟨ho, hq⟩)
    (fun _ hq => wpAny_of_eq (rfl : isSame (.str b u) (.ref l) = pure false) hq) (.inr hu) (wpAny_truthy_bool h)
end
end TfI
end PySem
namespace L2
open PySem PySem.Spec PyProof.Rows
/-- a list, a tuple, a dict -/
def Box (K : PySem.W.Frag) (H : Hp) (x : V) : Prop := ∃ a : Addr, x = .ref a ∧ ((∃ xs, SqL K H a xs) ∨ (∃ xs, SqT K H a xs) ∨ ∃ kvs, H a = some (.dK kvs))
section
variable {X : Cx}
theorem eq_str_box {pins : List (Addr × Obj)} {σ : St} {H : Hp} {s : Shared} {x : V} {v : Value} {b : Str} {u : Tok} {A : Around} (I : Inv X pins σ H s) (h : Box X.K H x) (r : RelV x v) (hu : A.units < cLine) : SeqAt.EqAt A s (.str b u) v false := by
  obtain ⟨a, rfl, h⟩ := h
  cases r
  rcases h with ⟨xs, h⟩ | ⟨xs, h⟩ | ⟨kvs, h⟩
  · obtain ⟨its, _, pl, _⟩ := I.list h
    exact SeqAt.EqAt.str_list b u pl.isList hu
  · obtain ⟨its, _, pl, _⟩ := I.tuple h
    exact SeqAt.EqAt.str_tuple b u pl hu
  · obtain ⟨_, _, vs, _, o, es, ep, h1, h2, h3, _⟩ := (show ObjOk X.prog X.w H s.heap a (.dK kvs) from I.hok a _ h)
    exact PySem.TfI.eq_str_dict b u h1 h2.1 h3 hu
/-- x in (texts): x a list, a tuple, a dict -/
def rInB (K : PySem.W.Frag) (neg : Bool) : R2 := fun x y H Q => ∃ (p : Addr) (zs : List Str), y = .ref p ∧ (SqL K H p (zs.map V.str) ∨ SqT K H p (zs.map V.str)) ∧ Box K H x ∧ Q (.bl neg) H
/-- .. x anything of these -/
def rInX (K : PySem.W.Frag) (neg : Bool) : R2 := fun x y H Q => rIn K neg x y H Q ∨ rInB K neg x y H Q
theorem box_items {pins : List (Addr × Obj)} {σ : St} {H : Hp} {s : Shared} {x : V} {v : Value} {A : Around} (I : Inv X pins σ H s) (h : Box X.K H x) (r : RelV x v) (hu : A.units < cLine) : ∀ {zs : List Str} {its : List Value}, Vals (zs.map V.str) its → ∀ y ∈ its, SeqAt.EqAt A s y v false
  | [], _, .nil, y, hy => by cases hy
  | z :: zs, _, .cons rz rs, y, hy => by
    rcases List.mem_cons.mp hy with rfl | hy
    · obtain ⟨t, rfl⟩ := rz
      exact eq_str_box I h r hu
    · exact box_items I h r hu rs y hy
theorem op_inX (hu : X.A.units + 1 < cLine) : OpR X (compareOp .In) (rInX X.K false) := by
  intro pins s σ H x y v u Q I rx ry h
  rcases h with h | h
  · exact op_in_seq pins s σ H x y v u Q I rx ry h
  · obtain ⟨p, zs, rfl, hq, hb, q⟩ := h
    cases ry
    rcases hq with hq | hq
    · obtain ⟨its, r, pl, hz⟩ := I.list hq
      refine SeqAt.in_listAt (fun _ => false) pl.isList (fun w hw => box_items I hb rx hu r w (by simpa using hw)) ⟨.bl _, H, I, rfl, ?_⟩
      rw [show its.toArray.any (fun _ => false) = false by simp]
      exact q
    · obtain ⟨its, r, pl, hz⟩ := I.tuple hq
      refine SeqAt.in_tupleAt (fun _ => false) pl (fun w hw => box_items I hb rx hu r w (by simpa using hw)) ⟨.bl _, H, I, rfl, ?_⟩
      rw [show its.toArray.any (fun _ => false) = false by simp]
      exact q
end
end L2

/-! the ways of a statement meet again; slices of texts -/
namespace L2
open PySem PySem.Spec PyProof.Rows
theorem ps_mid {X : Cx} {st : Stmt} {t : TS} (h : PS X st t) : PS X st (fun D σ H => ∃ J : L2.St → Hp → Prop, t { D with nx := J } σ H ∧ ∀ σ' H', J σ' H' → D.nx σ' H') := by
  refine ⟨fun pins s σ H D I ⟨J, h1, h2⟩ => thn (h.run pins s σ H { D with nx := J } I h1) fun f s1 q => ?_⟩
  cases f with
  | next =>
    obtain ⟨σ', H', I', q⟩ := q
    exact ⟨σ', H', I', h2 _ _ q⟩
  | _ => exact q
theorem cut_txt (zs : List Str) (lo hi : Option Int) : ∃ ys : List Str, cutV (zs.map V.str) lo hi = ys.map V.str ∧ (∀ y ∈ ys, y ∈ zs) ∧ ys.length ≤ zs.length := by
  unfold cutV
  refine ⟨(zs.drop (HT.sIx (zs.map V.str).length 0 lo)).take (HT.sIx (zs.map V.str).length (zs.map V.str).length hi - HT.sIx (zs.map V.str).length 0 lo), by rw [List.map_take, List.map_drop], fun y hy => List.mem_of_mem_drop (List.mem_of_mem_take hy), ?_⟩
  rw [List.length_take, List.length_drop]
  omega
theorem cut_tail (xs : List V) : cutV xs (some 1) none = xs.drop 1 := by
  unfold cutV
  have e : HT.sIx xs.length 0 (some 1) = min 1 xs.length := HT.sIx_nat xs.length 0 1
  rw [e, HT.sIx_none]
  cases xs with
  | nil => rfl
  | cons x xs =>
    have e1 : min 1 (x :: xs).length = 1 := by rw [List.length_cons]; omega
    rw [e1]
    refine List.take_of_length_le ?_
    rw [List.length_drop]
    exact Nat.le_refl _
theorem Same.sql {K : PySem.W.Frag} {H H' : Hp} {a : Addr} {xs : List V} (e : Same H H') (h : SqL K H a xs) : SqL K H' a xs := by
  rcases h with (h | ⟨o, h⟩) | h
  · exact .inl (.inl (e _ _ h))
  · exact .inl (.inr ⟨o, e _ _ h⟩)
  · exact .inr h
/-- a list of names != [] -/
theorem ne_nil {K : PySem.W.Frag} {H : Hp} {p : Addr} {zs : List Str} {R : VK} (hp : SqL K H p (zs.map V.str)) (nz : ∀ z ∈ zs, nameB z = true) (h : ∀ H', Same H H' → R (.bl (!decide (zs = []))) H') :
    0 ≤ sizeLine ∧ ∀ t, H t = none → rNeD K (.ref p) (.ref t) (upd H t (.lst [])) R := by
  refine ⟨Nat.zero_le _, fun t nt => ⟨.list (dS zs), .list (dS []), dp_list ((same_new nt).sql hp), dp_list (zs := []) (lst_of upd_same), shaped_list nz, shaped_list (zs := []) (by intro z hz; cases hz), ?_⟩⟩
  rw [eqv_lists]
  exact h _ (same_new nt)
theorem eq_nil {K : PySem.W.Frag} {H : Hp} {p : Addr} {zs : List Str} {R : VK} (hp : SqL K H p (zs.map V.str)) (nz : ∀ z ∈ zs, nameB z = true) (h : ∀ H', Same H H' → R (.bl (decide (zs = []))) H') :
    0 ≤ sizeLine ∧ ∀ t, H t = none → rEqD K (.ref p) (.ref t) (upd H t (.lst [])) R := by
  refine ⟨Nat.zero_le _, fun t nt => ⟨.list (dS zs), .list (dS []), dp_list ((same_new nt).sql hp), dp_list (zs := []) (lst_of upd_same), shaped_list nz, shaped_list (zs := []) (by intro z hz; cases hz), ?_⟩⟩
  rw [eqv_lists]
  exact h _ (same_new nt)
end L2

/-! the law's draws: dice, roll, pick -/
namespace Tf
open PySem PySem.Spec PyProof.Rows L2
def top (i : Nat) : Stmt := PySem.Challenge.pw_treefits_k01_names_and_languages.main.body.getD i (.Pass ⟨0, 0, 0, 0⟩)
abbrev sRoll : Stmt := top 16
abbrev sPick : Stmt := top 17
abbrev sDice : Stmt := top 15
theorem scRoll : FnScope ["_law_dice_here", "_law_upto", "_law_found", "_law_one", "_law_two"] ["_law_dice_here", "_law_upto"] (defScope sRoll) := ⟨rfl, rfl, rfl, by decide +kernel, rfl, by decide +kernel, by decide +kernel⟩
theorem scPick : FnScope ["_law_dice_here", "_law_items"] ["_law_dice_here", "_law_items"] (defScope sPick) := ⟨rfl, rfl, rfl, by decide +kernel, rfl, by decide +kernel, by decide +kernel⟩
theorem scDice : FnScope ["_law_script", "_law_spot", "_law_cell", "_law_great", "_law_blend"] ["_law_script", "_law_spot"] (defScope sDice) := ⟨rfl, rfl, rfl, by decide +kernel, rfl, by decide +kernel, by decide +kernel⟩
/-- roll(dice, n): a number from 0 to n - 1; the dice change -/
def spRoll : Sp := fun vs H Q _ => ∃ (d : Addr) (n : Int), vs = [.ref d, .int n] ∧ Dice H d ∧ 0 < n ∧ n < 1000000 ∧
  ∀ (r : Int) (H' : Hp), 0 ≤ r → r < n → Nr d H H' → Dice H' d → Q (.int r) H'
section
variable {P : Program} {w : World} {K : PySem.W.Frag} {mg : Str → Option Value} {base : Heap}
theorem ok_roll {f : Addr} {fd : FuncData} {k : Nat} (F : Fun K "_law_roll" "_law_roll" sRoll f fd) (mi : mg "int" = none) : FnOk P w K mg base CX0 (k + 1) f fd ["_law_dice_here", "_law_upto"] spRoll := by
  refine F.ok scRoll (fun vs H Q E h => ?_) (fun cdv A outer s H vs Q E hr h => ?_)
  · obtain ⟨d, n, rfl, _⟩ := h
    rfl
  · obtain ⟨d, n, rfl, ⟨a, b, c, ha, hd⟩, n0, n1, q⟩ := h
    refine ⟨_, pss_cons (ps_if (pt_cmpR op_gt (pe_ix ix_list (pv 0) pe_int (fun _ _ => rfl)) pe_int (nomark _))
        (pss_cons (ps_set (i := 2) scRoll.nd rfl (.inl rfl) (pe_op op_modN (pe_callTy call_int1 (by rfl) mi (by decide +kernel) (pa_cons (pe_ix ix_list (pv 0) pe_int (fun _ _ => rfl)) pa_nil)) (pv 1)))
        (pss_cons (ps_asg (pe_op op_fdivN (pe_ix ix_list (pv 0) pe_int (fun _ _ => rfl)) (pv 1)) (pg_sub (pv 0) pe_int set_list))
        (pss_one (ps_ret (pv 2))))) pss_nil)
      (pss_cons (ps_asg (pe_op op_add (pe_ix ix_list (pv 0) pe_int (fun _ _ => rfl)) pe_int) (pg_sub (pv 0) pe_int set_list))
      (pss_cons (ps_set (i := 3) scRoll.nd rfl (.inl rfl) (pe_op op_modN (pe_callTy call_int1 (by rfl) mi (by decide +kernel) (pa_cons (pe_op op_add (pe_ix ix_list (pv 0) pe_int (fun _ _ => rfl)) (pe_op op_mul pe_int (pe_ix ix_list (pv 0) pe_int (fun _ _ => rfl)))) pa_nil)) pe_int))
      (pss_cons (ps_set (i := 4) scRoll.nd rfl (.inl rfl) (pe_op op_add (pe_op op_mul (pe_op op_modN (pe_callTy call_int1 (by rfl) mi (by decide +kernel) (pa_cons (pe_op op_mul (pv 3) (pv 3)) pa_nil)) pe_int) (pv 3)) (pe_op op_mul pe_int (pe_ix ix_list (pv 0) pe_int (fun _ _ => rfl)))))
      (pss_one (ps_ret (pe_op op_modN (pe_callTy call_int1 (by rfl) mi (by decide +kernel) (pa_cons (pe_op op_fdivN (pe_op op_modN (pe_callTy call_int1 (by rfl) mi (by decide +kernel) (pa_cons (pe_op op_add (pv 4) (pe_ix ix_list (pv 0) pe_int (fun _ _ => rfl))) pa_nil)) pe_int) pe_int) pa_nil)) (pv 1))))))), ?_⟩
    have hA : SqL K H d [.int a, .int b, .int c] := lst_of hd
    refine ⟨.ref d, rfl, d, _, 0, .int a, rfl, rfl, hA, rfl, a, 0, rfl, rfl, _, rfl, ite2 (fun e => ?_) (fun e => ?_)⟩
    · refine ⟨.ref d, rfl, d, _, 0, .int a, rfl, rfl, hA, rfl, .inl ⟨a, rfl, .int n, rfl, a, n, rfl, rfl, by omega, ?_⟩⟩
      refine ⟨.ref d, rfl, d, _, 0, .int a, rfl, rfl, hA, rfl, .int n, rfl, a, n, rfl, rfl, ⟨by omega, by omega⟩, ?_⟩
      refine ⟨.ref d, rfl, d, [.int a, .int b, .int c], 0, 0, rfl, rfl, hd, rfl, ?_⟩
      refine ⟨.int (a.fmod n), rfl, q _ _ (Int.fmod_nonneg_of_pos _ n0) (Int.fmod_lt_of_pos _ n0) Nr.upd ⟨a.fdiv n, b, c, Int.fdiv_nonneg ha (by omega), upd_same⟩⟩
    · have hA' : ∀ x y z : V, SqL K (upd H d (.lst [x, y, z])) d [x, y, z] := fun x y z => lst_of upd_same
      refine ⟨.ref d, rfl, d, _, 2, .int c, rfl, rfl, hA, rfl, c, 1, rfl, rfl, ?_⟩
      refine ⟨.ref d, rfl, d, [.int a, .int b, .int c], 2, 2, rfl, rfl, hd, rfl, ?_⟩
      have hB : SqL K (upd H d (.lst [.int a, .int b, .int (c + 1)])) d [.int a, .int b, .int (c + 1)] := hA' _ _ _
      -- _law_one
      have o0 := Int.fmod_nonneg_of_pos (b + 982451653 * (c + 1)) (show (0 : Int) < 67280421310721 by decide)
      have o1 := Int.fmod_lt_of_pos (b + 982451653 * (c + 1)) (show (0 : Int) < 67280421310721 by decide)
      refine ⟨.ref d, rfl, d, _, 1, .int b, rfl, rfl, hB, rfl, .ref d, rfl, d, _, 2, .int (c + 1), rfl, rfl, hB, rfl, 982451653, c + 1, rfl, rfl, .inl ⟨by decide, by decide⟩, b, _, rfl, rfl, .inl ⟨_, rfl, _, 67280421310721, rfl, rfl, (show (67280421310721 : Int) ≠ 0 by decide), ?_⟩⟩
      -- _law_two
      refine ⟨_, rfl, _, rfl, _, _, rfl, rfl, .inl ⟨Int.lt_of_lt_of_le (by decide) o0, Int.lt_trans o1 (by decide)⟩, .inl ⟨_, rfl, _, 576460752303423433, rfl, rfl, (show (576460752303423433 : Int) ≠ 0 by decide), _, rfl, _, _, rfl, rfl, .inr ⟨Int.lt_of_lt_of_le (by decide) o0, Int.lt_trans o1 (by decide)⟩, .ref d, rfl, d, _, 2, .int (c + 1), rfl, rfl, hB, rfl, 8191, c + 1, rfl, rfl, .inl ⟨by decide, by decide⟩, _, _, rfl, rfl, ?_⟩⟩
      refine ⟨_, rfl, .ref d, rfl, d, _, 1, .int b, rfl, rfl, hB, rfl, _, b, rfl, rfl, .inl ⟨_, rfl, _, 2199023255531, rfl, rfl, (show (2199023255531 : Int) ≠ 0 by decide), _, 64, rfl, rfl, ⟨by decide, by decide⟩, .inl ⟨_, rfl, .int n, rfl, _, n, rfl, rfl, (show n ≠ 0 by omega), ?_⟩⟩⟩
      exact q _ _ (Int.fmod_nonneg_of_pos _ n0) (Int.fmod_lt_of_pos _ n0) Nr.upd ⟨a, b, c + 1, ha, upd_same⟩
/-- pick(dice, items): one of them -/
def spPick (K : PySem.W.Frag) : Sp := fun vs H Q _ => ∃ (d l : Addr) (xs : List V), vs = [.ref d, .ref l] ∧ Dice H d ∧ H l = some (.lst xs) ∧ d ≠ l ∧ xs ≠ [] ∧ xs.length < 1000 ∧
  ∀ (v : V) (H' : Hp), v ∈ xs → Nr d H H' → Dice H' d → Q v H'
theorem ok_pick {f fR : Addr} {fd fdR : FuncData} {k : Nat} (F : Fun K "_law_pick" "_law_pick" sPick f fd) (FR : Fun K "_law_roll" "_law_roll" sRoll fR fdR) (bR : Binds K fdR ["_law_dice_here", "_law_upto"] []) (gR : mg "_law_roll" = some (.ref fR)) (mi : mg "int" = none) (ml : mg "len" = none) : FnOk P w K mg base CX0 (k + 2) f fd ["_law_dice_here", "_law_items"] (spPick K) := by
  have GR : FnOk P w K mg base CX0 (k + 1) fR fdR ["_law_dice_here", "_law_upto"] spRoll := ok_roll FR mi
  refine F.ok scPick (fun vs H Q E h => ?_) (fun cdv A outer s H vs Q E hr h => ?_)
  · obtain ⟨d, l, xs, rfl, _⟩ := h
    rfl
  · obtain ⟨d, l, xs, rfl, hd, hl, ne, x0, x1, q⟩ := h
    refine ⟨_, pss_one (ps_ret (pe_ix ix_list (pv 1) (pe_call GR hr (by rfl) gR FR.kp bR .nil pass0 (pa_cons (pv 0) (pa_cons (pe_callB call_len_seq (by rfl) ml PySem.boot_len (pa_cons (pv 1) pa_nil)) pa_nil))) (fun _ _ => rfl))), ?_⟩
    have l0 : 0 < xs.length := List.length_pos_iff.mpr x0
    refine ⟨.ref l, rfl, .ref d, rfl, .ref l, rfl, l, xs, rfl, .inl (lst_of hl), d, (xs.length : Int), rfl, hd, by omega, by omega, fun r H' r0 r1 nr dc => ?_⟩
    have hi : r.toNat < xs.length := by omega
    refine ⟨l, xs, r, xs[r.toNat], rfl, rfl, lst_of (nr l _ ne.symm hl), ?_, q _ _ (List.getElem_mem hi) nr dc⟩
    exact at_of (j := r.toNat) (by omega) (List.getElem?_eq_getElem hi)
/-- dice(script, spot) -/
def spDice (K : PySem.W.Frag) : Sp := fun vs H Q _ => ∃ (a : Addr) (ns : List Int) (i : Int), vs = [.ref a, .int i] ∧ SqL K H a (ns.map V.int) ∧ 0 ≤ i ∧ i < 1000 ∧
  ∀ (d : Addr) (H' : Hp), Same H H' → H d = none → Dice H' d → Q (.ref d) H'
theorem ok_dice {f : Addr} {fd : FuncData} {k : Nat} (F : Fun K "_law_dice" "_law_dice" sDice f fd) (mi : mg "int" = none) (ml : mg "len" = none) (ma : mg "abs" = none) (mx : mg "max" = none) : FnOk P w K mg base CX0 (k + 1) f fd ["_law_script", "_law_spot"] (spDice K) := by
  refine F.ok scDice (fun vs H Q E h => ?_) (fun cdv A outer s H vs Q E hr h => ?_)
  · obtain ⟨a, ns, i, rfl, _⟩ := h
    rfl
  · obtain ⟨a, ns, i, rfl, hS, i0, i1, q⟩ := h
    refine ⟨_, pss_cons (ps_set (i := 2) scDice.nd rfl (.inl rfl) (pe_ifExp (pt_cmpR op_lt (pv 1) (pe_callB call_len_seq (by rfl) ml PySem.boot_len (pa_cons (pv 0) pa_nil)) (nomark _)) (pe_ix ix_list (pv 0) (pv 1) (fun _ _ => rfl)) (pe_op op_add (pe_op op_mul pe_int (pv 1)) pe_int)))
      (pss_cons (ps_set (i := 3) scDice.nd rfl (.inl rfl) (pe_op op_modN (pe_callTy call_int1 (by rfl) mi (by decide +kernel) (pa_cons (pe_callB call_abs (by rfl) ma (by decide +kernel) (pa_cons (pv 2) pa_nil)) pa_nil)) (pe_op op_powW (pe_op op_pow pe_int pe_int) pe_int)))
      (pss_cons (ps_set (i := 4) scDice.nd rfl (.inl rfl) (pe_op op_add (pe_op op_add (pe_op op_add (pe_op op_mul (pv 3) pe_int) (pe_op op_mul pe_int (pv 1))) (pe_op op_mul pe_int (pe_callTy call_int1 (by rfl) mi (by decide +kernel) (pa_cons (pe_cmpR op_lt (pv 2) pe_int (nomark _)) pa_nil)))) pe_int))
      (pss_one (ps_ret (pe_lst (pa_cons (pe_callB (call_max2 rfl) (by rfl) mx (by decide +kernel) (pa_cons pe_int (pa_cons (pe_op op_sub (pv 3) (pe_op op_pow pe_int pe_int)) pa_nil))) (pa_cons (pe_op op_modN (pe_callTy call_int1 (by rfl) mi (by decide +kernel) (pa_cons (pv 4) pa_nil)) pe_int) (pa_cons pe_int pa_nil)))))))), ?_⟩
    have big : (Builtin.Int.intBits ((10 : Int) ^ (59 : Int).toNat) : Int) * 11 ≤ 2 ^ 27 := by decide +kernel
    have pos : (0 : Int) < ((10 : Int) ^ (59 : Int).toNat) ^ (11 : Int).toNat := by decide +kernel
    refine ⟨.int i, rfl, .ref a, rfl, a, _, rfl, .inl hS, _, _, rfl, rfl, _, rfl, ite2 (fun e => ?_) (fun e => ?_)⟩
    · have e1 : i < ((ns.map V.int).length : Int) := of_decide_eq_true e
      have e2 : i.toNat < (ns.map V.int).length := by omega
      have e3 : i.toNat < ns.length := by rw [List.length_map] at e2; exact e2
      refine ⟨.ref a, rfl, .int i, rfl, a, _, i, .int ns[i.toNat], rfl, rfl, hS, at_of (j := i.toNat) (by omega) (by rw [List.getElem?_map, List.getElem?_eq_getElem e3]; rfl), ?_⟩
      refine ⟨_, rfl, _, rfl, .inl ⟨_, rfl, 10, 59, rfl, rfl, ⟨by decide, by decide, by decide⟩, _, 11, rfl, rfl, ⟨by decide, big⟩, _, _, rfl, rfl, (by intro z; rw [z] at pos; exact absurd pos (by decide)), ?_⟩⟩
      refine ⟨_, rfl, _, 2862933555777941757, rfl, rfl, .inr ⟨by decide, by decide⟩, .int i, rfl, 61, i, rfl, rfl, .inl ⟨by decide, by decide⟩, _, _, rfl, rfl, _, rfl, _, 0, rfl, rfl, .inr ⟨_, rfl, 13, _, rfl, rfl, .inl ⟨by decide, by decide⟩, _, _, rfl, rfl, _, 5, rfl, rfl, ?_⟩⟩
      refine ⟨_, rfl, 10, 18, rfl, rfl, ⟨by decide, by decide, by decide⟩, _, _, rfl, rfl, 0, _, rfl, _, rfl, .inl ⟨_, rfl, _, 2305843009213693951, rfl, rfl, (show (2305843009213693951 : Int) ≠ 0 by decide), ?_⟩⟩
      refine ⟨by show 3 ≤ sizeLine; decide, fun d nd => ?_⟩
      refine q d _ (same_new nd) nd ⟨_, _, 0, ?_, upd_same⟩
      show (0 : Int) ≤ if _ > (0 : Int) then _ else 0
      split <;> omega
    · refine ⟨.int i, rfl, 29, i, rfl, rfl, .inl ⟨by decide, by decide⟩, _, 12, rfl, rfl, ?_⟩
      refine ⟨_, rfl, _, rfl, .inl ⟨_, rfl, 10, 59, rfl, rfl, ⟨by decide, by decide, by decide⟩, _, 11, rfl, rfl, ⟨by decide, big⟩, _, _, rfl, rfl, (by intro z; rw [z] at pos; exact absurd pos (by decide)), ?_⟩⟩
      refine ⟨_, rfl, _, 2862933555777941757, rfl, rfl, .inr ⟨by decide, by decide⟩, .int i, rfl, 61, i, rfl, rfl, .inl ⟨by decide, by decide⟩, _, _, rfl, rfl, _, rfl, _, 0, rfl, rfl, .inr ⟨_, rfl, 13, _, rfl, rfl, .inl ⟨by decide, by decide⟩, _, _, rfl, rfl, _, 5, rfl, rfl, ?_⟩⟩
      refine ⟨_, rfl, 10, 18, rfl, rfl, ⟨by decide, by decide, by decide⟩, _, _, rfl, rfl, 0, _, rfl, _, rfl, .inl ⟨_, rfl, _, 2305843009213693951, rfl, rfl, (show (2305843009213693951 : Int) ≠ 0 by decide), ?_⟩⟩
      refine ⟨by show 3 ≤ sizeLine; decide, fun d nd => ?_⟩
      refine q d _ (same_new nd) nd ⟨_, _, 0, ?_, upd_same⟩
      show (0 : Int) ≤ if _ > (0 : Int) then _ else 0
      split <;> omega
end
end Tf

/-! mixed(dice, items): the items in a drawn order -/
namespace Tf
open PySem PySem.Spec PyProof.Rows L2
abbrev sMixed : Stmt := top 18
theorem scMixed : FnScope ["_law_dice_here", "_law_items", "_law_left", "_law_found"] ["_law_dice_here", "_law_items"] (defScope sMixed) := ⟨rfl, rfl, rfl, by decide +kernel, rfl, by decide +kernel, by decide +kernel⟩
def spMixed (K : PySem.W.Frag) : Sp := fun vs H Q _ => ∃ (d l : Addr) (zs : List Str), vs = [.ref d, .ref l] ∧ Dice H d ∧ (SqL K H l (zs.map V.str) ∨ SqT K H l (zs.map V.str)) ∧ (∀ z ∈ zs, nameB z = true) ∧ zs.length < 1000 ∧
  ∀ (ys : List Str) (p : Addr) (H' : Hp), ys.Perm zs → Nr d H H' → Dice H' d → H p = none → H' p = some (.lst (ys.map V.str)) → Q (.ref p) H'
theorem perm_erase {α : Type} : ∀ (l : List α) (i : Nat) (y : α), l[i]? = some y → (y :: l.eraseIdx i).Perm l
  | [], i, y, h => by simp at h
  | x :: l, 0, y, h => by
    have e : x = y := Option.some.inj h
    subst e
    exact List.Perm.refl _
  | x :: l, i + 1, y, h => by
    have ih := perm_erase l i y h
    show (y :: x :: l.eraseIdx i).Perm (x :: l)
    exact (List.Perm.swap x y _).trans (ih.cons x)
theorem era_map {α β : Type} (f : α → β) : ∀ (xs : List α) (j : Nat), (xs.map f).eraseIdx j = (xs.eraseIdx j).map f
  | [], _ => rfl
  | _ :: _, 0 => rfl
  | x :: xs, j + 1 => by
    show f x :: (xs.map f).eraseIdx j = f x :: (xs.eraseIdx j).map f
    rw [era_map f xs j]
section
variable {P : Program} {w : World} {K : PySem.W.Frag} {mg : Str → Option Value} {base : Heap}
theorem ok_mixed {f fR : Addr} {fd fdR : FuncData} {k : Nat} (F : Fun K "_law_mixed" "_law_mixed" sMixed f fd) (FR : Fun K "_law_roll" "_law_roll" sRoll fR fdR) (bR : Binds K fdR ["_law_dice_here", "_law_upto"] []) (gR : mg "_law_roll" = some (.ref fR)) (mi : mg "int" = none) (ml : mg "len" = none) (mL : mg "list" = none) : FnOk P w K mg base CX0 (k + 2) f fd ["_law_dice_here", "_law_items"] (spMixed K) := by
  have GR : FnOk P w K mg base CX0 (k + 1) fR fdR ["_law_dice_here", "_law_upto"] spRoll := ok_roll FR mi
  refine F.ok scMixed (fun vs H Q E h => ?_) (fun cdv A outer s H vs Q E hr h => ?_)
  · obtain ⟨d, l, zs, rfl, _⟩ := h
    rfl
  · obtain ⟨d, l, zs, rfl, hd, hl, nz, z1, q⟩ := h
    have hu : (A.deeper (envOfC "_law_mixed" (defScope sMixed) s.heap.objs.size f cdv)).units + 64 < cLine := by have := hr.un; omega
    refine ⟨_, pss_cons (ps_par (i := 2) (j := 3) (by rfl) scMixed.nd rfl rfl (by decide) rfl rfl (pa_cons (pe_callTy call_list_of (by rfl) mL (by decide +kernel) (pa_cons (pv 1) pa_nil)) (pa_cons (pe_lst pa_nil) pa_nil)) (by rfl))
      (pss_cons (ps_while PassesOwn.never (pt_cmpR (op_neD hu) (pv 2) (pe_lst pa_nil) (nomark _))
        (pss_one (ps_expr (pe_bm PySem.F.plainAttrs_list PySem.F.slot_list_append PySem.F.type_list_append mt_append (pv 3)
          (pa_cons (pe_bm PySem.F.plainAttrs_list PySem.F.slot_list_pop PySem.F.type_list_pop mt_popAt (pv 2) (pa_cons (pe_call GR hr (by rfl) gR FR.kp bR .nil pass0 (pa_cons (pv 0) (pa_cons (pe_callB call_len_seq (by rfl) ml PySem.boot_len (pa_cons (pv 2) pa_nil)) pa_nil))) pa_nil)) pa_nil)))))
      (pss_one (ps_ret (pv 3)))), ?_⟩
    refine ⟨.ref l, rfl, l, zs.map V.str, rfl, hl, fun pl npl => ⟨Nat.zero_le _, fun pf npf => ⟨_, _, rfl, ?_⟩⟩⟩
    have s1 : Same H (upd H pl (.lst (zs.map V.str))) := same_new npl
    have nf1 : H pf = none := s1.free npf
    have npp : pl ≠ pf := fun e => by rw [← e, upd_same] at npf; cases npf
    obtain ⟨a0, b0, c0, ha0, hd0⟩ := hd
    have ndl : pl ≠ d := (ne_of_none hd0 npl).symm
    have ndf : pf ≠ d := (ne_of_none hd0 nf1).symm
    refine ⟨fun m σ H3 => ∃ ls fs : List Str, m = ls.length ∧ σ = [some (.ref d), some (.ref l), some (.ref pl), some (.ref pf)] ∧ (fs ++ ls).Perm zs ∧ (∀ b o, b ≠ d → H b = some o → H3 b = some o) ∧ Dice H3 d ∧ H3 pl = some (.lst (ls.map V.str)) ∧ H3 pf = some (.lst (fs.map V.str)),
      ⟨zs.length, zs, [], rfl, rfl, List.Perm.refl _, ?_, ?_, ?_, ?_⟩, ?_⟩
    · intro b o nb e
      rw [upd_ne (ne_of_none e nf1), upd_ne (ne_of_none e npl)]
      exact e
    · refine ⟨a0, b0, c0, ha0, ?_⟩
      rw [upd_ne ndf.symm, upd_ne ndl.symm]
      exact hd0
    · rw [upd_ne npp, upd_same]
    · rw [upd_same]
      rfl
    · rintro m σ H3 ⟨ls, fs, rfl, rfl, pm, kp, dc, el, ef⟩
      have nls : ∀ z ∈ ls, nameB z = true := fun z hz => nz z (pm.mem_iff.mp (List.mem_append_right _ hz))
      have lenp := pm.length_eq
      rw [List.length_append] at lenp
      refine ⟨.ref pl, rfl, Nat.zero_le _, fun t nt => ?_⟩
      have st : Same H3 (upd H3 t (.lst [])) := same_new nt
      refine ⟨.list (dS ls), .list (dS []), dp_list (lst_of (st _ _ el)), dp_list (zs := []) (lst_of upd_same), shaped_list nls, shaped_list (zs := []) (by intro z hz; cases hz), ?_⟩
      rw [eqv_lists]
      have dc2 : Dice (upd H3 t (.lst [])) d := dc.same st
      have el2 := st _ _ el
      have ef2 := st _ _ ef
      have kp2 : ∀ b o, b ≠ d → H b = some o → (upd H3 t (.lst [])) b = some o := fun b o nb e => st _ _ (kp b o nb e)
      generalize upd H3 t (.lst []) = H4 at dc2 el2 ef2 kp2 ⊢
      cases ls with
      | nil =>
        refine ⟨false, by simp, ?_⟩
        refine ⟨.ref pf, rfl, q fs pf H4 (by simpa using pm) kp2 dc2 nf1 ef2⟩
      | cons z ls =>
        have lz : ((z :: ls).map V.str).length = ls.length + 1 := by simp
        refine ⟨true, by simp, fun σ' H' => ∃ ls' fs' : List Str, ls'.length < (z :: ls).length ∧ σ' = [some (.ref d), some (.ref l), some (.ref pl), some (.ref pf)] ∧ (fs' ++ ls').Perm zs ∧ (∀ b o, b ≠ d → H b = some o → H' b = some o) ∧ Dice H' d ∧ H' pl = some (.lst (ls'.map V.str)) ∧ H' pf = some (.lst (fs'.map V.str)), fun σ' H' ⟨ls', fs', h1, h2, h3⟩ => ⟨ls'.length, h1, ls', fs', rfl, h2, h3⟩, ?_⟩
        refine ⟨.ref pf, rfl, .inl ⟨rfl, _, lst_of ef2⟩, .ref pl, rfl, .inl ⟨rfl, _, lst_of el2⟩, .ref d, rfl, .ref pl, rfl, pl, _, rfl, .inl (lst_of el2), d, _, rfl, dc2, ?_, ?_, fun r H5 r0 r1 nr dc5 => ?_⟩
        · rw [lz]; omega
        · rw [lz]
          have : (z :: ls).length = ls.length + 1 := rfl
          omega
        · rw [lz] at r1
          have el5 := nr pl _ ndl el2
          have ef5 := nr pf _ ndf ef2
          have hi : r.toNat < (z :: ls).length := by show r.toNat < ls.length + 1; omega
          have gi : ((z :: ls).map V.str)[r.toNat]? = some (.str (z :: ls)[r.toNat]) := by rw [List.getElem?_map, List.getElem?_eq_getElem hi]; rfl
          have pe := perm_erase (z :: ls) r.toNat _ (List.getElem?_eq_getElem hi)
          refine ⟨pl, _, r, r.toNat, _, rfl, rfl, el5, by omega, by omega, ?_, gi, ?_⟩
          · exact PySem.seqIndex_of r0 (by rw [lz]; exact r1)
          · refine ⟨pf, _, _, rfl, rfl, by rw [upd_ne npp.symm]; exact ef5, ?_, ?_⟩
            · rw [List.length_map]
              exact small1000 (by omega)
            · refine ⟨(z :: ls).eraseIdx r.toNat, fs ++ [(z :: ls)[r.toNat]], ?_, rfl, ?_, ?_, ?_, ?_, ?_⟩
              · have := pe.length_eq
                rw [List.length_cons] at this
                omega
              · rw [List.append_assoc]
                exact (pe.append_left fs).trans pm
              · intro b o nb e
                have nbp : b ≠ pl := fun z => by rw [z, npl] at e; cases e
                have nbf : b ≠ pf := fun z => by rw [z, nf1] at e; cases e
                rw [upd_ne nbf, upd_ne nbp]
                exact nr b o nb (kp2 b o nb e)
              · obtain ⟨a5, b5, c5, h5, e5⟩ := dc5
                exact ⟨a5, b5, c5, h5, by rw [upd_ne ndf.symm, upd_ne ndl.symm]; exact e5⟩
              · rw [upd_ne npp, upd_same, era_map]
              · rw [upd_same, List.map_append]
                rfl
end
end Tf

/-! is_name -/
namespace Tf
open PySem PySem.Spec PyProof.Rows L2
abbrev sName : Stmt := top 10
theorem scName : FnScope ["value", "sign"] ["value"] (defScope sName) := ⟨rfl, rfl, rfl, by decide +kernel, rfl, by decide +kernel, by decide +kernel⟩
/-- not a text -/
def NoStr (K : PySem.W.Frag) (H : Hp) (x : V) : Prop := ∃ t : String, TyX K H x (.type t) ∧ kitB t "str" = some false
/-- a text of at most a thousand signs, or no text -/
def Some1 (K : PySem.W.Frag) (H : Hp) (x : V) : Prop := (∃ z : Str, x = .str z ∧ z.length ≤ 1000) ∨ NoStr K H x
/-- whether a value is a name -/
def isN : V → Bool
  | .str z => nameB z
  | _ => false
def spName (K : PySem.W.Frag) : Sp := fun vs H Q _ => ∃ x : V, vs = [x] ∧ Some1 K H x ∧ ((∃ z, x = .str z) ∨ isN x = false) ∧ ∀ H', Same H H' → Q (.bl (isN x)) H'
section
variable {P : Program} {w : World} {K : PySem.W.Frag} {mg : Str → Option Value} {base : Heap}
theorem ok_name {f : Addr} {fd : FuncData} {k : Nat} {t8 ts : Tok} (F : Fun K "is_name" "is_name" sName f fd) (mI : mg "isinstance" = none) (mS : mg "str" = none) (mL : mg "len" = none) (mA : mg "all" = none) (g8 : mg "MAX_SIGNS" = some (.int 8 t8)) (gs : mg "SIGNS" = some (.str signs ts)) : FnOk P w K mg base CX0 (k + 1) f fd ["value"] (spName K) := by
  refine F.ok scName (fun vs H Q E h => ?_) (fun cdv A outer s H vs Q E hr h => ?_)
  · obtain ⟨x, rfl, _⟩ := h
    rfl
  · obtain ⟨x, rfl, h1, h2, q⟩ := h
    refine ⟨_, pss_cons (ps_if (PW.pt (pw_or (pt_not (pt_val (pe_callB call_isi (by rfl) mI (by decide +kernel) (pa_cons (pv 0) (pa_cons (pe_bltn (v := .ty "str") (by rfl) mS (by decide +kernel) rfl) pa_nil)))))
          (pw_or1 (pt_not (pt_chain op_le op_le pe_int (pe_callB call_len_str (by rfl) mL PySem.boot_len (pa_cons (pv 0) pa_nil)) (pe_glob (v := .int 8) rfl g8 ⟨_, rfl⟩))))))
        (pss_one (ps_ret pe_bl)) pss_nil)
      (pss_one (ps_ret (pe_callB (cr_all rfl) (by rfl) mA (by decide +kernel) (pa_cons (pe_lc (own := [("sign", 1)]) (g := gName 1) (tt := tYes) (by rfl) scName.nd (pi_str (pv 0)) (blkOk_by (own := [("sign", 1)]) (N := ["value", "sign"]) (sc := defScope sName) (by decide +kernel)) (fun _ _ _ _ _ => pg_name (i := 1) scName.nd rfl (Or.inl rfl)) (fun _ _ _ _ _ => pts_nil)
          (fun _ _ _ _ _ => pe_cmpR op_in_sign (pv 1) (pe_glob (v := .str signs) rfl gs ⟨_, rfl⟩) (by rfl))) pa_nil)))), ?_⟩
    rcases h1 with ⟨z, rfl, hz⟩ | ⟨t, ht, kt⟩
    · have zs : z.length ≤ sizeLine := Nat.le_trans hz (by decide)
      refine ⟨.str z, rfl, .str z, .ty "str", .type "str", .type "str", true, rfl, .ty _, .base (.str z), kit_ty (by decide +kernel), true, rfl, iteF ?_⟩
      refine ⟨.str z, rfl, z, rfl, zs, 1, (z.length : Int), rfl, rfl, _, rfl, ?_⟩
      have bad : (¬ (1 ≤ z.length ∧ z.length ≤ 8)) → Q (.bl false) H := fun c => by
        have e : isN (.str z) = false := by
          show nameB z = false
          cases hb : nameB z with
          | false => rfl
          | true => exact absurd (nameB_len hb) c
        rw [e] at q
        exact q H (Same.refl H)
      refine ite2 (fun c1 => ?_) (fun c1 => ⟨false, rfl, iteT (bad ?_)⟩)
      · have c1' : (1 : Int) ≤ (z.length : Int) := of_decide_eq_true c1
        refine ⟨(z.length : Int), 8, rfl, rfl, _, rfl, ?_⟩
        by_cases c2 : z.length ≤ 8
        · have d2 : decide ((z.length : Int) ≤ 8) = true := decide_eq_true (by omega)
          rw [d2]
          refine iteF ?_
          -- the signs
          refine ⟨.str z, rfl, z, rfl, fun D nD => lc_on (h := fun c => V.str ⟨#[c]⟩) walk_txt rfl (fun _ => true) (fun c => .bl (decide (c ∈ signs.cps.toList))) nD (fun _ _ => trivial) ?_ (fun c _ H2 _ => tto_yes) (fun c _ _ H2 s2 Q' q' => ⟨_, rfl, c, signs, rfl, rfl, q' H2 (Same.refl H2)⟩) fun H2 s2 e2 => ?_⟩
          · rw [Array.length_toList]
            show z.length < 100000
            omega
          · refine ⟨D, z.cps.toList.map fun c => decide (c ∈ signs.cps.toList), rfl, lst_of ?_, ?_⟩
            · rw [e2, List.map_map, fil_true]
              rfl
            · have e : isN (.str z) = (z.cps.toList.map fun c => decide (c ∈ signs.cps.toList)).all id := by
                show nameB z = _
                unfold nameB
                rw [decide_eq_true (show 1 ≤ z.length by omega), decide_eq_true c2, List.all_map]
                rfl
              rw [e] at q
              exact q H2 s2
        · have d2 : decide ((z.length : Int) ≤ 8) = false := decide_eq_false (by omega)
          rw [d2]
          exact iteT (bad (by omega))
      · have c1' : ¬ (1 : Int) ≤ (z.length : Int) := fun z => c1 (decide_eq_true z)
        omega
    · refine ⟨x, rfl, x, .ty "str", .type t, .type "str", false, rfl, .ty _, ht, kit_ty kt, false, rfl, iteT ?_⟩
      have e : isN x = false := by
        rcases h2 with ⟨z, rfl⟩ | e
        · cases ht with
          | base b =>
            cases b
            exact absurd kt (by decide +kernel)
        · exact e
      rw [e] at q
      exact iteT (q H (Same.refl H))
end
end Tf

/-! different_names -/
namespace Tf
open PySem PySem.Spec PyProof.Rows L2
abbrev veBm : List Value := [.type "ValueError", .type "Exception", .type "BaseException", .type "object"]
/-- an error class over TreeError -/
abbrev TreeTxt (P : Program) (K : PySem.W.Frag) (mg : Str → Option Value) (x : Str) (C D fI : Addr) : Prop := PySem.TfS.SupTxt P K mg "ValueError" "ValueError.__new__" "ValueError.__init__" veBm x "message" "TreeError.__init__" [] C D fI
theorem pmk_tree {X : Cx} {x : Str} {C D fI : Addr} {a : Expr} {ta : TA} {p pos : Pos} {k : Nat} (T : TreeTxt X.prog X.K X.mg x C D fI) (hr : Room k X.A) (ha : PA X [a] ta) (hg : Gl X x := by rfl) (hdb : (x == ("__debug__" : Str)) = false := by decide)
    (he : starEach (a :: []) X.env = (false, eval a X.env) :: starEach [] X.env := by rfl) (hpl : (backTo pos (starEach [] X.env)).any (·.1) = false := by rfl) : PMk X (.Call (.Name x p) [a] [] pos) (tMkS C ta) :=
  pmk_sup PySem.W.kxs_ValueError PySem.F.excBase_ValueError T hr ha (by decide +kernel) (by decide +kernel) (by decide +kernel) (by decide +kernel) (by decide +kernel) (fun _ _ _ _ _ _ _ _ _ _ _ _ => rfl) hg hdb he hpl
abbrev sDiff : Stmt := top 11
theorem scDiff : FnScope ["values", "value"] ["values"] (defScope sDiff) := ⟨rfl, rfl, rfl, by decide +kernel, rfl, by decide +kernel, by decide +kernel⟩
/-- not a tuple -/
def NoTup (K : PySem.W.Frag) (H : Hp) (x : V) : Prop := ∃ t : Value, TyX K H x t ∧ PySem.W.kitOne K t (.type "tuple") = some false
/-- a value that may stand in a tuple of names -/
def Item (K : PySem.W.Frag) (H : Hp) (x : V) : Prop := Some1 K H x ∧ ((∃ z, x = .str z) ∨ isN x = false)
/-- the texts among the values -/
def txts (xs : List V) : List Str := xs.filterMap fun x => match x with | .str z => some z | _ => none
def spDiff (K : PySem.W.Frag) (CI : Addr) : Sp := fun vs H Q E => ∃ x : V, vs = [x] ∧
  ((NoTup K H x ∧ ∀ H', Same H H' → E (.ref CI) none H') ∨
   (∃ (a : Addr) (xs : List V), x = .ref a ∧ SqT K H a xs ∧ (∀ y ∈ xs, ∀ H', Same H H' → Item K H' y) ∧ xs.length ≤ 60 ∧
     (xs.all isN = false → ∀ H', Same H H' → E (.ref CI) none H') ∧
     (xs.all isN = true → ∀ (p : Addr) (H' : Hp), Same H H' → H p = none → H' p = some (.tup ((canon (txts xs)).map V.str)) → Q (.ref p) H')))
theorem ty_tup {K : PySem.W.Frag} {H : Hp} {a : Addr} {xs : List V} (h : SqT K H a xs) : TyX K H (.ref a) (.type "tuple") := by
  rcases h with (h | ⟨o, h⟩) | h
  · exact .base (.tup h)
  · exact .fTuple h
  · obtain ⟨o, its, n, h1, h2, h3, h4⟩ := h
    exact .kTuple h1 h2
theorem txts_cons_str (z : Str) (xs : List V) : txts (.str z :: xs) = z :: txts xs := rfl
theorem all_names : ∀ {xs : List V}, xs.all isN = true → xs = (txts xs).map V.str ∧ ∀ z ∈ txts xs, nameB z = true
  | [], _ => ⟨rfl, fun z hz => by cases hz⟩
  | x :: xs, h => by
    have h2 : (isN x && xs.all isN) = true := h
    rw [Bool.and_eq_true] at h2
    obtain ⟨e, n⟩ := all_names h2.2
    cases x with
    | str z =>
      rw [txts_cons_str]
      refine ⟨by rw [List.map_cons, ← e], fun y hy => ?_⟩
      rcases List.mem_cons.mp hy with rfl | hy
      · exact h2.1
      · exact n y hy
    | _ => exact absurd h2.1 (by intro z; cases z)
section
variable {P : Program} {w : World} {K : PySem.W.Frag} {mg : Str → Option Value} {base : Heap}
theorem ok_diff {f fN CI CT fI : Addr} {fd fdN : FuncData} {k : Nat} (F : Fun K "different_names" "different_names" sDiff f fd) (T : TreeTxt P K mg "InvalidLanguage" CI CT fI) (GN : FnOk P w K mg base CX0 (k + 1) fN fdN ["value"] (spName K)) (bN : Binds K fdN ["value"] []) (gN : mg "is_name" = some (.ref fN)) (kN : PySem.W.keepIn K (.ref fN) = true)
    (mI : mg "isinstance" = none) (mT : mg "tuple" = none) (mA : mg "all" = none) (mS : mg "sorted" = none) (mL : mg "list" = none) : FnOk P w K mg base (L2.CX P w) (k + 3) f fd ["values"] (spDiff K CI) := by
  refine F.okX scDiff (fun vs H Q E h => ?_) (fun cdv A outer s H vs Q E hr h => ?_)
  · obtain ⟨x, rfl, _⟩ := h
    rfl
  · obtain ⟨x, rfl, h⟩ := h
    refine ⟨_, pss_cons (ps_if (PW.pt (pw_or (pt_not (pt_val (pe_callB call_isi (by rfl) mI (by decide +kernel) (pa_cons (pv 0) (pa_cons (pe_bltn (v := .ty "tuple") (by rfl) mT (by decide +kernel) rfl) pa_nil)))))
          (pw_or1 (pt_not (pt_val (pe_callB (cr_all rfl) (by rfl) mA (by decide +kernel) (pa_cons (pe_lc (own := [("value", 1)]) (g := gName 1) (tt := tYes) (by rfl) scDiff.nd (pi_tup (pv 0)) (blkOk_by (own := [("value", 1)]) (N := ["values", "value"]) (sc := defScope sDiff) (by decide +kernel)) (fun _ _ _ _ _ => pg_name (i := 1) scDiff.nd rfl (Or.inl rfl)) (fun _ _ _ _ _ => pts_nil)
            (fun _ _ _ _ _ => pe_call GN (hr.mono (by omega)) (by rfl) gN kN bN .nil pass0 (pa_cons (pv 1) pa_nil))) pa_nil)))))))
        (pss_one (ps_raise rfl (takes_of rfl rfl rfl rfl) (pmk_tree T hr (pa_cons pe_str pa_nil)))) pss_nil)
      (pss_one (ps_ret (pe_callTy call_tuple_of (by rfl) mT (by decide +kernel) (pa_cons (pe_callB cr_sortedS (by rfl) mS (by decide +kernel) (pa_cons (pe_callTy (call_list_dK rfl) (by rfl) mL (by decide +kernel) (pa_cons
        (pe_dc (own := [("value", 1)]) (g := gName 1) (tt := tYes) (by rfl) scDiff.nd (pi_tup (pv 0)) (blkOk_by (own := [("value", 1)]) (N := ["values", "value"]) (sc := defScope sDiff) (by decide +kernel)) (fun _ _ _ _ _ => pg_name (i := 1) scDiff.nd rfl (Or.inl rfl)) (fun _ _ _ _ _ => pts_nil) (fun _ _ _ _ _ => pv 1) (fun _ _ _ _ _ => pe_bl)) pa_nil)) pa_nil)) pa_nil)))), ?_⟩
    rcases h with ⟨⟨t, ht, kt⟩, hE⟩ | ⟨a, xs, rfl, hS, hI, hl, hE, hQ⟩
    · refine ⟨x, rfl, x, .ty "tuple", t, .type "tuple", false, rfl, .ty _, ht, kt, false, rfl, iteT (iteT ?_)⟩
      exact ⟨_, rfl, hE H (Same.refl H)⟩
    · refine ⟨.ref a, rfl, .ref a, .ty "tuple", .type "tuple", .type "tuple", true, rfl, .ty _, ty_tup hS, kit_ty (by decide +kernel), true, rfl, iteF ?_⟩
      refine ⟨.ref a, rfl, a, rfl, ⟨_, hS⟩, fun D nD => lc_map (h := fun x : V => x) (xs := xs) (by rw [List.map_id']; exact walk_tup) rfl (fun x => .bl (isN x)) nD (fun H2 s2 => s2.tup hS) (by omega) (fun x hx H2 s2 Q' q' => ?_) fun H2 s2 e2 => ?_⟩
      · obtain ⟨i1, i2⟩ := hI x hx H2 s2
        exact ⟨x, rfl, x, rfl, i1, i2, fun H3 s3 => q' H3 s3⟩
      · refine ⟨D, xs.map isN, rfl, lst_of (by rw [e2, List.map_map]; rfl), ?_⟩
        rw [List.all_map]
        cases ha : xs.all isN with
        | false =>
          have e : xs.all (id ∘ isN) = false := ha
          rw [e]
          exact ⟨false, rfl, iteT ⟨_, rfl, hE ha H2 s2⟩⟩
        | true =>
          have e : xs.all (id ∘ isN) = true := ha
          rw [e]
          obtain ⟨ex, nx⟩ := all_names ha
          generalize txts xs = zs at ex nx hQ
          subst ex
          rw [List.length_map] at hl
          refine ⟨true, rfl, iteF ?_⟩
          have hS2 := s2.tup hS
          refine ⟨.ref a, rfl, a, rfl, ⟨_, hS2⟩, fun D3 nD3 => dc_tup (xs := zs.map V.str) (fun i H3 => Same H2 H3 ∧ H3 D3 = some (.dK ((firsts (zs.take i)).map keyT))) ⟨same_new nD3, by rw [upd_same]; rfl⟩ (fun i H3 _ p => p.1.tup hS2) (fun i x H3 hx p => ?_) fun H3 p => ?_⟩
          · obtain ⟨s3, e3⟩ := p
            rw [List.getElem?_map] at hx
            cases hz : zs[i]? with
            | none => rw [hz] at hx; cases hx
            | some z =>
              rw [hz] at hx
              have ex : V.str z = x := Option.some.inj hx
              subst ex
              have hi : i < zs.length := (List.getElem?_eq_some_iff.mp hz).1
              have tk : zs.take (i + 1) = zs.take i ++ [z] := by rw [List.take_add_one, hz]; rfl
              refine ⟨by simp [wipe], ?_⟩
              unfold tYes
              simp only [↓reduceIte]
              refine ⟨_, rfl, _, Sum.inr z, rfl, e3, ?_, ?_, ?_⟩
              · have := firsts_len (zs.take i)
                rw [List.length_map]
                rw [List.length_take] at this
                exact small1000 (by omega)
              · exact s3.mut nD3
              · rw [upd_same, put_keyT, ← firsts_snoc, ← tk]
          · obtain ⟨s3, e3⟩ := p
            rw [List.length_map, List.take_length] at e3
            refine ⟨D3, _, rfl, e3, fun p4 n4 => ?_⟩
            have fl := firsts_len zs
            refine ⟨p4, firsts zs, rfl, lst_of ?_, by omega, fun ys p5 pm so n5 => ?_⟩
            · rw [upd_same, List.map_map]
              rfl
            · have ey : ys = canon zs := canon_is pm so
              subst ey
              refine ⟨p5, _, rfl, .inl ⟨lst_of upd_same, fun p6 n6 => ?_⟩⟩
              have s6 := ((s2.trans s3).new n4 |>.new n5).new (o := .tup ((canon zs).map V.str)) n6
              exact hQ ha p6 _ s6 (((s2.trans s3).new n4 |>.new n5).free n6) upd_same
end
end Tf

/-! Language.__init__ -/
namespace Tf
open PySem PySem.Spec PyProof.Rows L2
abbrev sLang : Stmt := top 13
abbrev sInit : Stmt := inClass sLang 0
theorem scInit : FnScope ["self", "kinds", "marks", "kind"] ["self", "kinds", "marks"] (defScope sInit) := ⟨rfl, rfl, rfl, by decide +kernel, rfl, by decide +kernel, by decide +kernel⟩
/-- a language stands at a: its marks and kinds -/
def LangAt (C : Addr) (H : Hp) (a : Addr) (ms ks : List Str) : Prop := ∃ dx fs pm pk, H a = some (.ins C dx fs) ∧ fs.lookup ("own_marks" : Str) = some (.ref pm) ∧ fs.lookup ("own_kinds" : Str) = some (.ref pk) ∧ H pm = some (.tup (ms.map V.str)) ∧ H pk = some (.tup (ks.map V.str))
theorem LangAt.same {C : Addr} {H H' : Hp} {a : Addr} {ms ks : List Str} (h : LangAt C H a ms ks) (s : Same H H') : LangAt C H' a ms ks := by
  obtain ⟨dx, fs, pm, pk, h1, h2, h3, h4, h5⟩ := h
  exact ⟨dx, fs, pm, pk, s _ _ h1, h2, h3, s _ _ h4, s _ _ h5⟩
/-- whether these marks and kinds make a language -/
def langOk (ms ks : List Str) : Bool := (decide ((canon ms).length ≤ 8) && (decide (1 ≤ (canon ks).length) && decide ((canon ks).length ≤ 4))) && !(canon ks).any fun k => decide (k ∈ canon ms)
/-- marks ms, the value kv as kinds: it is done, or refused -/
def Makes (K : PySem.W.Frag) (H0 : Hp) (ms : List V) (kv : V) (good : List Str → Prop) (bad : Prop) : Prop :=
  (∀ y ∈ ms, ∀ H', Same H0 H' → Item K H' y) ∧ ms.length ≤ 60 ∧
  ((ms.all isN = false → bad) ∧ (ms.all isN = true →
    (((∀ H', Same H0 H' → NoTup K H' kv) ∧ bad) ∨
     ∃ (a : Addr) (ks : List V), kv = .ref a ∧ SqT K H0 a ks ∧ (∀ y ∈ ks, ∀ H', Same H0 H' → Item K H' y) ∧ ks.length ≤ 60 ∧
      (ks.all isN = false → bad) ∧ (ks.all isN = true → langOk (txts ms) (txts ks) = false → bad) ∧ (ks.all isN = true → langOk (txts ms) (txts ks) = true → good (txts ks)))))
def spBody (K : PySem.W.Frag) (C CI : Addr) : Sp := fun vs H Q E => ∃ (x pm dx : Addr) (kv : V) (ms : List V) (H0 : Hp), vs = [.ref x, kv, .ref pm] ∧ Same H0 H ∧ H0 x = none ∧ H x = some (.ins C dx []) ∧ H pm = some (.tup ms) ∧
  Makes K H0 ms kv (fun ks => ∀ H', Same H0 H' → LangAt C H' x (canon (txts ms)) (canon ks) → Q .non H') (∀ H', Same H0 H' → E (.ref CI) none H')
theorem flat_strs (zs : List Str) : (zs.map V.str).all flatV = true := by
  rw [List.all_map]
  exact List.all_eq_true.mpr fun _ _ => rfl
theorem any_congr {α : Type} {xs : List α} {p q : α → Bool} (h : ∀ z, p z = q z) : xs.any p = xs.any q := by rw [show p = q from funext h]
theorem inV_strs (z : Str) (zs : List Str) : inV (.str z) (zs.map V.str) = decide (z ∈ zs) := by
  unfold inV
  rw [List.any_map]
  by_cases h : z ∈ zs
  · rw [decide_eq_true h]
    exact List.any_eq_true.mpr ⟨z, h, show (z == z) = true by simp⟩
  · rw [decide_eq_false h]
    refine List.any_eq_false.mpr fun y hy e => h ?_
    have e' : (y == z) = true := e
    rw [← beq_iff_eq.mp e']
    exact hy
section
variable {P : Program} {w : World} {K : PySem.W.Frag} {mg : Str → Option Value} {base : Heap}
/-- what of the class Language the written part tells -/
structure LCls (K : PySem.W.Frag) (C : Addr) : Prop where
  cl : Cls K C
  nm : NoAttr K C "own_marks"
  nk : NoAttr K C "own_kinds"
theorem body_init {f fD CI CT fI C : Addr} {fdD : FuncData} {k : Nat} {t8 t4 : Tok} (L : LCls K C) (T : TreeTxt P K mg "InvalidLanguage" CI CT fI) (GD : FnOk P w K mg base (L2.CX P w) k fD fdD ["values"] (spDiff K CI)) (bD : Binds K fdD ["values"] []) (gD : mg "different_names" = some (.ref fD)) (kD : PySem.W.keepIn K (.ref fD) = true)
    (mL : mg "len" = none) (mA : mg "any" = none) (g8 : mg "MAX_MARKS" = some (.int 8 t8)) (g4 : mg "MAX_KINDS" = some (.int 4 t4))
    (cdv : Value) (A : Around) (outer : List Env) (s : Shared) (H : Hp) (vs : List V) (Q : VK) (E : XK) (hr : Room k (A.deeper (envOfC "Language.__init__" (defScope sInit) s.heap.objs.size f cdv))) (h : spBody K C CI vs H Q E) :
    ∃ t, PSs (cxOf (L2.CX P w) P w K mg base ["self", "kinds", "marks", "kind"] "Language.__init__" (defScope sInit) f cdv A outer s H E) (defBody sInit) t ∧ t { nx := fun _ H' => Q .non H', rt := Q } (start ["self", "kinds", "marks", "kind"] vs) H := by
  obtain ⟨x, pm, dx, kv, ms, H0, rfl, s0, nx, hx, hpm, mi, ml, mb, mk⟩ := h
  refine ⟨_, pss_cons (ps_fld (pv 0) (pe_call GD hr (by rfl) gD kD bD .nil (passes_call (takes_of rfl rfl rfl rfl) (fun _ _ _ _ h => h)) (pa_cons (pv 2) pa_nil)) rfl)
    (pss_cons (ps_fld (pv 0) (pe_call GD hr (by rfl) gD kD bD .nil (passes_call (takes_of rfl rfl rfl rfl) (fun _ _ _ _ h => h)) (pa_cons (pv 1) pa_nil)) rfl)
    (pss_cons (ps_if (PW.pt (pw_or (pt_cmpR op_gt (pe_callB call_len_seq (by rfl) mL PySem.boot_len (pa_cons (pe_fld (pv 0) rfl) pa_nil)) (pe_glob (v := .int 8) rfl g8 ⟨_, rfl⟩) (nomark _))
        (pw_or1 (pt_not (pt_chain op_le op_le pe_int (pe_callB call_len_seq (by rfl) mL PySem.boot_len (pa_cons (pe_fld (pv 0) rfl) pa_nil)) (pe_glob (v := .int 4) rfl g4 ⟨_, rfl⟩))))))
      (pss_one (ps_raise rfl (takes_of rfl rfl rfl rfl) (pmk_tree T hr (pa_cons pe_str pa_nil)))) pss_nil)
    (pss_one (ps_if (pt_val (pe_callB (cr_any rfl) (by rfl) mA (by decide +kernel) (pa_cons (pe_lc (own := [("kind", 3)]) (g := gName 3) (tt := tYes) (te := tOp (rIn K false) (tVar 3) (tFld K (tVar 0) "own_marks")) (by rfl) scInit.nd (pi_tup (pe_fld (pv 0) (by rfl))) (blkOk_by (own := [("kind", 3)]) (N := ["self", "kinds", "marks", "kind"]) (sc := defScope sInit) (by decide +kernel)) (fun _ _ _ _ _ => pg_name (i := 3) scInit.nd rfl (Or.inl rfl)) (fun _ _ _ _ _ => pts_nil)
          (fun _ _ _ _ _ => pe_cmpR op_in_seq (pv 3) (pe_fld (pv 0) (by rfl)) (by rfl))) pa_nil)))
      (pss_one (ps_raise rfl (takes_of rfl rfl rfl rfl) (pmk_tree T hr (pa_cons pe_str pa_nil)))) pss_nil)))), ?_⟩
  refine ⟨.ref pm, rfl, .ref pm, rfl, .inr ⟨pm, ms, rfl, tup_of hpm, fun y hy H' s' => mi y hy H' (s0.trans s'), ml, fun c H' s' => mb c H' (s0.trans s'), fun ha p H1 s1 np e1 => ?_⟩⟩
  have npx : p ≠ x := (ne_of_none hx np).symm
  refine ⟨.ref x, rfl, x, C, dx, [], rfl, s1 _ _ hx, L.cl, L.nm, by decide, ?_⟩
  have s2 : Same H0 (upd H1 x (.ins C dx (putF "own_marks" (.ref p) []))) := (s0.trans s1).mut nx
  have x2 : (upd H1 x (.ins C dx (putF "own_marks" (.ref p) []))) x = some (.ins C dx [(("own_marks" : Str), .ref p)]) := upd_same
  have p2 : (upd H1 x (.ins C dx (putF "own_marks" (.ref p) []))) p = some (.tup ((canon (txts ms)).map V.str)) := by rw [upd_ne npx]; exact e1
  generalize upd H1 x (.ins C dx (putF "own_marks" (.ref p) [])) = H2 at s2 x2 p2 ⊢
  refine ⟨kv, rfl, kv, rfl, ?_⟩
  rcases mk ha with ⟨nt, bad⟩ | ⟨a, ks, rfl, hS, ki, kl, b1, b2, gd⟩
  · exact .inl ⟨nt H2 s2, fun H' s' => bad H' (s2.trans s')⟩
  refine .inr ⟨a, ks, rfl, s2.tup hS, fun y hy H' s' => ki y hy H' (s2.trans s'), kl, fun c H' s' => b1 c H' (s2.trans s'), fun hb pk H3 s3 npk e3 => ?_⟩
  have nkx : pk ≠ x := (ne_of_none x2 npk).symm
  have nkp : pk ≠ p := (ne_of_none p2 npk).symm
  refine ⟨.ref x, rfl, x, C, dx, _, rfl, s3 _ _ x2, L.cl, L.nk, (show 1 < 1000 by decide), ?_⟩
  have s4 : Same H0 (upd H3 x (.ins C dx (putF "own_kinds" (.ref pk) [(("own_marks" : Str), .ref p)]))) := (s2.trans s3).mut nx
  have x4 : (upd H3 x (.ins C dx (putF "own_kinds" (.ref pk) [(("own_marks" : Str), .ref p)]))) x = some (.ins C dx [(("own_marks" : Str), .ref p), (("own_kinds" : Str), .ref pk)]) := upd_same
  have p4 : (upd H3 x (.ins C dx (putF "own_kinds" (.ref pk) [(("own_marks" : Str), .ref p)]))) p = some (.tup ((canon (txts ms)).map V.str)) := by rw [upd_ne npx]; exact s3 _ _ p2
  have k4 : (upd H3 x (.ins C dx (putF "own_kinds" (.ref pk) [(("own_marks" : Str), .ref p)]))) pk = some (.tup ((canon (txts ks)).map V.str)) := by rw [upd_ne nkx]; exact e3
  generalize upd H3 x (.ins C dx (putF "own_kinds" (.ref pk) [(("own_marks" : Str), .ref p)])) = H4 at s4 x4 p4 k4 ⊢
  have b2' := b2 hb
  have gd' := gd hb
  -- the numbers
  refine ⟨.ref x, rfl, x, C, dx, _, .ref p, rfl, x4, L.cl, L.nm, rfl, p, _, rfl, .inr (tup_of p4), _, 8, rfl, rfl, _, rfl, ?_⟩
  rw [List.length_map]
  have no : ((canon (txts ms)).length ≤ 8 ∧ 1 ≤ (canon (txts ks)).length ∧ (canon (txts ks)).length ≤ 4 → False) → E (.ref CI) none H4 := fun c => by
    refine b2' ?_ H4 s4
    cases hk : langOk (txts ms) (txts ks) with
    | false => rfl
    | true =>
      unfold langOk at hk
      rw [Bool.and_eq_true, Bool.and_eq_true, Bool.and_eq_true] at hk
      exact (c ⟨of_decide_eq_true hk.1.1, of_decide_eq_true hk.1.2.1, of_decide_eq_true hk.1.2.2⟩).elim
  refine ite2 (fun c1 => iteT ⟨_, rfl, no fun c => ?_⟩) (fun c1 => ?_)
  · have c1' : (8 : Int) < ((canon (txts ms)).length : Int) := of_decide_eq_true c1
    omega
  have c1' : ¬ (8 : Int) < ((canon (txts ms)).length : Int) := fun z => c1 (decide_eq_true z)
  refine ⟨.ref x, rfl, x, C, dx, _, .ref pk, rfl, x4, L.cl, L.nk, rfl, pk, _, rfl, .inr (tup_of k4), 1, _, rfl, rfl, _, rfl, ?_⟩
  rw [List.length_map]
  refine ite2 (fun c2 => ?_) (fun c2 => ⟨false, rfl, iteT ⟨_, rfl, no fun c => ?_⟩⟩)
  rotate_left
  · exact c2 (decide_eq_true (by omega))
  have c2' : (1 : Int) ≤ ((canon (txts ks)).length : Int) := of_decide_eq_true c2
  refine ⟨_, 4, rfl, rfl, _, rfl, ?_⟩
  by_cases c3 : (canon (txts ks)).length ≤ 4
  rotate_left
  · have d3 : decide (((canon (txts ks)).length : Int) ≤ 4) = false := decide_eq_false (by omega)
    rw [d3]
    exact iteT ⟨_, rfl, no fun c => c3 c.2.2⟩
  have d3 : decide (((canon (txts ks)).length : Int) ≤ 4) = true := decide_eq_true (by omega)
  rw [d3]
  refine iteF ?_
  -- marks and kinds
  refine ⟨.ref x, rfl, x, C, dx, _, .ref pk, rfl, x4, L.cl, L.nk, rfl, pk, rfl, ⟨_, tup_of k4⟩, fun D nD => lc_map (h := V.str) (xs := canon (txts ks)) (by have := walk_tup (K := K) (a := pk) (xs := (canon (txts ks)).map V.str); rw [List.length_map] at this; exact this) rfl (fun z => .bl (inV (.str z) ((canon (txts ms)).map V.str))) nD (fun H5 s5 => tup_of (s5 _ _ k4)) (by omega) (fun z hz H5 s5 Q' q' => ?_) fun H5 s5 e5 => ?_⟩
  · exact ⟨_, rfl, .ref x, rfl, x, C, dx, _, .ref p, rfl, s5 _ _ x4, L.cl, L.nm, rfl, p, _, rfl, .inr (tup_of (s5 _ _ p4)), rfl, flat_strs _, q' H5 (Same.refl H5)⟩
  · refine ⟨D, (canon (txts ks)).map fun z => inV (.str z) ((canon (txts ms)).map V.str), rfl, lst_of (by rw [e5, List.map_map]; rfl), ?_⟩
    have e : ((canon (txts ks)).map fun z => inV (.str z) ((canon (txts ms)).map V.str)).any id = (canon (txts ks)).any fun k => decide (k ∈ canon (txts ms)) := by
      rw [List.any_map]
      refine any_congr fun z => ?_
      exact inV_strs z _
    rw [e]
    have d1 : decide ((canon (txts ms)).length ≤ 8) = true := decide_eq_true (by omega)
    have d2 : decide (1 ≤ (canon (txts ks)).length) = true := decide_eq_true (by omega)
    have d4 : decide ((canon (txts ks)).length ≤ 4) = true := decide_eq_true c3
    have lo : langOk (txts ms) (txts ks) = !(canon (txts ks)).any fun k => decide (k ∈ canon (txts ms)) := by
      unfold langOk
      rw [d1, d2, d4]
      rfl
    rw [lo] at b2' gd'
    generalize ((canon (txts ks)).any fun k => decide (k ∈ canon (txts ms))) = b at b2' gd' ⊢
    cases b with
    | true => exact ⟨true, rfl, iteT ⟨_, rfl, b2' rfl H5 (s4.trans s5)⟩⟩
    | false => exact ⟨false, rfl, iteF (gd' rfl H5 (s4.trans s5) ⟨dx, _, p, pk, s5 _ _ x4, rfl, rfl, s5 _ _ p4, s5 _ _ k4⟩)⟩
end
end Tf

/-! Language.of and the methods of a language -/
namespace Tf
open PySem PySem.Spec PyProof.Rows L2
abbrev sOf : Stmt := inClass sLang 1
abbrev sMarks : Stmt := inClass sLang 2
abbrev sKinds : Stmt := inClass sLang 3
abbrev sEq : Stmt := inClass sLang 10
abbrev sHas : Stmt := inClass sLang 11
abbrev sLen : Stmt := inClass sLang 12
abbrev sStr : Stmt := inClass sLang 13
theorem scOf : FnScope ["cls", "marks", "kinds"] ["cls", "marks", "kinds"] (defScope sOf) := ⟨rfl, rfl, rfl, by decide +kernel, rfl, by decide +kernel, by decide +kernel⟩
theorem scMarks : FnScope ["self"] ["self"] (defScope sMarks) := ⟨rfl, rfl, rfl, by decide +kernel, rfl, by decide +kernel, by decide +kernel⟩
theorem scKinds : FnScope ["self"] ["self"] (defScope sKinds) := ⟨rfl, rfl, rfl, by decide +kernel, rfl, by decide +kernel, by decide +kernel⟩
theorem scEq : FnScope ["self", "other"] ["self", "other"] (defScope sEq) := ⟨rfl, rfl, rfl, by decide +kernel, rfl, by decide +kernel, by decide +kernel⟩
theorem scHas : FnScope ["self", "value"] ["self", "value"] (defScope sHas) := ⟨rfl, rfl, rfl, by decide +kernel, rfl, by decide +kernel, by decide +kernel⟩
theorem scLen : FnScope ["self"] ["self"] (defScope sLen) := ⟨rfl, rfl, rfl, by decide +kernel, rfl, by decide +kernel, by decide +kernel⟩
theorem scStr : FnScope ["self"] ["self"] (defScope sStr) := ⟨rfl, rfl, rfl, by decide +kernel, rfl, by decide +kernel, by decide +kernel⟩
/-- Language(*ms, kinds = kv), self made: at the heap behind the making -/
def spInit (K : PySem.W.Frag) (C CI : Addr) : SpK := fun vs zs H Q E => ∃ (H0 : Hp) (x dx : Addr) (ms : List V) (kv : V), vs = .ref x :: ms ∧ zs = [kv] ∧ H = upd (upd H0 dx (.own x)) x (.ins C dx []) ∧ H0 x = none ∧ H0 dx = none ∧ dx ≠ x ∧
  Makes K H0 ms kv (fun ks => ∀ H', Same H0 H' → LangAt C H' x (canon (txts ms)) (canon ks) → Q .non H') (∀ H', Same H0 H' → E (.ref CI) none H')
/-- of(marks, kinds): it is made, or refused -/
def Made (K : PySem.W.Frag) (C : Addr) (H : Hp) (mv kv : V) (Q : V → Hp → Prop) (bad : Hp → Prop) : Prop :=
  (NoTup K H mv ∧ ∀ H', Same H H' → bad H') ∨
   ∃ (a : Addr) (ms : List V), mv = .ref a ∧ SqT K H a ms ∧
     Makes K H ms kv (fun ks => ∀ (x : Addr) (H' : Hp), Same H H' → H x = none → LangAt C H' x (canon (txts ms)) (canon ks) → Q (.ref x) H') (∀ H', Same H H' → bad H')
/-- Language.of(m, kv) -/
def spOf (K : PySem.W.Frag) (C CI : Addr) : Sp := fun vs H Q E => ∃ (mv kv : V), vs = [.ref C, mv, kv] ∧ Made K C H mv kv Q (fun H' => E (.ref CI) none H')
section
variable {P : Program} {w : World} {K : PySem.W.Frag} {mg : Str → Option Value} {base : Heap}
theorem FnA.imp {CX : CXT} {k : Nat} {f : Addr} {ks : List Str} {sp sp' : SpK} (F : FnA P w K mg base CX k f ks sp) (h : ∀ vs zs H Q E, sp' vs zs H Q E → sp vs zs H Q E) : FnA P w K mg base CX k f ks sp' :=
  fun A outer s H us ws vs zs Q E hr e0 r rz hs => F A outer s H us ws vs zs Q E hr e0 r rz (h _ _ _ _ _ hs)
theorem ok_init {f fD CI CT fI C : Addr} {fd fdD : FuncData} {k : Nat} {t8 t4 : Tok} (F : Fun K "__init__" "Language.__init__" sInit f fd) (L : LCls K C) (T : TreeTxt P K mg "InvalidLanguage" CI CT fI) (GD : FnOk P w K mg base (L2.CX P w) k fD fdD ["values"] (spDiff K CI)) (bD : Binds K fdD ["values"] []) (gD : mg "different_names" = some (.ref fD)) (kD : PySem.W.keepIn K (.ref fD) = true)
    (mL : mg "len" = none) (mA : mg "any" = none) (g8 : mg "MAX_MARKS" = some (.int 8 t8)) (g4 : mg "MAX_KINDS" = some (.int 4 t4)) : FnA P w K mg base (L2.CX P w) (k + 1) f ["kinds"] (spInit K C CI) := by
  obtain ⟨oc, od, kV, doc, pm, an, cdv, ct, osl, rfl, lk, hcd⟩ := F.ex
  refine FnA.imp (fn_starK (pa := "self") (pk := "kinds") (pv := "marks") (sp := spBody K C CI) lk hcd scInit StX.cxUp (fun a rest b => ?_) (fun A outer s H vs Q E hr h => body_init L T GD bD gD kD mL mA g8 g4 cdv A outer s H vs Q E hr h)) ?_
  · cases rest with
    | nil => rfl
    | cons r rs => rfl
  · rintro vs zs H Q E ⟨H0, x, dx, ms, kv, rfl, rfl, rfl, nx, nd, ne, mk⟩
    refine ⟨.ref x, ms, kv, rfl, rfl, Nat.le_trans mk.2.1 (by decide), fun p np => ?_⟩
    have sx : Same H0 (upd (upd H0 dx (.own x)) x (.ins C dx [])) := (same_new nd).mut nx
    have px : p ≠ x := fun e => by rw [e, upd_same] at np; cases np
    exact ⟨x, p, dx, kv, ms, H0, rfl, sx.new np, nx, by rw [upd_ne px.symm]; exact upd_same, upd_same, mk⟩
theorem ok_of {f fN CI CT fI C : Addr} {fd : FuncData} {k : Nat} (F : Fun K "of" "Language.of" sOf f fd) (M : Mk K C fN) (T : TreeTxt P K mg "InvalidLanguage" CI CT fI) (GI : FnA P w K mg base (L2.CX P w) k fN ["kinds"] (spInit K C CI))
    (mI : mg "isinstance" = none) (mT : mg "tuple" = none) : FnOk P w K mg base (L2.CX P w) (k + 2) f fd ["cls", "marks", "kinds"] (spOf K C CI) := by
  refine F.okX scOf (fun vs H Q E h => ?_) (fun cdv A outer s H vs Q E hr h => ?_)
  · obtain ⟨mv, kv, rfl, _⟩ := h
    rfl
  · obtain ⟨mv, kv, rfl, h⟩ := h
    refine ⟨_, pss_cons (ps_if (pt_not (pt_val (pe_callB call_isi (by rfl) mI (by decide +kernel) (pa_cons (pv 1) (pa_cons (pe_bltn (v := .ty "tuple") (by rfl) mT (by decide +kernel) rfl) pa_nil)))))
        (pss_one (ps_raise rfl (takes_of rfl rfl rfl rfl) (pmk_tree T hr (pa_cons pe_str pa_nil)))) pss_nil)
      (pss_one (ps_ret (pe_makeSK M GI hr (passes_call (takes_of rfl rfl rfl rfl) (fun _ _ _ _ h => h)) (pv 0) (pv 1) (pk_cons (pv 2) pk_nil)))), ?_⟩
    rcases h with ⟨⟨t, ht, kt⟩, hE⟩ | ⟨a, ms, rfl, hS, mk⟩
    · refine ⟨mv, rfl, mv, .ty "tuple", t, .type "tuple", false, rfl, .ty _, ht, kt, false, rfl, iteT ?_⟩
      exact ⟨_, rfl, hE H (Same.refl H)⟩
    · refine ⟨.ref a, rfl, .ref a, .ty "tuple", .type "tuple", .type "tuple", true, rfl, .ty _, ty_tup hS, kit_ty (by decide +kernel), true, rfl, iteF ?_⟩
      refine ⟨.ref C, rfl, rfl, .ref a, rfl, kv, rfl, a, ms, rfl, .inl hS, rfl, fun x dx nx nd ne => ?_⟩
      refine ⟨H, x, dx, ms, kv, rfl, rfl, rfl, nx, nd, ne, mk.1, mk.2.1, mk.2.2.1, fun ha => ?_⟩
      rcases mk.2.2.2 ha with h | ⟨a', ks, h1, h2, h3, h4, h5, h6, h7⟩
      · exact .inl h
      · exact .inr ⟨a', ks, h1, h2, h3, h4, h5, h6, fun c1 c2 H' s' l' => ⟨rfl, h7 c1 c2 x H' s' nx l'⟩⟩
/-- o.marks, o.kinds -/
def spMarks (C : Addr) (b : Bool) : Sp := fun vs H Q _ => ∃ (a : Addr) (ms ks : List Str), vs = [.ref a] ∧ LangAt C H a ms ks ∧ ∀ p, H p = some (.tup ((if b then ms else ks).map V.str)) → Q (.ref p) H
theorem ok_marks {f C : Addr} {fd : FuncData} {k : Nat} (F : Fun K "marks" "Language.marks" sMarks f fd) (L : LCls K C) : FnOk P w K mg base CX0 (k + 1) f fd ["self"] (spMarks C true) := by
  refine F.ok scMarks (fun vs H Q E h => ?_) (fun cdv A outer s H vs Q E hr h => ?_)
  · obtain ⟨a, ms, ks, rfl, _⟩ := h
    rfl
  · obtain ⟨a, ms, ks, rfl, ⟨dx, fs, pm, pk, h1, h2, h3, h4, h5⟩, q⟩ := h
    exact ⟨_, pss_one (ps_ret (pe_fld (pv 0) rfl)), .ref a, rfl, a, C, dx, fs, .ref pm, rfl, h1, L.cl, L.nm, h2, q pm h4⟩
theorem ok_kinds {f C : Addr} {fd : FuncData} {k : Nat} (F : Fun K "kinds" "Language.kinds" sKinds f fd) (L : LCls K C) : FnOk P w K mg base CX0 (k + 1) f fd ["self"] (spMarks C false) := by
  refine F.ok scKinds (fun vs H Q E h => ?_) (fun cdv A outer s H vs Q E hr h => ?_)
  · obtain ⟨a, ms, ks, rfl, _⟩ := h
    rfl
  · obtain ⟨a, ms, ks, rfl, ⟨dx, fs, pm, pk, h1, h2, h3, h4, h5⟩, q⟩ := h
    exact ⟨_, pss_one (ps_ret (pe_fld (pv 0) rfl)), .ref a, rfl, a, C, dx, fs, .ref pk, rfl, h1, L.cl, L.nk, h3, q pk h5⟩
end
end Tf

/-! the special methods of a language -/
namespace Tf
open PySem PySem.Spec PyProof.Rows L2
/-- what isinstance sees of languages -/
structure LIs (K : PySem.W.Frag) (C : Addr) : Prop where
  ha : PySem.W.findIn K (.ref C) "__class__" = some (some (.builtin "object.__class__"))
  hn : PySem.W.specialIn K (.builtin "object.__class__") "__get__" = some (some (.builtin "getset_descriptor.__get__"))
  ht : PySem.W.takesIn K (.builtin "object.__class__") = some true
  hm : PySem.W.mroIn K C (.type "object") = some true
  me : PySem.W.kitOne K (.ref C) (.ref C) = some true
  tu : PySem.W.kitOne K (.ref C) (.type "tuple") = some false
/-- a value of a type that is no language -/
def NoLang (K : PySem.W.Frag) (C : Addr) (H : Hp) (y : V) : Prop := ∃ t : String, TyX K H y (.type t) ∧ PySem.W.kitOne K (.type t) (.ref C) = some false
def Nms (zs : List Str) : Prop := ∀ z ∈ zs, nameB z = true
/-- x among the texts -/
def hasB (x : V) (zs : List Str) : Bool := match x with
  | .str z => decide (z ∈ zs)
  | _ => false
theorem inV_flat {x : V} (h : flatV x = true) (zs : List Str) : inV x (zs.map V.str) = hasB x zs := by
  cases x with
  | str z => exact inV_strs z zs
  | non => unfold inV; rw [List.any_map]; exact List.any_eq_false.mpr fun y _ e => by cases e
  | bl b => unfold inV; rw [List.any_map]; exact List.any_eq_false.mpr fun y _ e => by cases e
  | int i => unfold inV; rw [List.any_map]; exact List.any_eq_false.mpr fun y _ e => by cases e
  | _ => cases h
def spHas (K : PySem.W.Frag) (C : Addr) : Sp := fun vs H Q _ => ∃ (a : Addr) (x : V) (ms ks : List Str), vs = [.ref a, x] ∧ LangAt C H a ms ks ∧ (flatV x = true ∨ Box K H x) ∧ Q (.bl (hasB x ms || hasB x ks)) H
def spEq (K : PySem.W.Frag) (C : Addr) : Sp := fun vs H Q _ => ∃ (a : Addr) (y : V) (ms ks : List Str), vs = [.ref a, y] ∧ LangAt C H a ms ks ∧ Nms ms ∧ Nms ks ∧
  ((NoLang K C H y ∧ Q (.bl false) H) ∨ ∃ (b : Addr) (ms' ks' : List Str), y = .ref b ∧ LangAt C H b ms' ks' ∧ Nms ms' ∧ Nms ks' ∧ Q (.bl (decide (ms = ms') && decide (ks = ks'))) H)
def spLen (C : Addr) : Sp := fun vs H Q _ => ∃ (a : Addr) (ms ks : List Str), vs = [.ref a] ∧ LangAt C H a ms ks ∧ ms.length + ks.length ≤ 100 ∧ ∀ H', Same H H' → Q (.int ((ms.length + ks.length : Nat) : Int)) H'
def langText (m k : Nat) : Str := ((((Str.empty ++ ("language of " : Str)) ++ ((toString (m : Int) : String) : Str)) ++ (" marks, " : Str)) ++ ((toString (k : Int) : String) : Str)) ++ (" kinds" : Str)
theorem len2 (a b : Str) : (a ++ b).length ≤ a.length + b.length := by
  show (a.cps ++ b.cps).size ≤ a.cps.size + b.cps.size
  rw [Array.size_append]
  exact Nat.le_refl _
theorem fits2 {a b : Str} {m n : Nat} (ha : a.length ≤ m) (hb : b.length ≤ n) (h : m + n ≤ 1000 := by decide) : (a ++ b).length ≤ sizeLine := Nat.le_trans (len2 a b) (Nat.le_trans (Nat.add_le_add ha hb) (Nat.le_trans h (by decide)))
theorem ints_short : ((List.range 101).all fun n => decide ((((toString (n : Int) : String) : Str)).length ≤ 10)) = true := by decide +kernel
theorem int_short {n : Nat} (h : n ≤ 100) : (((toString (n : Int) : String) : Str)).length ≤ 10 := of_decide_eq_true (List.all_eq_true.mp ints_short n (List.mem_range.mpr (by omega)))
theorem ints_small : ((List.range 101).all fun n => decide ((n : Int).natAbs.log2 < 1920)) = true := by decide +kernel
theorem int_small {n : Nat} (h : n ≤ 100) : (n : Int).natAbs.log2 < 1920 := of_decide_eq_true (List.all_eq_true.mp ints_small n (List.mem_range.mpr (by omega)))
section
variable {P : Program} {w : World} {K : PySem.W.Frag} {mg : Str → Option Value} {base : Heap}
theorem ok_has {f C : Addr} {fd : FuncData} {k : Nat} (F : Fun K "__contains__" "Language.__contains__" sHas f fd) (L : LCls K C) : FnOk P w K mg base CX0 (k + 1) f fd ["self", "value"] (spHas K C) := by
  refine F.ok scHas (fun vs H Q E h => ?_) (fun cdv A outer s H vs Q E hr h => ?_)
  · obtain ⟨a, x, ms, ks, rfl, _⟩ := h
    rfl
  · obtain ⟨a, x, ms, ks, rfl, ⟨dx, fs, pm, pk, h1, h2, h3, h4, h5⟩, hx, q⟩ := h
    have hu : (A.deeper (envOfC "Language.__contains__" (defScope sHas) s.heap.objs.size f cdv)).units + 1 < cLine := by have := hr.un; omega
    refine ⟨_, pss_one (ps_ret (pe_or (pe_cmpR (op_inX hu) (pv 1) (pe_fld (pv 0) (by rfl)) (by rfl)) (pe_one (pe_cmpR (op_inX hu) (pv 1) (pe_fld (pv 0) (by rfl)) (by rfl))))), ?_⟩
    have one : ∀ (p : Addr) (zs : List Str) (Q' : VK), H p = some (.tup (zs.map V.str)) → Q' (.bl (hasB x zs)) H → rInX K false x (.ref p) H Q' := fun p zs Q' hp q' => by
      rcases hx with hf | hb
      · refine .inl ⟨p, _, rfl, .inr (tup_of hp), hf, flat_strs zs, ?_⟩
        rw [if_neg Bool.false_ne_true, inV_flat hf]
        exact q'
      · refine .inr ⟨p, zs, rfl, .inr (tup_of hp), hb, ?_⟩
        obtain ⟨b, rfl, _⟩ := hb
        exact q'
    refine ⟨x, rfl, .ref a, rfl, a, C, dx, fs, .ref pm, rfl, h1, L.cl, L.nm, h2, one pm ms _ h4 ⟨_, rfl, ?_⟩⟩
    cases hm : hasB x ms with
    | true =>
      rw [hm] at q
      exact q
    | false =>
      rw [hm] at q
      exact ⟨x, rfl, .ref a, rfl, a, C, dx, fs, .ref pk, rfl, h1, L.cl, L.nk, h3, one pk ks _ h5 q⟩
theorem ok_eq {f C : Addr} {fd : FuncData} {k : Nat} (F : Fun K "__eq__" "Language.__eq__" sEq f fd) (L : LCls K C) (I : LIs K C) (gL : mg "Language" = some (.ref C)) (mI : mg "isinstance" = none) : FnOk P w K mg base CX0 (k + 1) f fd ["self", "other"] (spEq K C) := by
  refine F.ok scEq (fun vs H Q E h => ?_) (fun cdv A outer s H vs Q E hr h => ?_)
  · obtain ⟨a, y, ms, ks, rfl, _⟩ := h
    rfl
  · obtain ⟨a, y, ms, ks, rfl, ⟨dx, fs, pm, pk, h1, h2, h3, h4, h5⟩, nm, nk, h⟩ := h
    have hu : (A.deeper (envOfC "Language.__eq__" (defScope sEq) s.heap.objs.size f cdv)).units + 64 < cLine := by have := hr.un; omega
    refine ⟨_, pss_cons (ps_if (pt_not (pt_val (pe_callB call_isi (by rfl) mI (by decide +kernel) (pa_cons (pv 1) (pa_cons (pe_glob (v := .ref C) rfl gL rfl) pa_nil))))) (pss_one (ps_ret pe_bl)) pss_nil)
      (pss_one (ps_ret (pe_and (pe_cmpR (op_eqD hu) (pe_fld (pv 0) (by rfl)) (pe_fld (pv 1) (by rfl)) (nomark _)) (pe_one (pe_cmpR (op_eqD hu) (pe_fld (pv 0) (by rfl)) (pe_fld (pv 1) (by rfl)) (nomark _)))))), ?_⟩
    rcases h with ⟨⟨t, ht, kt⟩, q⟩ | ⟨b, ms', ks', rfl, ⟨dx', fs', pm', pk', g1, g2, g3, g4, g5⟩, nm', nk', q⟩
    · exact ⟨y, rfl, y, .ref C, .type t, .ref C, false, rfl, .own C, ht, kt, false, rfl, iteT q⟩
    · refine ⟨.ref b, rfl, .ref b, .ref C, .ref C, .ref C, true, rfl, .own C, .base (.ins g1 L.cl I.ha I.hn I.ht I.hm), I.me, true, rfl, iteF ?_⟩
      refine ⟨.ref a, rfl, a, C, dx, fs, .ref pm, rfl, h1, L.cl, L.nm, h2, .ref b, rfl, b, C, dx', fs', .ref pm', rfl, g1, L.cl, L.nm, g2, .tuple (dS ms), .tuple (dS ms'), dp_tuple (tup_of h4), dp_tuple (tup_of g4), shaped_tuple nm, shaped_tuple nm', _, rfl, ?_⟩
      rw [eqv_tuples]
      by_cases c : ms = ms'
      · rw [decide_eq_true c] at q ⊢
        refine ⟨.ref a, rfl, a, C, dx, fs, .ref pk, rfl, h1, L.cl, L.nk, h3, .ref b, rfl, b, C, dx', fs', .ref pk', rfl, g1, L.cl, L.nk, g3, .tuple (dS ks), .tuple (dS ks'), dp_tuple (tup_of h5), dp_tuple (tup_of g5), shaped_tuple nk, shaped_tuple nk', ?_⟩
        rw [eqv_tuples]
        exact q
      · rw [decide_eq_false c] at q ⊢
        exact q
theorem ok_len {f C : Addr} {fd : FuncData} {k : Nat} (F : Fun K "__len__" "Language.__len__" sLen f fd) (L : LCls K C) (mL : mg "len" = none) : FnOk P w K mg base CX0 (k + 1) f fd ["self"] (spLen C) := by
  refine F.ok scLen (fun vs H Q E h => ?_) (fun cdv A outer s H vs Q E hr h => ?_)
  · obtain ⟨a, ms, ks, rfl, _⟩ := h
    rfl
  · obtain ⟨a, ms, ks, rfl, ⟨dx, fs, pm, pk, h1, h2, h3, h4, h5⟩, ll, q⟩ := h
    refine ⟨_, pss_one (ps_ret (pe_callB call_len_seq (by rfl) mL PySem.boot_len (pa_cons (pe_op op_catA (pe_fld (pv 0) (by rfl)) (pe_fld (pv 0) (by rfl))) pa_nil))), ?_⟩
    refine ⟨.ref a, rfl, a, C, dx, fs, .ref pm, rfl, h1, L.cl, L.nm, h2, .ref a, rfl, a, C, dx, fs, .ref pk, rfl, h1, L.cl, L.nk, h3, pm, pk, _, _, rfl, rfl, tup_of h4, tup_of h5, ?_, fun e => ?_, fun _ e => ?_, fun _ _ p np => ?_⟩
    · rw [List.length_map, List.length_map]
      exact Nat.le_trans ll (by decide)
    · refine ⟨pk, _, rfl, .inr (tup_of h5), ?_⟩
      have e' : ms = [] := List.map_eq_nil_iff.mp e
      have z := q H (Same.refl H)
      rw [e'] at z
      rw [List.length_map]
      simpa using z
    · refine ⟨pm, _, rfl, .inr (tup_of h4), ?_⟩
      have e' : ks = [] := List.map_eq_nil_iff.mp e
      have z := q H (Same.refl H)
      rw [e'] at z
      rw [List.length_map]
      simpa using z
    · refine ⟨p, _, rfl, .inr (tup_of upd_same), ?_⟩
      rw [List.length_append, List.length_map, List.length_map]
      exact q _ (same_new np)
def spStr (C : Addr) : Sp := fun vs H Q _ => ∃ (a : Addr) (ms ks : List Str), vs = [.ref a] ∧ LangAt C H a ms ks ∧ ms.length ≤ 100 ∧ ks.length ≤ 100 ∧ Q (.str (langText ms.length ks.length)) H
theorem ok_str {f C : Addr} {fd : FuncData} {k : Nat} (F : Fun K "__str__" "Language.__str__" sStr f fd) (L : LCls K C) (mL : mg "len" = none) : FnOk P w K mg base CX0 (k + 1) f fd ["self"] (spStr C) := by
  refine F.ok scStr (fun vs H Q E h => ?_) (fun cdv A outer s H vs Q E hr h => ?_)
  · obtain ⟨a, ms, ks, rfl, _⟩ := h
    rfl
  · obtain ⟨a, ms, ks, rfl, ⟨dx, fs, pm, pk, h1, h2, h3, h4, h5⟩, l1, l2, q⟩ := h
    refine ⟨_, pss_one (ps_ret (pe_joined (.cons pe_str (.cons (pe_fmt (pe_callB call_len_seq (by rfl) mL PySem.boot_len (pa_cons (pe_fld (pv 0) (by rfl)) pa_nil))) (.cons pe_str (.cons (pe_fmt (pe_callB call_len_seq (by rfl) mL PySem.boot_len (pa_cons (pe_fld (pv 0) (by rfl)) pa_nil))) (.cons pe_str .nil))))))), ?_⟩
    have z1 := int_short (n := ms.length) l1
    have z2 := int_short (n := ks.length) l2
    refine ⟨_, rfl, by decide +kernel, .ref a, rfl, a, C, dx, fs, .ref pm, rfl, h1, L.cl, L.nm, h2, pm, _, rfl, .inr (tup_of h4), .inr ⟨_, rfl, by rw [List.length_map]; exact int_small l1, _, rfl, ?_, _, rfl, ?_, .ref a, rfl, a, C, dx, fs, .ref pk, rfl, h1, L.cl, L.nk, h3, pk, _, rfl, .inr (tup_of h5), .inr ⟨_, rfl, by rw [List.length_map]; exact int_small l2, _, rfl, ?_, _, rfl, ?_, ?_⟩⟩⟩
    · rw [List.length_map]
      exact fits2 (show _ ≤ 100 by decide +kernel) z1
    · rw [List.length_map]
      exact fits2 (Nat.le_trans (len2 _ _) (Nat.add_le_add (by decide +kernel : _ ≤ 100) z1)) (show _ ≤ 100 by decide +kernel)
    · rw [List.length_map, List.length_map]
      exact fits2 (Nat.le_trans (len2 _ _) (Nat.add_le_add (Nat.le_trans (len2 _ _) (Nat.add_le_add (by decide +kernel : _ ≤ 100) z1)) (by decide +kernel : _ ≤ 100))) z2
    · rw [List.length_map, List.length_map]
      exact fits2 (Nat.le_trans (len2 _ _) (Nat.add_le_add (Nat.le_trans (len2 _ _) (Nat.add_le_add (Nat.le_trans (len2 _ _) (Nat.add_le_add (by decide +kernel : _ ≤ 100) z1)) (by decide +kernel : _ ≤ 100))) z2)) (show _ ≤ 100 by decide +kernel)
    · rw [List.length_map, List.length_map]
      exact q
end
end Tf

/-! _law_odd: values that are no names -/
namespace Tf
open PySem PySem.Spec PyProof.Rows L2
abbrev sOdd : Stmt := top 19
theorem scOdd : FnScope ["_law_dice_here", "_law_some"] ["_law_dice_here"] (defScope sOdd) := ⟨rfl, rfl, rfl, by decide +kernel, rfl, by decide +kernel, by decide +kernel⟩
/-- a value that is no name -/
inductive OddV (H : Hp) : V → Prop
  | non : OddV H .non
  | bl (b : Bool) : OddV H (.bl b)
  | int (i : Int) : OddV H (.int i)
  | str (z : Str) (h : nameB z = false) (l : z.length ≤ 1000) : OddV H (.str z)
  | lst {a : Addr} {xs : List V} (h : H a = some (.lst xs)) : OddV H (.ref a)
  | tup {a : Addr} {xs : List V} (h : H a = some (.tup xs)) : OddV H (.ref a)
  | dct {a : Addr} {kvs : List (Key × V)} (h : H a = some (.dK kvs)) : OddV H (.ref a)
theorem OddV.same {H H' : Hp} {x : V} (o : OddV H x) (s : Same H H') : OddV H' x := by
  cases o with
  | non => exact .non
  | bl b => exact .bl b
  | int i => exact .int i
  | str z h l => exact .str z h l
  | lst h => exact .lst (s _ _ h)
  | tup h => exact .tup (s _ _ h)
  | dct h => exact .dct (s _ _ h)
theorem OddV.isN {H : Hp} {x : V} (o : OddV H x) : isN x = false := by
  cases o with
  | str z h l => exact h
  | _ => rfl
theorem OddV.some1 {K : PySem.W.Frag} {H : Hp} {x : V} (o : OddV H x) : Some1 K H x := by
  cases o with
  | non => exact .inr ⟨_, .base .non, by decide +kernel⟩
  | bl b => exact .inr ⟨_, .base (.bl b), by decide +kernel⟩
  | int i => exact .inr ⟨_, .base (.int i), by decide +kernel⟩
  | str z h l => exact .inl ⟨z, rfl, l⟩
  | lst h => exact .inr ⟨_, .base (.lst h), by decide +kernel⟩
  | tup h => exact .inr ⟨_, .base (.tup h), by decide +kernel⟩
  | dct h => exact .inr ⟨_, .base (.dK h), by decide +kernel⟩
theorem OddV.item {K : PySem.W.Frag} {H : Hp} {x : V} (o : OddV H x) : Item K H x := ⟨o.some1, .inr o.isN⟩
theorem OddV.box {K : PySem.W.Frag} {H : Hp} {x : V} (o : OddV H x) : flatV x = true ∨ Box K H x := by
  cases o with
  | lst h => exact .inr ⟨_, rfl, .inl ⟨_, lst_of h⟩⟩
  | tup h => exact .inr ⟨_, rfl, .inr (.inl ⟨_, tup_of h⟩)⟩
  | dct h => exact .inr ⟨_, rfl, .inr (.inr ⟨_, h⟩)⟩
  | _ => exact .inl rfl
/-- the built-in types are no languages -/
structure TyNo (K : PySem.W.Frag) (C : Addr) : Prop where
  k0 : PySem.W.kitOne K (.type "NoneType") (.ref C) = some false
  k1 : PySem.W.kitOne K (.type "bool") (.ref C) = some false
  k2 : PySem.W.kitOne K (.type "int") (.ref C) = some false
  k3 : PySem.W.kitOne K (.type "str") (.ref C) = some false
  k4 : PySem.W.kitOne K (.type "list") (.ref C) = some false
  k5 : PySem.W.kitOne K (.type "tuple") (.ref C) = some false
  k6 : PySem.W.kitOne K (.type "dict") (.ref C) = some false
  n0 : PySem.W.notFirst K C (.type "NoneType") = true
  n1 : PySem.W.notFirst K C (.type "bool") = true
  n2 : PySem.W.notFirst K C (.type "int") = true
  n3 : PySem.W.notFirst K C (.type "str") = true
  n4 : PySem.W.notFirst K C (.type "list") = true
  n5 : PySem.W.notFirst K C (.type "tuple") = true
  n6 : PySem.W.notFirst K C (.type "dict") = true
  nC : PySem.W.notFirst K C (.ref C) = true
theorem TyL.of {X : Cx} {H : Hp} {x : V} {t : Value} (h : TyX X.K H x t) : TyL X H x t := fun pins σ s u I r => by
  obtain ⟨P, kx, p, _⟩ := kit_of I r h
  exact kx.ty _ _ I.kIn p
theorem OddV.ty {X : Cx} {C : Addr} {H : Hp} {x : V} (o : OddV H x) (T : TyNo X.K C) : ∃ t : String, TyX X.K H x (.type t) ∧ PySem.W.kitOne X.K (.type t) (.ref C) = some false ∧ PySem.W.notFirst X.K C (.type t) = true := by
  cases o with
  | non => exact ⟨_, .base .non, T.k0, T.n0⟩
  | bl b => exact ⟨_, .base (.bl b), T.k1, T.n1⟩
  | int i => exact ⟨_, .base (.int i), T.k2, T.n2⟩
  | str z h l => exact ⟨_, .base (.str z), T.k3, T.n3⟩
  | lst h => exact ⟨_, .base (.lst h), T.k4, T.n4⟩
  | tup h => exact ⟨_, .base (.tup h), T.k5, T.n5⟩
  | dct h => exact ⟨_, .base (.dK h), T.k6, T.n6⟩
def spOdd : Sp := fun vs H Q _ => ∃ d : Addr, vs = [.ref d] ∧ Dice H d ∧ ∀ (x : V) (H' : Hp), Nr d H H' → Dice H' d → OddV H' x → Q x H'
section
variable {P : Program} {w : World} {K : PySem.W.Frag} {mg : Str → Option Value} {base : Heap}
theorem ok_odd {f fP : Addr} {fd fdP : FuncData} {k : Nat} (F : Fun K "_law_odd" "_law_odd" sOdd f fd) (FP : Fun K "_law_pick" "_law_pick" sPick fP fdP) (GP : FnOk P w K mg base CX0 k fP fdP ["_law_dice_here", "_law_items"] (spPick K)) (bP : Binds K fdP ["_law_dice_here", "_law_items"] []) (gP : mg "_law_pick" = some (.ref fP)) : FnOk P w K mg base CX0 (k + 1) f fd ["_law_dice_here"] spOdd := by
  refine F.ok scOdd (fun vs H Q E h => ?_) (fun cdv A outer s H vs Q E hr h => ?_)
  · obtain ⟨d, rfl, _⟩ := h
    rfl
  · obtain ⟨d, rfl, hd, q⟩ := h
    refine ⟨_, pss_cons (ps_set (i := 1) scOdd.nd rfl (.inl rfl) (pe_lst (pa_cons pe_non (pa_cons pe_bl (pa_cons pe_int (pa_cons (pe_un un_neg pe_int) (pa_cons (pe_op op_pow pe_int pe_int) (pa_cons pe_str (pa_cons pe_str (pa_cons pe_str (pa_cons pe_str (pa_cons pe_str (pa_cons pe_str (pa_cons pe_str (pa_cons (pe_tup (pa_cons pe_str pa_nil)) (pa_cons (pe_lst (pa_cons pe_str pa_nil)) (pa_cons pe_dnewK (pa_cons (pe_tup pa_nil) (pa_cons pe_str pa_nil)))))))))))))))))))
      (pss_one (ps_ret (pe_call GP hr (by rfl) gP FP.kp bP .nil pass0 (pa_cons (pv 0) (pa_cons (pe_op op_cat (pv 1) (pe_lst (pa_cons (pe_tup (pa_cons (pe_lst (pa_cons pe_str pa_nil)) pa_nil)) (pa_cons (pe_tup (pa_cons (pe_disp (pps_cons pe_str pe_int pps_nil) (by rfl) (by rfl) (fun z => by cases z) (by decide)) pa_nil)) pa_nil)))) pa_nil))))), ?_⟩
    refine ⟨1, rfl, 10, 30, rfl, rfl, ⟨by decide, by decide, by decide⟩, (by show 1 ≤ sizeLine; decide), fun p1 n1 => ⟨(by show 1 ≤ sizeLine; decide), fun p2 n2 => fun p3 r3 => ⟨(by show 0 ≤ sizeLine; decide), fun p4 n4 => ⟨(by show 17 ≤ sizeLine; decide), fun l nl => ?_⟩⟩⟩⟩
    have e1 : (upd H p1 (.tup [.str ("a" : Str)])) p1 = some (.tup [.str ("a" : Str)]) := upd_same
    have s1 : Same H (upd H p1 (.tup [.str ("a" : Str)])) := same_new n1
    generalize upd H p1 (.tup [.str ("a" : Str)]) = H1 at *
    have e2 : (upd H1 p2 (.lst [.str ("a" : Str)])) p2 = some (.lst [.str ("a" : Str)]) := upd_same
    have s2 : Same H1 (upd H1 p2 (.lst [.str ("a" : Str)])) := same_new n2
    generalize upd H1 p2 (.lst [.str ("a" : Str)]) = H2 at *
    have e3 : (upd H2 p3 (.dK [])) p3 = some (.dK []) := upd_same
    have s3 : Same H2 (upd H2 p3 (.dK [])) := same_new r3
    generalize upd H2 p3 (.dK []) = H3 at *
    have e4 : (upd H3 p4 (.tup [])) p4 = some (.tup []) := upd_same
    have s4 : Same H3 (upd H3 p4 (.tup [])) := same_new n4
    generalize upd H3 p4 (.tup []) = H4 at *
    refine ⟨.ref d, rfl, _, rfl, (by show 1 ≤ sizeLine; decide), fun q1 m1 => ⟨(by show 1 ≤ sizeLine; decide), fun q2 m2 => fun q3 m3 => ⟨upd_same, [(Sum.inr ("a" : Str), .int 1)], rfl, by decide, (by show 1 ≤ sizeLine; decide), fun q4 m4 => ⟨(by show 2 ≤ sizeLine; decide), fun l2 k2 => ?_⟩⟩⟩⟩
    have s04 : Same H H4 := s1.trans (s2.trans (s3.trans s4))
    have f3 : H4 q3 = none := (((same_new nl).new m1).new m2).free m3
    have f3' := ((same_new m1).new m2).free m3
    have f3'' := (same_new m2).free m3
    refine ⟨l, l2, _, _, rfl, rfl, ((((same_new m1).new m2).new m3).mut f3' |>.new m4 |>.new k2) _ _ upd_same, upd_same, (by show 17 + 2 ≤ sizeLine; decide), fun l3 n3 => ?_⟩
    have S := (((((same_new nl).new m1).new m2).new m3).mut f3 |>.new m4 |>.new k2).new n3 (o := .lst ([V.non, V.bl true, V.int 0, (fun i => V.int (-i)) 1, (fun i j : Int => V.int (i ^ j.toNat)) 10 30, V.str "", V.str "A", V.str "ninesigns", V.str "a b", V.str "a1", V.str "a.b", V.str "a\n", V.ref p1, V.ref p2, V.ref p3, V.ref p4, V.str "_"] ++ [.ref q2, .ref q4]))
    have S2 := ((((same_new m2).new m3).mut f3'').new m4 |>.new k2).new n3 (o := .lst ([V.non, V.bl true, V.int 0, (fun i => V.int (-i)) 1, (fun i j : Int => V.int (i ^ j.toNat)) 10 30, V.str "", V.str "A", V.str "ninesigns", V.str "a b", V.str "a1", V.str "a.b", V.str "a\n", V.ref p1, V.ref p2, V.ref p3, V.ref p4, V.str "_"] ++ [.ref q2, .ref q4]))
    have E2 := ((((same_new m3).mut m3).new m4 |>.new k2).new n3 (o := .lst ([V.non, V.bl true, V.int 0, (fun i => V.int (-i)) 1, (fun i j : Int => V.int (i ^ j.toNat)) 10 30, V.str "", V.str "A", V.str "ninesigns", V.str "a b", V.str "a1", V.str "a.b", V.str "a\n", V.ref p1, V.ref p2, V.ref p3, V.ref p4, V.str "_"] ++ [.ref q2, .ref q4]))) q2 _ upd_same
    have E4 := ((same_new k2).new n3 (o := .lst ([V.non, V.bl true, V.int 0, (fun i => V.int (-i)) 1, (fun i j : Int => V.int (i ^ j.toNat)) 10 30, V.str "", V.str "A", V.str "ninesigns", V.str "a b", V.str "a1", V.str "a.b", V.str "a\n", V.ref p1, V.ref p2, V.ref p3, V.ref p4, V.str "_"] ++ [.ref q2, .ref q4]))) q4 _ upd_same
    obtain ⟨a0, b0, c0, ha0, hd0⟩ := hd
    have hd4 := s04 _ _ hd0
    have hdl := S _ _ hd4
    refine ⟨d, l3, _, rfl, ⟨a0, b0, c0, ha0, hdl⟩, upd_same, ?_, List.cons_ne_nil _ _, (by show 19 < 1000; decide), fun v H' hv nr dc => q v H' (fun b o nb e => nr b o nb (S _ _ (s04 _ _ e))) dc ?_⟩
    · exact ne_of_none ((((((same_new nl).new m1).new m2).new m3).mut f3 |>.new m4 |>.new k2) _ _ hd4) n3
    · have dq2 : q2 ≠ d := (ne_of_none (((same_new nl).new m1) _ _ hd4) m2).symm
      have dq4 : q4 ≠ d := (ne_of_none (((((same_new nl).new m1).new m2).new m3).mut f3 _ _ hd4) m4).symm
      have d1 : p1 ≠ d := (ne_of_none hd0 n1).symm
      have d2 : p2 ≠ d := (ne_of_none (s1 _ _ hd0) n2).symm
      have d3 : p3 ≠ d := (ne_of_none ((s1.trans s2) _ _ hd0) r3).symm
      have d4 : p4 ≠ d := (ne_of_none ((s1.trans (s2.trans s3)) _ _ hd0) n4).symm
      have all : ∀ v ∈ [V.non, V.bl true, V.int 0, (fun i => V.int (-i)) 1, (fun i j : Int => V.int (i ^ j.toNat)) 10 30, V.str "", V.str "A", V.str "ninesigns", V.str "a b", V.str "a1", V.str "a.b", V.str "a\n", V.ref p1, V.ref p2, V.ref p3, V.ref p4, V.str "_"] ++ [.ref q2, .ref q4], OddV H' v := by
        simp only [List.cons_append, List.nil_append, List.forall_mem_cons]
        refine ⟨.non, .bl _, .int _, .int _, .int _, .str _ (by decide +kernel) (by decide +kernel), .str _ (by decide +kernel) (by decide +kernel), .str _ (by decide +kernel) (by decide +kernel), .str _ (by decide +kernel) (by decide +kernel), .str _ (by decide +kernel) (by decide +kernel), .str _ (by decide +kernel) (by decide +kernel), .str _ (by decide +kernel) (by decide +kernel), .tup (nr _ _ d1 (S _ _ ((s2.trans (s3.trans s4)) _ _ e1))), .lst (nr _ _ d2 (S _ _ ((s3.trans s4) _ _ e2))), .dct (nr _ _ d3 (S _ _ (s4 _ _ e3))), .tup (nr _ _ d4 (S _ _ e4)), .str _ (by decide +kernel) (by decide +kernel), .tup (nr _ _ dq2 E2), .tup (nr _ _ dq4 E4), fun v hv => by cases hv⟩
      exact all v hv
end
end Tf

/-! _law_made: a language, or None where it is refused -/
namespace L2
open PySem PySem.Spec PyProof.Rows
theorem passes_len {X : Cx} {W : WX} {n : Nat} (tk : Takes X W) (hn : X.N.length = n) : Passes (L2.CX X.prog X.w) X (fun cls d H => ∀ σ : St, σ.length = n → W cls d σ H) :=
  fun _ σ _ _ e s' I c => tk e s' (XE.of_call I (fun _ _ _ h => h σ (by rw [← hn]; exact I.len)) c)
theorem pss_given {X : Cx} {p : Prop} {ss : List Stmt} {t : TS} (h : p → PSs X ss t) : PSs X ss (fun D σ H => p ∧ t D σ H) := ⟨fun pins s σ H D I q => (h q.1).run pins s σ H D I q.2⟩
end L2
namespace Tf
open PySem PySem.Spec PyProof.Rows L2 ClX
abbrev sMade : Stmt := top 20
theorem scMade : FnScope ["_law_marks", "_law_sorts", "e"] ["_law_marks", "_law_sorts"] (defScope sMade) := ⟨rfl, rfl, rfl, by decide +kernel, rfl, by decide +kernel, by decide +kernel⟩
theorem Makes.imp {K : PySem.W.Frag} {H0 : Hp} {ms : List V} {kv : V} {good good' : List Str → Prop} {bad bad' : Prop} (h : Makes K H0 ms kv good bad) (hg : ∀ ks, good ks → good' ks) (hb : bad → bad') : Makes K H0 ms kv good' bad' := by
  obtain ⟨h1, h2, h3, h4⟩ := h
  refine ⟨h1, h2, fun c => hb (h3 c), fun c => ?_⟩
  rcases h4 c with ⟨a, b⟩ | ⟨a, ks, e1, e2, e3, e4, e5, e6, e7⟩
  · exact .inl ⟨a, hb b⟩
  · exact .inr ⟨a, ks, e1, e2, e3, e4, fun c => hb (e5 c), fun c1 c2 => hb (e6 c1 c2), fun c1 c2 => hg _ (e7 c1 c2)⟩
def spMade (K : PySem.W.Frag) (C : Addr) : Sp := fun vs H Q _ => ∃ mv kv : V, vs = [mv, kv] ∧ Made K C H mv kv Q (Q .non)
/-- what the except clause reads of its error -/
structure ErrIs (K : PySem.W.Frag) (CI CT : Addr) : Prop where
  ex : ExcC K CI
  mt : PySem.W.exmOne K (.ref CI) (.ref CI) = some true
  kT : PySem.W.kitOne K (.ref CI) (.ref CT) = some true
  kV : PySem.W.kitOne K (.ref CI) (.type "ValueError") = some true
def tsMade (K : PySem.W.Frag) (CI CT : Addr) : Addr → Value → Option Addr → TS := fun a cls d D σ H => (cls = .ref CI ∧ d = none) ∧ tRet (tIf (tAnd (tB (tCB (rIsE K CI a) (tCons (tVar 2) (tCons (tC (.ref CT)) tNil)))) (tB (tCB (rIsE K CI a) (tCons (tVar 2) (tCons (tC (.ty "ValueError")) tNil))))) (tC .non) (tC (.str "odd"))) D σ H
section
variable {P : Program} {w : World} {K : PySem.W.Frag} {mg : Str → Option Value} {base : Heap}
theorem ok_made {f fO C CI CT p : Addr} {fd fdO : FuncData} {mc : Value} {k : Nat} (F : Fun K "_law_made" "_law_made" sMade f fd) (GO : FnOk P w K mg base (L2.CX P w) k fO fdO ["cls", "marks", "kinds"] (spOf K C CI)) (bO : Binds K fdO ["cls", "marks", "kinds"] []) (cr : CRead K C mc) (cm : CMet K C mc "of" p fO) (X : ErrIs K CI CT)
    (gL : mg "Language" = some (.ref C)) (gI : mg "InvalidLanguage" = some (.ref CI)) (gT : mg "TreeError" = some (.ref CT)) (mI : mg "isinstance" = none) (mV : mg "ValueError" = none) : FnOk P w K mg base CX0 (k + 1) f fd ["_law_marks", "_law_sorts"] (spMade K C) := by
  refine F.ok scMade (fun vs H Q E h => ?_) (fun cdv A outer s H vs Q E hr h => ?_)
  · obtain ⟨mv, kv, rfl, _⟩ := h
    rfl
  · obtain ⟨mv, kv, rfl, h⟩ := h
    refine ⟨_, pss_one (ps_try_as (i := 2) (tb := fun W => tRet (tCMeth C (fun vs H Q E => spOf K C CI (vs ++ []) H Q E) (fun cls d H => ∀ σ : L2.St, σ.length = 3 → W cls d σ H) (tC (.ref C)) (tCons (tVar 0) (tCons (tVar 1) tNil)))) (ts := tsMade K CI CT) (Wout := fun _ _ _ _ => False) rfl rfl scMade.nd rfl rfl ⟨rfl, by decide, Or.inl gI⟩ takes0
      (fun W pn xe tk _ => pss_one (ps_ret (by exact (pe_cmeth (pe_glob (v := .ref C) rfl gL rfl) cr cm (GO.raw bO .nil) hr (passes_len tk rfl) (pa_cons (pv 0) (pa_cons (pv 1) pa_nil))))))
      (fun a oe cls d pn hz hf => pss_given fun hc => by
        obtain ⟨rfl, rfl⟩ := hc
        exact pss_one (ps_ret (pe_ifExp (PW.pt (pw_and (pt_val (pe_callB (call_isE X.ex hz hf) (by rfl) mI (by decide +kernel) (pa_cons (pv 2) (pa_cons (pe_glob (v := .ref CT) rfl gT rfl) pa_nil))))
          (pw_and1 (pt_val (pe_callB (call_isE X.ex hz hf) (by rfl) mI (by decide +kernel) (pa_cons (pv 2) (pa_cons (pe_bltn (v := .ty "ValueError") (by rfl) mV (by decide +kernel) rfl) pa_nil))))))) pe_non pe_str)))), ?_⟩
    refine ⟨rfl, _, rfl, _, rfl, mv, kv, rfl, ?_⟩
    have bad : ∀ H', Q .non H' → ∀ σ : L2.St, σ.length = 3 → wAs K (.ref CI) 2 (tsMade K CI CT) (fun _ _ _ _ => False) { nx := fun _ H' => Q .non H', rt := Q } (.ref CI) none σ H' := fun H' q σ hl => by
      match σ, hl with
      | [s0, s1, s2], _ =>
        refine ⟨true, X.mt, fun _ a na => ⟨⟨rfl, rfl⟩, ?_⟩, fun z => Bool.noConfusion z⟩
        exact ⟨_, rfl, _, _, _, rfl, fun u r => r, X.kT, true, rfl, iteT ⟨_, rfl, _, _, _, rfl, fun u r => r, X.kV, true, rfl, q⟩⟩
    rcases h with ⟨h1, h2⟩ | ⟨a, ms, rfl, h1, h2⟩
    · exact .inl ⟨h1, fun H' s' => bad H' (h2 H' s')⟩
    · exact .inr ⟨a, ms, rfl, h1, h2.imp (fun ks g => g) (fun b H' s' => bad H' (b H' s'))⟩
end
end Tf

/-! _law_rows: drawn marks and kinds -/
namespace Tf
open PySem PySem.Spec PyProof.Rows L2
abbrev sRows : Stmt := top 21
abbrev nRows : List Str := ["_law_dice_here", "_law_pool", "_law_cut", "_law_marks", "_law_sorts"]
theorem scRows : FnScope ["_law_dice_here", "_law_pool", "_law_cut", "_law_marks", "_law_sorts"] ["_law_dice_here"] (defScope sRows) := ⟨rfl, rfl, rfl, by decide +kernel, rfl, by decide +kernel, by decide +kernel⟩
def pool : List Str := ["a", "ab", "b", "ba", "c", "by", "of", "self", "language", "z", "zzzzzzzz", "kinds", "marks"]
theorem pool_ok : ∀ z ∈ pool, nameB z = true := by decide +kernel
/-- names of the pool -/
def InP (zs : List Str) : Prop := ∀ z ∈ zs, z ∈ pool
theorem InP.nms {zs : List Str} (h : InP zs) : Nms zs := fun z hz => pool_ok z (h z hz)
/-- two rows of names stand at pm and pk -/
def Two (H0 : Hp) (d : Addr) (m n : Nat) (pm pk : Addr) (ms ks : List Str) (H : Hp) : Prop := Nr d H0 H ∧ Dice H d ∧ pm ≠ d ∧ pk ≠ d ∧ H pm = some (.lst (ms.map V.str)) ∧ H pk = some (.lst (ks.map V.str)) ∧ InP ms ∧ InP ks ∧ ms.length ≤ m ∧ ks.length ≤ n
theorem Two.same {H0 H H' : Hp} {d pm pk : Addr} {m n : Nat} {ms ks : List Str} (h : Two H0 d m n pm pk ms ks H) (s : Same H H') : Two H0 d m n pm pk ms ks H' := by
  obtain ⟨h1, h2, h3, h4, h5, h6, h7⟩ := h
  exact ⟨h1.trans s.nr, h2.same s, h3, h4, s _ _ h5, s _ _ h6, h7⟩
theorem Two.nr {H0 H H' : Hp} {d pm pk : Addr} {m n : Nat} {ms ks : List Str} (h : Two H0 d m n pm pk ms ks H) (s : Nr d H H') (hd : Dice H' d) : Two H0 d m n pm pk ms ks H' := by
  obtain ⟨h1, h2, h3, h4, h5, h6, h7⟩ := h
  exact ⟨h1.trans s, hd, h3, h4, s _ _ h3 h5, s _ _ h4 h6, h7⟩
def spRows : Sp := fun vs H Q _ => ∃ d : Addr, vs = [.ref d] ∧ Dice H d ∧ ∀ (p pm pk : Addr) (ms ks : List Str) (H' : Hp), Two H d 20 40 pm pk ms ks H' → H' p = some (.tup [.ref pm, .ref pk]) → Q (.ref p) H'
section
variable {P : Program} {w : World} {K : PySem.W.Frag} {mg : Str → Option Value} {base : Heap}
theorem ok_rows {f fR fP fM : Addr} {fd fdR fdP fdM : FuncData} {k : Nat} (F : Fun K "_law_rows" "_law_rows" sRows f fd) (kR : PySem.W.keepIn K (.ref fR) = true) (kP : PySem.W.keepIn K (.ref fP) = true) (kM : PySem.W.keepIn K (.ref fM) = true)
    (GR : FnOk P w K mg base CX0 k fR fdR ["_law_dice_here", "_law_upto"] spRoll) (bR : Binds K fdR ["_law_dice_here", "_law_upto"] []) (gR : mg "_law_roll" = some (.ref fR))
    (GP : FnOk P w K mg base CX0 k fP fdP ["_law_dice_here", "_law_items"] (spPick K)) (bP : Binds K fdP ["_law_dice_here", "_law_items"] []) (gP : mg "_law_pick" = some (.ref fP))
    (GM : FnOk P w K mg base CX0 k fM fdM ["_law_dice_here", "_law_items"] (spMixed K)) (bM : Binds K fdM ["_law_dice_here", "_law_items"] []) (gM : mg "_law_mixed" = some (.ref fM)) : FnOk P w K mg base CX0 (k + 1) f fd ["_law_dice_here"] spRows := by
  refine F.ok scRows (fun vs H Q E h => ?_) (fun cdv A outer s H vs Q E hr h => ?_)
  · obtain ⟨d, rfl, _⟩ := h
    rfl
  · obtain ⟨d, rfl, hd, q⟩ := h
    have hu : (A.deeper (envOfC "_law_rows" (defScope sRows) s.heap.objs.size f cdv)).units + 64 < cLine := by have := hr.un; omega
    refine ⟨_, pss_cons (ps_set (i := 1) scRows.nd rfl (.inl rfl) (pe_lst (pa_cons pe_str (pa_cons pe_str (pa_cons pe_str (pa_cons pe_str (pa_cons pe_str (pa_cons pe_str (pa_cons pe_str (pa_cons pe_str (pa_cons pe_str (pa_cons pe_str (pa_cons pe_str (pa_cons pe_str (pa_cons pe_str pa_nil)))))))))))))))
      (pss_cons (ps_set (i := 1) scRows.nd rfl (.inl rfl) (pe_call GM hr (by rfl) gM kM bM .nil pass0 (pa_cons (pv 0) (pa_cons (pv 1) pa_nil))))
      (pss_cons (ps_set (i := 2) scRows.nd rfl (.inl rfl) (pe_call GR hr (by rfl) gR kR bR .nil pass0 (pa_cons (pv 0) (pa_cons pe_int pa_nil))))
      (pss_cons (ps_par (i := 3) (j := 4) (by rfl) scRows.nd rfl rfl (by decide) rfl rfl (pa_cons (pe_slice sl_list (pv 1) po_none (po_some (pv 2))) (pa_cons (pe_slice sl_list (pe_slice sl_list (pv 1) (po_some (pv 2)) po_none) po_none (po_some (pe_call GR hr (by rfl) gR kR bR .nil pass0 (pa_cons (pv 0) (pa_cons pe_int pa_nil))))) pa_nil)) (by rfl))
      (pss_cons (ps_mid (ps_if (PW.pt (pw_and (pt_cmpR (op_neD hu) (pv 3) (pe_lst pa_nil) (nomark _)) (pw_and1 (pt_cmpR op_eq (pe_call GR hr (by rfl) gR kR bR .nil pass0 (pa_cons (pv 0) (pa_cons pe_int pa_nil))) pe_int (nomark _)))))
          (pss_one (ps_set (i := 3) scRows.nd rfl (.inl rfl) (pe_op op_cat (pv 3) (pe_lst (pa_cons (pe_call GP hr (by rfl) gP kP bP .nil pass0 (pa_cons (pv 0) (pa_cons (pv 3) pa_nil))) pa_nil))))) pss_nil))
      (pss_cons (ps_mid (ps_if (PW.pt (pw_and (pt_cmpR (op_neD hu) (pv 4) (pe_lst pa_nil) (nomark _)) (pw_and1 (pt_cmpR op_eq (pe_call GR hr (by rfl) gR kR bR .nil pass0 (pa_cons (pv 0) (pa_cons pe_int pa_nil))) pe_int (nomark _)))))
          (pss_one (ps_set (i := 4) scRows.nd rfl (.inl rfl) (pe_op op_cat (pv 4) (pe_lst (pa_cons (pe_call GP hr (by rfl) gP kP bP .nil pass0 (pa_cons (pv 0) (pa_cons (pv 4) pa_nil))) pa_nil))))) pss_nil))
      (pss_cons (ps_mid (ps_if (PW.pt (pw_and (pt_cmpR (op_neD hu) (pv 3) (pe_lst pa_nil) (nomark _)) (pw_and1 (pt_cmpR op_eq (pe_call GR hr (by rfl) gR kR bR .nil pass0 (pa_cons (pv 0) (pa_cons pe_int pa_nil))) pe_int (nomark _)))))
          (pss_one (ps_set (i := 4) scRows.nd rfl (.inl rfl) (pe_op op_cat (pv 4) (pe_slice sl_list (pv 3) po_none (po_some pe_int))))) pss_nil))
      (pss_one (ps_ret (pe_tup (pa_cons (pv 3) (pa_cons (pv 4) pa_nil))))))))))), ?_⟩
    refine ⟨(by show 13 ≤ sizeLine; decide), fun l0 n0 => ?_⟩
    have s0 : Same H (upd H l0 (.lst (pool.map V.str))) := same_new n0
    have dl0 : l0 ≠ d := by obtain ⟨a, b, c, _, e⟩ := hd; exact (ne_of_none e n0).symm
    refine ⟨.ref d, rfl, .ref l0, rfl, d, l0, pool, rfl, hd.same s0, .inl (lst_of upd_same), pool_ok, by decide, fun ys p0 H1 pm nr1 dc1 np0 ep0 => ?_⟩
    have dp0 : p0 ≠ d := by
      obtain ⟨a, b, c, _, e'⟩ := hd.same s0
      exact (ne_of_none e' np0).symm
    have ny : InP ys := fun z hz => pm.mem_iff.mp hz
    have ly : ys.length = 13 := pm.length_eq
    have nrA : Nr d H H1 := s0.nr.trans nr1
    refine ⟨.ref d, rfl, d, 11, rfl, dc1, by decide, by decide, fun c H2 _ _ nr2 dc2 => ?_⟩
    have ep2 := nr2 _ _ dp0 ep0
    refine ⟨.ref p0, rfl, .int c, rfl, c, rfl, p0, _, rfl, lst_of ep2, fun p1 n1 => ?_⟩
    obtain ⟨ms, e1, i1, l1⟩ := cut_txt ys none (some c)
    rw [e1]
    have s1 : Same H2 (upd H2 p1 (.lst (ms.map V.str))) := same_new n1
    refine ⟨.ref p0, rfl, .int c, rfl, c, rfl, p0, _, rfl, lst_of (s1 _ _ ep2), fun p2 n2 => ?_⟩
    obtain ⟨ks0, e2, i2, l2⟩ := cut_txt ys (some c) none
    rw [e2]
    have s2 : Same (upd H2 p1 (.lst (ms.map V.str))) (upd (upd H2 p1 (.lst (ms.map V.str))) p2 (.lst (ks0.map V.str))) := same_new n2
    have dH2 : H2 d ≠ none := fun e => by obtain ⟨_, _, _, _, e'⟩ := dc2; rw [e'] at e; cases e
    have dp1 : p1 ≠ d := fun e => dH2 (by rw [← e]; exact n1)
    have dp2 : p2 ≠ d := fun e => dH2 (by rw [← e]; exact s1.free n2)
    refine ⟨.ref d, rfl, d, 7, rfl, dc2.same (s1.trans s2), by decide, by decide, fun r H3 _ _ nr3 dc3 => ⟨r, rfl, p2, _, rfl, lst_of (nr3 _ _ dp2 upd_same), fun p3 n3 => ?_⟩⟩
    obtain ⟨ks, e3, i3, l3⟩ := cut_txt ks0 none (some r)
    rw [e3]
    have s3 : Same H3 (upd H3 p3 (.lst (ks.map V.str))) := same_new n3
    have dp3 : p3 ≠ d := fun e => by obtain ⟨_, _, _, _, e'⟩ := dc3; rw [e, e'] at n3; cases n3
    refine ⟨_, _, rfl, ?_⟩
    have two : Two H d 14 14 p1 p3 ms ks (upd H3 p3 (.lst (ks.map V.str))) := ⟨(nrA.trans nr2).trans ((s1.trans s2).nr.trans (nr3.trans s3.nr)), dc3.same s3, dp1, dp3, s3 _ _ (nr3 _ _ dp1 (s2 _ _ upd_same)), upd_same, fun z hz => ny z (i1 z hz), fun z hz => ny z (i2 z (i3 z hz)), by omega, by omega⟩
    generalize upd H3 p3 (.lst (ks.map V.str)) = H4 at two
    -- one more mark
    refine ⟨fun σ H' => ∃ (pm pk : Addr) (ms ks : List Str), σ = [some (.ref d), some (.ref p0), some (.int c), some (.ref pm), some (.ref pk)] ∧ Two H d 20 14 pm pk ms ks H', ?_, ?_⟩
    · have tw := two
      obtain ⟨_, dc, dm, dk, hm, hk, nm, nk, lm, lk⟩ := two
      refine ⟨.ref p1, rfl, ne_nil (lst_of hm) nm.nms fun H5 s5 => ⟨_, rfl, ?_⟩⟩
      have tw5 := tw.same s5
      refine ite2 (fun c0 => ?_) (fun c0 => iteF ⟨p1, p3, ms, ks, rfl, ?_⟩)
      · refine ⟨.ref d, rfl, d, 3, rfl, tw5.2.1, by decide, by decide, fun r H6 _ _ nr6 dc6 => ⟨rfl, _, rfl, ?_⟩⟩
        have tw6 := tw5.nr nr6 dc6
        refine ite2 (fun c1 => ?_) (fun c1 => ⟨p1, p3, ms, ks, rfl, ?_⟩)
        · refine ⟨.ref p1, rfl, .ref d, rfl, .ref p1, rfl, d, p1, _, rfl, dc6, tw6.2.2.2.2.1, dm.symm, ?_, ?_, fun v H7 hv nr7 dc7 => ?_⟩
          · intro z
            have e : ms = [] := List.map_eq_nil_iff.mp z
            rw [e] at c0
            cases c0
          · rw [List.length_map]
            omega
          · obtain ⟨z, hz, rfl⟩ := List.mem_map.mp hv
            have tw7 := tw6.nr nr7 dc7
            refine ⟨by show 1 ≤ sizeLine; decide, fun t nt => ?_⟩
            have s8 : Same H7 (upd H7 t (.lst [.str z])) := same_new nt
            have tw8 := tw7.same s8
            refine ⟨p1, t, _, _, rfl, rfl, tw8.2.2.2.2.1, upd_same, ?_, fun p9 n9 => ?_⟩
            · rw [List.length_map]
              exact Nat.le_of_lt (small1000 (by show ms.length + 1 ≤ 1000; omega))
            · have s9 : Same (upd H7 t (.lst [.str z])) (upd (upd H7 t (.lst [.str z])) p9 (.lst (ms.map V.str ++ [.str z]))) := same_new n9
              obtain ⟨g1, g2, g3, g4, g5, g6, g7, g8, g9, g10⟩ := tw8.same s9
              have d9 : p9 ≠ d := by
                obtain ⟨a, b, c, _, e'⟩ := tw8.2.1
                exact (ne_of_none e' n9).symm
              refine ⟨p9, p3, ms ++ [z], ks, rfl, g1, g2, d9, g4, ?_, g6, ?_, g8, ?_, g10⟩
              · rw [upd_same, List.map_append]
                rfl
              · intro y hy
                rcases List.mem_append.mp hy with hy | hy
                · exact nm y hy
                · cases List.mem_singleton.mp hy
                  exact nm z hz
              · rw [List.length_append]
                show ms.length + 1 ≤ 20
                omega
        · obtain ⟨g1, g2, g3, g4, g5, g6, g7, g8, g9, g10⟩ := tw6
          exact ⟨g1, g2, g3, g4, g5, g6, g7, g8, by omega, g10⟩
      · obtain ⟨g1, g2, g3, g4, g5, g6, g7, g8, g9, g10⟩ := tw5
        exact ⟨g1, g2, g3, g4, g5, g6, g7, g8, by omega, g10⟩
    rintro σ' H' ⟨pm, pk, ms, ks, rfl, two⟩
    -- one more kind
    refine ⟨fun σ H' => ∃ (pm pk : Addr) (ms ks : List Str), σ = [some (.ref d), some (.ref p0), some (.int c), some (.ref pm), some (.ref pk)] ∧ Two H d 20 20 pm pk ms ks H', ?_, ?_⟩
    · have tw := two
      obtain ⟨_, dc, dm, dk, hm, hk, nm, nk, lm, lk⟩ := two
      refine ⟨.ref pk, rfl, ne_nil (lst_of hk) nk.nms fun H5 s5 => ⟨_, rfl, ?_⟩⟩
      have tw5 := tw.same s5
      refine ite2 (fun c0 => ?_) (fun c0 => iteF ⟨pm, pk, ms, ks, rfl, ?_⟩)
      · refine ⟨.ref d, rfl, d, 3, rfl, tw5.2.1, by decide, by decide, fun r H6 _ _ nr6 dc6 => ⟨rfl, _, rfl, ?_⟩⟩
        have tw6 := tw5.nr nr6 dc6
        refine ite2 (fun c1 => ?_) (fun c1 => ⟨pm, pk, ms, ks, rfl, ?_⟩)
        · refine ⟨.ref pk, rfl, .ref d, rfl, .ref pk, rfl, d, pk, _, rfl, dc6, tw6.2.2.2.2.2.1, dk.symm, ?_, ?_, fun v H7 hv nr7 dc7 => ?_⟩
          · intro z
            have e : ks = [] := List.map_eq_nil_iff.mp z
            rw [e] at c0
            cases c0
          · rw [List.length_map]
            omega
          · obtain ⟨z, hz, rfl⟩ := List.mem_map.mp hv
            have tw7 := tw6.nr nr7 dc7
            refine ⟨by show 1 ≤ sizeLine; decide, fun t nt => ?_⟩
            have s8 : Same H7 (upd H7 t (.lst [.str z])) := same_new nt
            have tw8 := tw7.same s8
            refine ⟨pk, t, _, _, rfl, rfl, tw8.2.2.2.2.2.1, upd_same, ?_, fun p9 n9 => ?_⟩
            · rw [List.length_map]
              exact Nat.le_of_lt (small1000 (by show ks.length + 1 ≤ 1000; omega))
            · have s9 : Same (upd H7 t (.lst [.str z])) (upd (upd H7 t (.lst [.str z])) p9 (.lst (ks.map V.str ++ [.str z]))) := same_new n9
              obtain ⟨g1, g2, g3, g4, g5, g6, g7, g8, g9, g10⟩ := tw8.same s9
              have d9 : p9 ≠ d := by
                obtain ⟨a, b, c, _, e'⟩ := tw8.2.1
                exact (ne_of_none e' n9).symm
              refine ⟨pm, p9, ms, ks ++ [z], rfl, g1, g2, g3, d9, g5, ?_, g7, ?_, g9, ?_⟩
              · rw [upd_same, List.map_append]
                rfl
              · intro y hy
                rcases List.mem_append.mp hy with hy | hy
                · exact nk y hy
                · cases List.mem_singleton.mp hy
                  exact nk z hz
              · rw [List.length_append]
                show ks.length + 1 ≤ 20
                omega
        · obtain ⟨g1, g2, g3, g4, g5, g6, g7, g8, g9, g10⟩ := tw6
          exact ⟨g1, g2, g3, g4, g5, g6, g7, g8, g9, by omega⟩
      · obtain ⟨g1, g2, g3, g4, g5, g6, g7, g8, g9, g10⟩ := tw5
        exact ⟨g1, g2, g3, g4, g5, g6, g7, g8, g9, by omega⟩
    rintro σ' H' ⟨pm, pk, ms, ks, rfl, two⟩
    -- a mark among the kinds
    refine ⟨fun σ H' => ∃ (pm pk : Addr) (ms ks : List Str), σ = [some (.ref d), some (.ref p0), some (.int c), some (.ref pm), some (.ref pk)] ∧ Two H d 20 40 pm pk ms ks H', ?_, ?_⟩
    · have tw := two
      obtain ⟨_, dc, dm, dk, hm, hk, nm, nk, lm, lk⟩ := two
      refine ⟨.ref pm, rfl, ne_nil (lst_of hm) nm.nms fun H5 s5 => ⟨_, rfl, ?_⟩⟩
      have tw5 := tw.same s5
      refine ite2 (fun c0 => ?_) (fun c0 => iteF ⟨pm, pk, ms, ks, rfl, ?_⟩)
      · refine ⟨.ref d, rfl, d, 6, rfl, tw5.2.1, by decide, by decide, fun r H6 _ _ nr6 dc6 => ⟨rfl, _, rfl, ?_⟩⟩
        have tw6 := tw5.nr nr6 dc6
        refine ite2 (fun c1 => ?_) (fun c1 => ⟨pm, pk, ms, ks, rfl, ?_⟩)
        · refine ⟨.ref pk, rfl, .ref pm, rfl, 1, rfl, pm, _, rfl, lst_of tw6.2.2.2.2.1, fun t nt => ?_⟩
          obtain ⟨zs, ez, iz, lz⟩ := cut_txt ms none (some 1)
          rw [ez]
          have s8 : Same H6 (upd H6 t (.lst (zs.map V.str))) := same_new nt
          have tw8 := tw6.same s8
          refine ⟨pk, t, _, _, rfl, rfl, tw8.2.2.2.2.2.1, upd_same, ?_, fun p9 n9 => ?_⟩
          · rw [List.length_map, List.length_map]
            exact Nat.le_of_lt (small1000 (by omega))
          · have s9 : Same (upd H6 t (.lst (zs.map V.str))) (upd (upd H6 t (.lst (zs.map V.str))) p9 (.lst (ks.map V.str ++ zs.map V.str))) := same_new n9
            obtain ⟨g1, g2, g3, g4, g5, g6, g7, g8, g9, g10⟩ := tw8.same s9
            have d9 : p9 ≠ d := by
              obtain ⟨a, b, c, _, e'⟩ := tw8.2.1
              exact (ne_of_none e' n9).symm
            refine ⟨pm, p9, ms, ks ++ zs, rfl, g1, g2, g3, d9, g5, ?_, g7, ?_, g9, ?_⟩
            · rw [upd_same, List.map_append]
            · intro y hy
              rcases List.mem_append.mp hy with hy | hy
              · exact nk y hy
              · exact nm y (iz y hy)
            · rw [List.length_append]
              omega
        · obtain ⟨g1, g2, g3, g4, g5, g6, g7, g8, g9, g10⟩ := tw6
          exact ⟨g1, g2, g3, g4, g5, g6, g7, g8, g9, by omega⟩
      · obtain ⟨g1, g2, g3, g4, g5, g6, g7, g8, g9, g10⟩ := tw5
        exact ⟨g1, g2, g3, g4, g5, g6, g7, g8, g9, by omega⟩
    rintro σ' H' ⟨pm, pk, ms, ks, rfl, two⟩
    refine ⟨.ref pm, rfl, .ref pk, rfl, by show 2 ≤ sizeLine; decide, fun p np => q p pm pk ms ks _ (two.same (same_new np)) upd_same⟩
end
end Tf

/-! what _law_right asks of languages -/
namespace L2
open PySem PySem.Spec PyProof.Rows
theorem op_or2 {X : Cx} {op : Value → Value → Sem Value} {r r' : R2} (h : OpR X op r) (h' : OpR X op r') : OpR X op (fun x y H Q => r x y H Q ∨ r' x y H Q) := by
  intro pins s σ H x y v u Q I rx ry q
  rcases q with q | q
  · exact h pins s σ H x y v u Q I rx ry q
  · exact h' pins s σ H x y v u Q I rx ry q
end L2
namespace Tf
open PySem PySem.Spec PyProof.Rows L2
theorem item_str {K : PySem.W.Frag} {H : Hp} {z : Str} (h : nameB z = true) : Item K H (.str z) := ⟨.inl ⟨z, rfl, by have := nameB_len h; omega⟩, .inl ⟨z, rfl⟩⟩
theorem items_strs {K : PySem.W.Frag} {zs : List Str} (h : Nms zs) {H0 : Hp} : ∀ y ∈ zs.map V.str, ∀ H', Same H0 H' → Item K H' y := fun y hy H' _ => by
  obtain ⟨z, hz, rfl⟩ := List.mem_map.mp hy
  exact item_str (h z hz)
theorem txts_strs : ∀ zs : List Str, txts (zs.map V.str) = zs
  | [] => rfl
  | z :: zs => by
    show txts (.str z :: zs.map V.str) = z :: zs
    rw [txts_cons_str, txts_strs zs]
theorem all_strs {zs : List Str} (h : Nms zs) : (zs.map V.str).all isN = true := List.all_eq_true.mpr fun y hy => by
  obtain ⟨z, hz, rfl⟩ := List.mem_map.mp hy
  exact h z hz
theorem Nms.canon {zs : List Str} (h : Nms zs) : Nms (L2.canon zs) := fun z hz => h z (mem_canon.mp hz)
section
variable {K : PySem.W.Frag} {C : Addr} {H : Hp} {Q : V → Hp → Prop} {bad : Hp → Prop}
theorem made_names {a b : Addr} {ms ks : List Str} (ha : SqT K H a (ms.map V.str)) (hb : SqT K H b (ks.map V.str)) (nm : Nms ms) (nk : Nms ks) (lm : ms.length ≤ 60) (lk : ks.length ≤ 60) (h0 : langOk ms ks = false → ∀ H', Same H H' → bad H')
    (h1 : langOk ms ks = true → ∀ (x : Addr) (H' : Hp), Same H H' → H x = none → LangAt C H' x (canon ms) (canon ks) → Q (.ref x) H') : Made K C H (.ref a) (.ref b) Q bad := by
  refine .inr ⟨a, _, rfl, ha, items_strs nm, by rw [List.length_map]; exact lm, fun c => ?_, fun _ => .inr ⟨b, _, rfl, hb, items_strs nk, by rw [List.length_map]; exact lk, fun c => ?_, ?_, ?_⟩⟩
  · rw [all_strs nm] at c
    cases c
  · rw [all_strs nk] at c
    cases c
  · rw [txts_strs, txts_strs]
    exact fun _ c => h0 c
  · rw [txts_strs, txts_strs]
    exact fun _ c => h1 c
theorem made_noM {mv kv : V} (h : NoTup K H mv) (hb : ∀ H', Same H H' → bad H') : Made K C H mv kv Q bad := .inl ⟨h, hb⟩
theorem made_noK {a : Addr} {kv : V} {ms : List Str} (ha : SqT K H a (ms.map V.str)) (nm : Nms ms) (lm : ms.length ≤ 60) (h : ∀ H', Same H H' → NoTup K H' kv) (hb : ∀ H', Same H H' → bad H') : Made K C H (.ref a) kv Q bad :=
  .inr ⟨a, _, rfl, ha, items_strs nm, by rw [List.length_map]; exact lm, fun _ => hb, fun _ => .inl ⟨h, hb⟩⟩
theorem made_oddM {a : Addr} {kv x : V} {ms : List Str} (ha : SqT K H a (ms.map V.str ++ [x])) (nm : Nms ms) (lm : ms.length ≤ 50) (ho : OddV H x) (hb : ∀ H', Same H H' → bad H') : Made K C H (.ref a) kv Q bad := by
  refine .inr ⟨a, _, rfl, ha, fun y hy H' s' => ?_, ?_, fun _ => hb, fun c => ?_⟩
  · rcases List.mem_append.mp hy with hy | hy
    · exact items_strs nm y hy H' s'
    · cases List.mem_singleton.mp hy
      exact (ho.same s').item
  · rw [List.length_append, List.length_map]
    show ms.length + 1 ≤ 60
    omega
  · rw [List.all_append, Bool.and_eq_true] at c
    have e : isN x = true := by simpa using c.2
    rw [ho.isN] at e
    cases e
theorem made_oddK {a b : Addr} {x : V} (ha : SqT K H a []) (hb' : SqT K H b [x]) (ho : OddV H x) (hb : ∀ H', Same H H' → bad H') : Made K C H (.ref a) (.ref b) Q bad := by
  refine .inr ⟨a, [], rfl, ha, (fun y hy => by cases hy), by decide, fun _ => hb, fun _ => .inr ⟨b, [x], rfl, hb', fun y hy H' s' => ?_, (by show 1 ≤ 60; decide), fun _ => hb, fun c => ?_, fun c => ?_⟩⟩
  · cases List.mem_singleton.mp hy
    exact (ho.same s').item
  · have e : isN x = true := by simpa using c
    rw [ho.isN] at e
    cases e
  · have e : isN x = true := by simpa using c
    rw [ho.isN] at e
    cases e
end
theorem of_made {K : PySem.W.Frag} {C CI : Addr} {H : Hp} {mv kv : V} {Q : VK} {E : XK} (h : Made K C H mv kv Q (fun H' => E (.ref CI) none H')) : spOf K C CI [.ref C, mv, kv] H Q E := ⟨mv, kv, rfl, h⟩
theorem no_list {K : PySem.W.Frag} {H : Hp} {a : Addr} {xs : List V} (h : H a = some (.lst xs)) : NoTup K H (.ref a) := ⟨_, .base (.lst h), kit_ty (by decide +kernel)⟩
theorem no_non {K : PySem.W.Frag} {H : Hp} : NoTup K H .non := ⟨_, .base .non, kit_ty (by decide +kernel)⟩
theorem canon_rev (zs : List Str) : canon zs.reverse = canon zs := canon_congr fun z => by rw [List.mem_reverse]
theorem ok_rev (ms ks : List Str) : langOk ms.reverse ks.reverse = langOk ms ks := by unfold langOk; rw [canon_rev, canon_rev]
theorem ok_canon (ms ks : List Str) : langOk (canon ms) (canon ks) = langOk ms ks := by unfold langOk; rw [canon_canon, canon_canon]
theorem canon_drop (zs : List Str) : canon ((canon zs).drop 1) = (canon zs).drop 1 := canon_self ((nodup_canon zs).sublist (List.drop_sublist 1 _)) ((canon_pw zs).sublist (List.drop_sublist 1 _))
theorem ok_parts {ms ks : List Str} (h : langOk ms ks = true) : (canon ms).length ≤ 8 ∧ 1 ≤ (canon ks).length ∧ (canon ks).length ≤ 4 ∧ ∀ z ∈ canon ks, z ∉ canon ms := by
  unfold langOk at h
  rw [Bool.and_eq_true, Bool.and_eq_true, Bool.and_eq_true, Bool.not_eq_true'] at h
  refine ⟨of_decide_eq_true h.1.1, of_decide_eq_true h.1.2.1, of_decide_eq_true h.1.2.2, fun z hz hm => ?_⟩
  exact (List.any_eq_false.mp h.2 z hz) (decide_eq_true hm)
theorem ok_of_parts {ms ks : List Str} (h1 : (canon ms).length ≤ 8) (h2 : 1 ≤ (canon ks).length) (h3 : (canon ks).length ≤ 4) (h4 : ∀ z ∈ canon ks, z ∉ canon ms) : langOk ms ks = true := by
  unfold langOk
  rw [Bool.and_eq_true, Bool.and_eq_true, Bool.and_eq_true, Bool.not_eq_true']
  refine ⟨⟨decide_eq_true h1, decide_eq_true h2, decide_eq_true h3⟩, List.any_eq_false.mpr fun z hz c => h4 z hz (of_decide_eq_true c)⟩
theorem ok_drop {ms ks : List Str} (h : langOk ms ks = true) : langOk ((canon ms).drop 1) (canon ks) = true := by
  obtain ⟨h1, h2, h3, h4⟩ := ok_parts h
  refine ok_of_parts ?_ ?_ ?_ ?_
  · rw [canon_drop, List.length_drop]
    omega
  · rw [canon_canon]
    exact h2
  · rw [canon_canon]
    exact h3
  · rw [canon_canon, canon_drop]
    exact fun z hz hm => h4 z hz (List.mem_of_mem_drop hm)
/-- what was found: a language, or None -/
def Fd (C : Addr) (ms ks : List Str) (fv : V) (H : Hp) : Prop := (fv = .non ∧ langOk ms ks = false) ∨ ∃ x, fv = .ref x ∧ LangAt C H x (canon ms) (canon ks) ∧ langOk ms ks = true
theorem Fd.same {C : Addr} {ms ks : List Str} {fv : V} {H H' : Hp} (h : Fd C ms ks fv H) (s : Same H H') : Fd C ms ks fv H' := by
  rcases h with h | ⟨x, h1, h2, h3⟩
  · exact .inl h
  · exact .inr ⟨x, h1, h2.same s, h3⟩
theorem LangAt.nr {C d : Addr} {H H' : Hp} {a : Addr} {ms ks : List Str} (h : LangAt C H a ms ks) (hd : Dice H d) (s : Nr d H H') : LangAt C H' a ms ks := by
  obtain ⟨dx, fs, pm, pk, h1, h2, h3, h4, h5⟩ := h
  obtain ⟨a0, b0, c0, _, e0⟩ := hd
  have n1 : a ≠ d := fun e => by rw [e, e0] at h1; cases h1
  have n2 : pm ≠ d := fun e => by rw [e, e0] at h4; cases h4
  have n3 : pk ≠ d := fun e => by rw [e, e0] at h5; cases h5
  exact ⟨dx, fs, pm, pk, s _ _ n1 h1, h2, h3, s _ _ n2 h4, s _ _ n3 h5⟩
/-- what stands while _law_right runs -/
structure Rw (d pm pk ph pl : Addr) (ms ks : List Str) (H0 H : Hp) : Prop where
  nr : Nr d H0 H
  dc : Dice H d
  dm : pm ≠ d
  dk : pk ≠ d
  dh : ph ≠ d
  dl : pl ≠ d
  hm : H pm = some (.lst (ms.map V.str))
  hk : H pk = some (.lst (ks.map V.str))
  hh : H ph = some (.lst ((canon ms).map V.str))
  hl : H pl = some (.lst ((canon ks).map V.str))
  im : InP ms
  ik : InP ks
  lm : ms.length ≤ 20
  lk : ks.length ≤ 40
theorem Rw.same {d pm pk ph pl : Addr} {ms ks : List Str} {H0 H H' : Hp} (h : Rw d pm pk ph pl ms ks H0 H) (s : Same H H') : Rw d pm pk ph pl ms ks H0 H' :=
  ⟨h.nr.trans s.nr, h.dc.same s, h.dm, h.dk, h.dh, h.dl, s _ _ h.hm, s _ _ h.hk, s _ _ h.hh, s _ _ h.hl, h.im, h.ik, h.lm, h.lk⟩
theorem Rw.roll {d pm pk ph pl : Addr} {ms ks : List Str} {H0 H H' : Hp} (h : Rw d pm pk ph pl ms ks H0 H) (s : Nr d H H') (hd : Dice H' d) : Rw d pm pk ph pl ms ks H0 H' :=
  ⟨h.nr.trans s, hd, h.dm, h.dk, h.dh, h.dl, s _ _ h.dm h.hm, s _ _ h.dk h.hk, s _ _ h.dh h.hh, s _ _ h.dl h.hl, h.im, h.ik, h.lm, h.lk⟩
theorem Fd.roll {C d : Addr} {ms ks : List Str} {fv : V} {H H' : Hp} (h : Fd C ms ks fv H) (hd : Dice H d) (s : Nr d H H') : Fd C ms ks fv H' := by
  rcases h with f | ⟨x, h1, h2, h3⟩
  · exact .inl f
  · exact .inr ⟨x, h1, h2.nr hd s, h3⟩
theorem Fd.isSome {C : Addr} {ms ks : List Str} {fv : V} {H : Hp} (h : Fd C ms ks fv H) : (!decide (fv = .non)) = langOk ms ks := by
  rcases h with ⟨rfl, e⟩ | ⟨x, rfl, _, e⟩
  · rw [e]
    rfl
  · rw [e]
    rfl
theorem Dice.ne {H : Hp} {d p : Addr} (h : Dice H d) (n : H p = none) : p ≠ d := by
  obtain ⟨a, b, c, _, e⟩ := h
  exact (ne_of_none e n).symm
theorem OddV.hasB {H : Hp} {x : V} (o : OddV H x) {zs : List Str} (h : Nms zs) : hasB x zs = false := by
  cases o with
  | str z hz l =>
    refine decide_eq_false fun c => ?_
    have := h z c
    rw [hz] at this
    cases this
  | _ => rfl
theorem nothing_out {zs : List Str} (h : InP zs) : hasB (.str "nothing") zs = false := by
  refine decide_eq_false fun c => ?_
  have := h _ c
  exact absurd this (by decide +kernel)
theorem InP.canon {zs : List Str} (h : InP zs) : InP (L2.canon zs) := fun z hz => h z (mem_canon.mp hz)
theorem shaped3 {a b : List Str} {n : Int} (ha : Nms a) (hb : Nms b) : SeqAt.shaped (.list [.tuple (dS a), .tuple (dS b), .int n]) = true := by
  show (PyData.canLay0 (.list [.tuple (dS a), .tuple (dS b), .int n]) && decide (PyData.depth (.list [.tuple (dS a), .tuple (dS b), .int n]) ≤ 64)) = true
  rw [Bool.and_eq_true]
  refine ⟨by simp only [PyData.canLay0, PyData.canLayAll0, lay_strs ha, lay_strs hb, Bool.and_self], decide_eq_true ?_⟩
  simp only [PyData.depth, PyData.depthAll, depth_strs]
  decide
theorem eqv3 {a b : List Str} {n : Int} : PyData.eqv (.list [.tuple (dS a), .tuple (dS b), .int n]) (.list [.tuple (dS a), .tuple (dS b), .int n]) = true := by
  simp only [PyData.eqv, PyData.eqvAll, eqvAll_strs]
  simp
theorem eqv3' {a b : List Str} {n m : Int} (h : n = m) : PyData.eqv (.list [.tuple (dS a), .tuple (dS b), .int n]) (.list [.tuple (dS a), .tuple (dS b), .int m]) = true := by
  subst h
  exact eqv3
theorem lenA {a b : Str} {m n : Nat} (ha : a.length ≤ m) (hb : b.length ≤ n) : (a ++ b).length ≤ m + n := Nat.le_trans (len2 a b) (Nat.add_le_add ha hb)
theorem sumA {a b : Str} {m n : Nat} (ha : a.length ≤ m) (hb : b.length ≤ n) (h : m + n ≤ 1000 := by decide) : a.length + b.length ≤ sizeLine := Nat.le_trans (Nat.add_le_add ha hb) (Nat.le_trans h (by decide))
theorem text_is (m k : Nat) : langText m k = ((((("language of " : Str) ++ ((toString (m : Int) : String) : Str)) ++ (" marks, " : Str)) ++ ((toString (k : Int) : String) : Str)) ++ (" kinds" : Str)) := by
  unfold langText
  have e : (Str.empty ++ ("language of " : Str) : Str) = ("language of " : Str) := by decide +kernel
  rw [e]
end Tf

/-! _law_right -/
namespace Tf
open PySem PySem.Spec PyProof.Rows L2 ClX
abbrev sRight : Stmt := top 22
abbrev nRight : List Str := ["_law_dice_here", "_law_marks", "_law_sorts", "_law_high", "_law_low", "_law_can_be", "_law_found", "_law_odd_here", "_law_one", "_law_pair", "_law_name"]
theorem scRight : FnScope nRight ["_law_dice_here"] (defScope sRight) := ⟨rfl, rfl, rfl, by decide +kernel, rfl, by decide +kernel, by decide +kernel⟩
def spRight : Sp := fun vs H Q _ => ∃ d : Addr, vs = [.ref d] ∧ Dice H d ∧ ∀ H' : Hp, Nr d H H' → Dice H' d → Q (.bl true) H'
/-- the methods of a language -/
structure Meths (P : Program) (w : World) (K : PySem.W.Frag) (mg : Str → Option Value) (base : Heap) (C : Addr) (fE fH fL fS : Addr) : Prop where
  oE : Own K C "__eq__" fE
  oH : Own K C "__contains__" fH
  oL : Own K C "__len__" fL
  oS : Own K C "__str__" fS
  ne : PySem.W.findIn K (.ref C) "__ne__" = some (some (.builtin "object.__ne__"))
  mo : PySem.W.mroIn K C (.type "object") = some true
  gE : FnR P w K mg base CX0 1 fE (spEq K C)
  gH : FnR P w K mg base CX0 1 fH (spHas K C)
  gL : FnR P w K mg base CX0 1 fL (spLen C)
  gS : FnR P w K mg base CX0 1 fS (spStr C)
def rNN : R2 := fun x y H Q => y = .non ∧ Q (.bl (!decide (x = .non))) H
theorem op_nn {X : Cx} : OpR X (compareOp .IsNot) rNN := op_notN
section
variable {P : Program} {w : World} {K : PySem.W.Frag} {mg : Str → Option Value} {base : Heap}
theorem ok_right {f fRo fOd fMa fNa fO fMk fKi C CI p pM pK fE fH fL fS : Addr} {fd fdRo fdOd fdMa fdNa fdO fdMk fdKi : FuncData} {mc : Value} {k : Nat} (F : Fun K "_law_right" "_law_right" sRight f fd) (k3 : 3 ≤ k)
    (GRo : FnOk P w K mg base CX0 k fRo fdRo ["_law_dice_here"] spRows) (bRo : Binds K fdRo ["_law_dice_here"] []) (gRo : mg "_law_rows" = some (.ref fRo)) (kRo : PySem.W.keepIn K (.ref fRo) = true)
    (GOd : FnOk P w K mg base CX0 k fOd fdOd ["_law_dice_here"] spOdd) (bOd : Binds K fdOd ["_law_dice_here"] []) (gOd : mg "_law_odd" = some (.ref fOd)) (kOd : PySem.W.keepIn K (.ref fOd) = true)
    (GMa : FnOk P w K mg base CX0 k fMa fdMa ["_law_marks", "_law_sorts"] (spMade K C)) (bMa : Binds K fdMa ["_law_marks", "_law_sorts"] []) (gMa : mg "_law_made" = some (.ref fMa)) (kMa : PySem.W.keepIn K (.ref fMa) = true)
    (GNa : FnOk P w K mg base CX0 k fNa fdNa ["value"] (spName K)) (bNa : Binds K fdNa ["value"] []) (gNa : mg "is_name" = some (.ref fNa)) (kNa : PySem.W.keepIn K (.ref fNa) = true)
    (GO : FnOk P w K mg base (L2.CX P w) k fO fdO ["cls", "marks", "kinds"] (spOf K C CI)) (bO : Binds K fdO ["cls", "marks", "kinds"] []) (cr : CRead K C mc) (cm : CMet K C mc "of" p fO) (gLa : mg "Language" = some (.ref C))
    (L : LCls K C) (GMk : FnOk P w K mg base CX0 1 fMk fdMk ["self"] (spMarks C true)) (bMk : Binds K fdMk ["self"] []) (pMk : PropOf K C "marks" pM fMk) (GKi : FnOk P w K mg base CX0 1 fKi fdKi ["self"] (spMarks C false)) (bKi : Binds K fdKi ["self"] []) (pKi : PropOf K C "kinds" pK fKi)
    (M : Meths P w K mg base C fE fH fL fS) (T : TyNo K C) (mSo : mg "sorted" = none) (mSe : mg "set" = none) (mLe : mg "len" = none) (mTu : mg "tuple" = none) (mRe : mg "repr" = none) (mLi : mg "list" = none) (mSt : mg "str" = none) : FnOk P w K mg base CX0 (k + 1) f fd ["_law_dice_here"] spRight := by
  refine F.ok scRight (fun vs H Q E h => ?_) (fun cdv A outer s H vs Q E hr h => ?_)
  · obtain ⟨d, rfl, _⟩ := h
    rfl
  · obtain ⟨d, rfl, hd, q⟩ := h
    have hu : (A.deeper (envOfC "_law_right" (defScope sRight) s.heap.objs.size f cdv)).units + 64 < cLine := by have := hr.un; omega
    have hr2 : Room 2 (A.deeper (envOfC "_law_right" (defScope sRight) s.heap.objs.size f cdv)) := hr.mono (by omega)
    have hr3 : Room 3 (A.deeper (envOfC "_law_right" (defScope sRight) s.heap.objs.size f cdv)) := hr.mono (by omega)
    have hr1 : Room 1 (A.deeper (envOfC "_law_right" (defScope sRight) s.heap.objs.size f cdv)) := hr.mono (by omega)
    refine ⟨_, pss_cons (ps_asg (pe_call GRo hr (by rfl) gRo kRo bRo .nil pass0 (pa_cons (pv 0) pa_nil)) (pg_tup (by rfl) (pgs_cons (pg_name (i := 1) scRight.nd rfl (.inl rfl)) (pgs_cons (pg_name (i := 2) scRight.nd rfl (.inl rfl)) pgs_nil))))
      (pss_cons (ps_asg (pe_tup (pa_cons (pe_callB (cr_sortX rfl) (by rfl) mSo (by decide +kernel) (pa_cons (pe_callTy (cr_setX rfl) (by rfl) mSe (by decide +kernel) (pa_cons (pv 1) pa_nil)) pa_nil)) (pa_cons (pe_callB (cr_sortX rfl) (by rfl) mSo (by decide +kernel) (pa_cons (pe_callTy (cr_setX rfl) (by rfl) mSe (by decide +kernel) (pa_cons (pv 2) pa_nil)) pa_nil)) pa_nil))) (pg_tup (by rfl) (pgs_cons (pg_name (i := 3) scRight.nd rfl (.inr rfl)) (pgs_cons (pg_name (i := 4) scRight.nd rfl (.inl rfl)) pgs_nil))))
      (pss_cons (ps_mid (ps_set (i := 5) scRight.nd rfl (.inl rfl) (pe_and (pe_cmpR op_le (pe_callB call_len_seq (by rfl) mLe PySem.boot_len (pa_cons (pv 3) pa_nil)) pe_int (nomark _)) (pe_and (pe_chain op_le op_le pe_int (pe_callB call_len_seq (by rfl) mLe PySem.boot_len (pa_cons (pv 4) pa_nil)) pe_int)
          (pe_one (pe_cmpR (op_eqD hu) (pe_lc (own := [("_law_one", 8)]) (g := gName 8) (tt := tTest (tOp (rIn K false) (tVar 8) (tVar 3))) (te := tVar 8) (by rfl) scRight.nd (pi_list (pv 4)) (blkOk_by (own := [("_law_one", 8)]) (N := nRight) (sc := defScope sRight) (by decide +kernel)) (fun _ _ _ _ _ => pg_name (i := 8) scRight.nd rfl (Or.inl rfl)) (fun _ _ _ _ _ => pts_one (pt_cmpR op_in_seq (pv 8) (pv 3) (by rfl))) (fun _ _ _ _ _ => pv 8)) (pe_lst pa_nil) (nomark _)))))))
      (pss_cons (ps_mid (ps_set (i := 6) scRight.nd rfl (.inr rfl) (pe_call GMa hr (by rfl) gMa kMa bMa .nil pass0 (pa_cons (pe_callTy call_tuple_of (by rfl) mTu (by decide +kernel) (pa_cons (pv 1) pa_nil)) (pa_cons (pe_callTy call_tuple_of (by rfl) mTu (by decide +kernel) (pa_cons (pv 2) pa_nil)) pa_nil)))))
      (pss_cons (ps_mid (ps_if (PW.pt (pw_or (pt_cmpR (op_or2 op_eq (op_eqO M.oE M.gE hr1 pass0)) (pv 6) pe_str (nomark _)) (pw_or1 (pt_cmpR op_ne (pe_callB call_repr_bl (by rfl) mRe (by decide +kernel) (pa_cons (pe_cmpR op_notN (pv 6) pe_non (nomark _)) pa_nil)) (pe_callB call_repr_bl (by rfl) mRe (by decide +kernel) (pa_cons (pv 5) pa_nil)) (nomark _)))))
          (pss_one (ps_ret pe_bl)) pss_nil))
      (pss_cons (ps_if (pt_cmpR (op_neD hu) (pe_lc (own := [("_law_pair", 9)]) (g := gName 9) (tt := tTest (tOp rNN (tCall (spMade K C) [] E0 (tCons (tOp (rIxT K) (tVar 9) (tC (.int 0))) (tCons (tOp (rIxT K) (tVar 9) (tC (.int 1))) tNil))) (tC .non))) (te := tC (.int 1)) (by rfl) scRight.nd (pi_list (pe_lst (pa_cons (pe_tup (pa_cons (pe_callTy call_list_of (by rfl) mLi (by decide +kernel) (pa_cons (pv 1) pa_nil)) (pa_cons (pe_callTy call_tuple_of (by rfl) mTu (by decide +kernel) (pa_cons (pv 2) pa_nil)) pa_nil))) (pa_cons (pe_tup (pa_cons (pe_callTy call_tuple_of (by rfl) mTu (by decide +kernel) (pa_cons (pv 1) pa_nil)) (pa_cons (pe_callTy call_list_of (by rfl) mLi (by decide +kernel) (pa_cons (pv 2) pa_nil)) pa_nil))) (pa_cons (pe_tup (pa_cons pe_non (pa_cons (pe_callTy call_tuple_of (by rfl) mTu (by decide +kernel) (pa_cons (pv 2) pa_nil)) pa_nil))) pa_nil))))) (blkOk_by (own := [("_law_pair", 9)]) (N := nRight) (sc := defScope sRight) (by decide +kernel)) (fun _ _ _ _ _ => pg_name (i := 9) scRight.nd rfl (Or.inl rfl)) (fun _ _ _ _ _ => pts_one (pt_cmpR op_nn (pe_call GMa hr (by rfl) gMa kMa bMa .nil pass0 (pa_cons (pe_ix ix_tup (pv 9) pe_int (fun _ _ => rfl)) (pa_cons (pe_ix ix_tup (pv 9) pe_int (fun _ _ => rfl)) pa_nil))) pe_non (nomark _))) (fun _ _ _ _ _ => pe_int)) (pe_lst pa_nil) (nomark _)) (pss_one (ps_ret pe_bl)) pss_nil)
      (pss_cons (ps_set (i := 7) scRight.nd rfl (.inl rfl) (pe_call GOd hr (by rfl) gOd kOd bOd .nil pass0 (pa_cons (pv 0) pa_nil)))
      (pss_cons (ps_if (PW.pt (pw_or (pt_cmpR op_nn (pe_call GMa hr (by rfl) gMa kMa bMa .nil pass0 (pa_cons (pe_callTy call_tuple_of (by rfl) mTu (by decide +kernel) (pa_cons (pe_op op_cat (pv 1) (pe_lst (pa_cons (pv 7) pa_nil))) pa_nil)) (pa_cons (pe_callTy call_tuple_of (by rfl) mTu (by decide +kernel) (pa_cons (pv 2) pa_nil)) pa_nil))) pe_non (nomark _)) (pw_or1 (pt_cmpR op_nn (pe_call GMa hr (by rfl) gMa kMa bMa .nil pass0 (pa_cons (pe_tup pa_nil) (pa_cons (pe_tup (pa_cons (pv 7) pa_nil)) pa_nil))) pe_non (nomark _))))) (pss_one (ps_ret pe_bl)) pss_nil)
      (pss_cons (ps_if (PW.pt (pw_or (pt_cmpR op_notBl (pe_call GNa hr (by rfl) gNa kNa bNa .nil pass0 (pa_cons (pv 7) pa_nil)) pe_bl (nomark _)) (pw_or1 (pt_cmpR (op_neD hu) (pe_lc (own := [("_law_name", 10)]) (g := gName 10) (tt := tTest (tOp rNotB (tCall (spName K) [] E0 (tCons (tVar 10) tNil)) (tC (.bl true)))) (te := tVar 10) (by rfl) scRight.nd (pi_list (pe_op op_cat (pv 1) (pv 2))) (blkOk_by (own := [("_law_name", 10)]) (N := nRight) (sc := defScope sRight) (by decide +kernel)) (fun _ _ _ _ _ => pg_name (i := 10) scRight.nd rfl (Or.inl rfl)) (fun _ _ _ _ _ => pts_one (pt_cmpR op_notBl (pe_call GNa hr (by rfl) gNa kNa bNa .nil pass0 (pa_cons (pv 10) pa_nil)) pe_bl (nomark _))) (fun _ _ _ _ _ => pv 10)) (pe_lst pa_nil) (nomark _))))) (pss_one (ps_ret pe_bl)) pss_nil)
      (pss_cons (ps_if (pt_cmpR op_isN (pv 6) pe_non (nomark _)) (pss_one (ps_ret pe_bl)) pss_nil)
      (pss_cons (ps_if (pt_cmpR (op_neD hu) (pe_lst (pa_cons (pe_prop (pv 6) L.cl pMk GMk hr2 bMk .nil pass0 (by rfl)) (pa_cons (pe_prop (pv 6) L.cl pKi GKi hr2 bKi .nil pass0 (by rfl)) (pa_cons (pe_callB (call_lenO M.oL M.gL hr2 pass0) (by rfl) mLe PySem.boot_len (pa_cons (pv 6) pa_nil)) pa_nil)))) (pe_lst (pa_cons (pe_callTy call_tuple_of (by rfl) mTu (by decide +kernel) (pa_cons (pv 3) pa_nil)) (pa_cons (pe_callTy call_tuple_of (by rfl) mTu (by decide +kernel) (pa_cons (pv 4) pa_nil)) (pa_cons (pe_op op_add (pe_callB call_len_seq (by rfl) mLe PySem.boot_len (pa_cons (pv 3) pa_nil)) (pe_callB call_len_seq (by rfl) mLe PySem.boot_len (pa_cons (pv 4) pa_nil))) pa_nil)))) (nomark _)) (pss_one (ps_ret pe_bl)) pss_nil)
      (pss_cons (ps_if (pt_cmpR op_ne (pe_callTy (call_strO M.oS M.gS hr3 pass0) (by rfl) mSt (by decide +kernel) (pa_cons (pv 6) pa_nil)) (pe_op op_add_str (pe_op op_add_str (pe_op op_add_str (pe_op op_add_str pe_str (pe_callTy call_str_int (by rfl) mSt (by decide +kernel) (pa_cons (pe_callB call_len_seq (by rfl) mLe PySem.boot_len (pa_cons (pv 3) pa_nil)) pa_nil))) pe_str) (pe_callTy call_str_int (by rfl) mSt (by decide +kernel) (pa_cons (pe_callB call_len_seq (by rfl) mLe PySem.boot_len (pa_cons (pv 4) pa_nil)) pa_nil))) pe_str) (nomark _)) (pss_one (ps_ret pe_bl)) pss_nil)
      (pss_cons (ps_if (PW.pt (pw_or (pt_cmpR (op_neD hu) (pe_lc (own := [("_law_name", 10)]) (g := gName 10) (tt := tTest (tOp (rInO C (spHas K C) E0 true) (tVar 10) (tVar 6))) (te := tVar 10) (by rfl) scRight.nd (pi_list (pe_op op_cat (pv 3) (pv 4))) (blkOk_by (own := [("_law_name", 10)]) (N := nRight) (sc := defScope sRight) (by decide +kernel)) (fun _ _ _ _ _ => pg_name (i := 10) scRight.nd rfl (Or.inl rfl)) (fun _ _ _ _ _ => pts_one (pt_cmpR (op_notInO M.oH M.gH hr1 pass0) (pv 10) (pv 6) (by rfl))) (fun _ _ _ _ _ => pv 10)) (pe_lst pa_nil) (nomark _)) (pw_or (pt_cmpR (op_inO M.oH M.gH hr1 pass0) (pv 7) (pv 6) (by rfl)) (pw_or1 (pt_cmpR (op_inO M.oH M.gH hr1 pass0) pe_str (pv 6) (by rfl)))))) (pss_one (ps_ret pe_bl)) pss_nil)
      (pss_cons (ps_if (PW.pt (pw_or (pt_not (pt_cmpR (op_eqO M.oE M.gE hr1 pass0) (pv 6) (pe_call GMa hr (by rfl) gMa kMa bMa .nil pass0 (pa_cons (pe_callTy call_tuple_of (by rfl) mTu (by decide +kernel) (pa_cons (pv 3) pa_nil)) (pa_cons (pe_callTy call_tuple_of (by rfl) mTu (by decide +kernel) (pa_cons (pv 4) pa_nil)) pa_nil))) (nomark _))) (pw_or1 (pt_cmpR (op_neO M.oE M.ne M.mo M.gE hr2 pass0) (pv 6) (pe_call GMa hr (by rfl) gMa kMa bMa .nil pass0 (pa_cons (pe_callTy call_tuple_of (by rfl) mTu (by decide +kernel) (pa_cons (pe_revL (pv 1)) pa_nil)) (pa_cons (pe_callTy call_tuple_of (by rfl) mTu (by decide +kernel) (pa_cons (pe_revL (pv 2)) pa_nil)) pa_nil))) (nomark _))))) (pss_one (ps_ret pe_bl)) pss_nil)
      (pss_one (ps_ret (pe_ifExp (pt_cmpR (op_neD hu) (pv 3) (pe_lst pa_nil) (nomark _)) (pe_cmpR (op_neO M.oE M.ne M.mo M.gE hr2 pass0) (pv 6) (pe_cmeth (E := E0) (pe_glob (v := .ref C) rfl gLa rfl) cr cm (GO.raw bO .nil) hr (passes_call takes0 (fun _ _ _ _ h => h)) (pa_cons (pe_callTy call_tuple_of (by rfl) mTu (by decide +kernel) (pa_cons (pe_slice sl_list (pv 3) (po_some pe_int) po_none) pa_nil)) (pa_cons (pe_callTy call_tuple_of (by rfl) mTu (by decide +kernel) (pa_cons (pv 4) pa_nil)) pa_nil))) (nomark _)) (pe_not (pe_cmpR (op_eqO M.oE M.gE hr1 pass0) (pv 6) (pv 7) (nomark _))))))))))))))))))), ?_⟩
    -- rows
    refine ⟨.ref d, rfl, d, rfl, hd, fun p pm pk ms ks H1 two ep => ⟨p, _, rfl, tup_of ep, rfl, _, _, rfl, _, _, rfl, rfl, ?_⟩⟩
    obtain ⟨t1, t2, t3, t4, t5, t6, t7, t8, t9, t10⟩ := two
    have fl1 := firsts_len ms
    have fl2 := firsts_len ks
    refine ⟨.ref pm, rfl, pm, ms, rfl, .inl (lst_of t5), by omega, fun a1 n1 => ⟨a1, _, rfl, upd_same, by omega, fun ys ph e1 so1 n2 => ?_⟩⟩
    have ey : ys = canon ms := canon_is e1 so1
    subst ey
    have s1 : Same H1 (upd (upd H1 a1 (SetX w a1 (firsts ms))) ph (.lst ((canon ms).map V.str))) := (same_new n1).new n2
    have f1 : H1 ph = none := (same_new n1).free n2
    refine ⟨.ref pk, rfl, pk, ks, rfl, .inl (lst_of (s1 _ _ t6)), by omega, fun a2 n3 => ⟨a2, _, rfl, upd_same, by omega, fun ys pl e2 so2 n4 => ?_⟩⟩
    have ey : ys = canon ks := canon_is e2 so2
    subst ey
    refine ⟨by show 2 ≤ sizeLine; decide, fun tp n5 => ⟨tp, _, rfl, tup_of upd_same, rfl, _, _, rfl, _, _, rfl, rfl, ?_⟩⟩
    have s2 := ((same_new n3).new n4).new (o := .tup [.ref ph, .ref pl]) n5
    have s3 := s1.trans s2
    have h2 := (same_new (o := .tup [.ref ph, .ref pl]) n5) _ _ (upd_same : _ = some (HO.lst ((canon ks).map V.str)))
    have rw0 : Rw d pm pk ph pl ms ks H _ := ⟨t1.trans s3.nr, t2.same s3, t3, t4, Dice.ne t2 f1, Dice.ne t2 ((s1.trans (same_new n3)).free n4), s3 _ _ t5, s3 _ _ t6, s2 _ _ upd_same, h2, t7, t8, t9, t10⟩
    clear h2 s3 s2
    generalize upd (upd (upd (upd (upd H1 a1 (SetX w a1 (firsts ms))) ph (.lst ((canon ms).map V.str))) a2 (SetX w a2 (firsts ks))) pl (.lst ((canon ks).map V.str))) tp (.tup [.ref ph, .ref pl]) = H2 at rw0
    clear n1 n2 n3 n4 n5 s1 f1 t5 t6 t1 t2 ep
    -- can_be
    refine ⟨fun σ H' => σ = [some (.ref d), some (.ref pm), some (.ref pk), some (.ref ph), some (.ref pl), some (.bl (langOk ms ks)), none, none, none, none, none] ∧ Rw d pm pk ph pl ms ks H H', ?_, ?_⟩
    · refine ⟨.ref ph, rfl, ph, _, rfl, .inl (lst_of rw0.hh), _, 8, rfl, rfl, _, rfl, ?_⟩
      rw [List.length_map]
      refine ite2 (fun c1 => ?_) (fun c1 => ?_)
      rotate_left
      · refine ⟨?_, rw0⟩
        have e : langOk ms ks = false := by
          cases hk : langOk ms ks with
          | false => rfl
          | true =>
            obtain ⟨g1, _⟩ := ok_parts hk
            exact absurd (decide_eq_true (show ((canon ms).length : Int) ≤ 8 by omega)) c1
        rw [e]
        rfl
      · have c1' : ((canon ms).length : Int) ≤ 8 := of_decide_eq_true c1
        refine ⟨.ref pl, rfl, pl, _, rfl, .inl (lst_of rw0.hl), 1, _, rfl, rfl, _, rfl, ?_⟩
        rw [List.length_map]
        have no : ¬ (1 ≤ (canon ks).length ∧ (canon ks).length ≤ 4) → langOk ms ks = false := fun c => by
          cases hk : langOk ms ks with
          | false => rfl
          | true =>
            obtain ⟨_, g2, g3, _⟩ := ok_parts hk
            exact absurd ⟨g2, g3⟩ c
        refine ite2 (fun c2 => ?_) (fun c2 => ⟨false, rfl, iteF ⟨?_, rw0⟩⟩)
        rotate_left
        · rw [no fun c => c2 (decide_eq_true (by omega))]
          rfl
        · have c2' : (1 : Int) ≤ ((canon ks).length : Int) := of_decide_eq_true c2
          refine ⟨_, 4, rfl, rfl, _, rfl, ?_⟩
          refine ite2 (fun c3 => ?_) (fun c3 => ⟨?_, rw0⟩)
          rotate_left
          · rw [no fun c => c3 (decide_eq_true (by omega))]
            rfl
          · have c3' : ((canon ks).length : Int) ≤ 4 := of_decide_eq_true c3
            refine ⟨.ref pl, rfl, pl, rfl, ⟨_, lst_of rw0.hl⟩, fun D nD => lc_on (h := V.str) (xs := canon ks) (by have := walk_list (K := K) (a := pl) (xs := (canon ks).map V.str); rw [List.length_map] at this; exact this) rfl (fun z => inV (.str z) ((canon ms).map V.str)) V.str nD (fun H5 s5 => lst_of (s5 _ _ rw0.hl)) (by omega)
              (fun z hz H5 s5 Q' q' => ⟨_, rfl, _, rfl, ph, _, rfl, .inl (lst_of (s5 _ _ rw0.hh)), rfl, flat_strs _, _, rfl, q' H5 (Same.refl H5)⟩) (fun z hz _ H5 s5 Q' q' => ⟨_, rfl, q' H5 (Same.refl H5)⟩) fun H5 s5 e5 => ?_⟩
            refine eq_nil (lst_of e5) (fun z hz => rw0.ik.nms.canon z (List.mem_filter.mp hz).1) fun H6 s6 => ⟨?_, rw0.same (s5.trans s6)⟩
            have e : decide ((canon ks).filter (fun z => inV (.str z) ((canon ms).map V.str)) = []) = langOk ms ks := by
              have e1 : langOk ms ks = !(canon ks).any fun k => decide (k ∈ canon ms) := by
                unfold langOk
                rw [decide_eq_true (show (canon ms).length ≤ 8 by omega), decide_eq_true (show 1 ≤ (canon ks).length by omega), decide_eq_true (show (canon ks).length ≤ 4 by omega)]
                rfl
              rw [e1, show (fun z => inV (.str z) ((canon ms).map V.str)) = (fun z => decide (z ∈ canon ms)) from funext fun z => inV_strs z _]
              cases ha : (canon ks).any fun k => decide (k ∈ canon ms) with
              | false =>
                refine decide_eq_true (List.filter_eq_nil_iff.mpr fun z hz c => ?_)
                exact (List.any_eq_false.mp ha z hz) c
              | true =>
                refine decide_eq_false fun c => ?_
                obtain ⟨z, hz, c2⟩ := List.any_eq_true.mp ha
                exact (List.filter_eq_nil_iff.mp c z hz) c2
            rw [e]
            rfl
    rintro σ' H3 ⟨rfl, rw1⟩
    clear rw0
    -- found
    refine ⟨fun σ H' => ∃ fv : V, σ = [some (.ref d), some (.ref pm), some (.ref pk), some (.ref ph), some (.ref pl), some (.bl (langOk ms ks)), some fv, none, none, none, none] ∧ Rw d pm pk ph pl ms ks H H' ∧ Fd C ms ks fv H', ?_, ?_⟩
    · have lm := rw1.lm
      have lk := rw1.lk
      refine ⟨.ref pm, rfl, pm, _, rfl, .inl ⟨lst_of rw1.hm, fun a na => ?_⟩⟩
      have s4 : Same H3 (upd H3 a (.tup (ms.map V.str))) := same_new na
      refine ⟨.ref pk, rfl, pk, _, rfl, .inl ⟨lst_of (s4 _ _ rw1.hk), fun b nb => ?_⟩⟩
      have s5 : Same (upd H3 a (.tup (ms.map V.str))) (upd (upd H3 a (.tup (ms.map V.str))) b (.tup (ks.map V.str))) := same_new nb
      refine ⟨_, _, rfl, made_names (tup_of (s5 _ _ upd_same)) (tup_of upd_same) rw1.im.nms rw1.ik.nms (by omega) (by omega) (fun c H' s' => ⟨_, rfl, rw1.same ((s4.trans s5).trans s'), .inl ⟨rfl, c⟩⟩) (fun c x H' s' nx la => ⟨_, rfl, rw1.same ((s4.trans s5).trans s'), .inr ⟨x, rfl, la, c⟩⟩)⟩
    rintro σ' H4 ⟨fv, rfl, rw2, fd2⟩
    clear rw1 H3
    have nmC : Nms (canon ms) := rw2.im.nms.canon
    have nkC : Nms (canon ks) := rw2.ik.nms.canon
    -- found == 'odd'
    refine ⟨fun σ H' => σ = [some (.ref d), some (.ref pm), some (.ref pk), some (.ref ph), some (.ref pl), some (.bl (langOk ms ks)), some fv, none, none, none, none] ∧ H' = H4, ?_, ?_⟩
    · rcases fd2 with ⟨rfl, e⟩ | ⟨x, rfl, la, e⟩
      · refine ⟨.non, rfl, .inl ⟨rfl, false, rfl, iteF ?_⟩⟩
        refine ⟨.non, rfl, rfl, _, rfl, .bl (langOk ms ks), rfl, _, rfl, rfl, _, rfl, ?_⟩
        exact ite2 (fun c => absurd c (by rw [e]; decide +kernel)) (fun _ => ⟨rfl, rfl⟩)
      · have la' := la
        obtain ⟨dx, fs, pm', pk', h1, _⟩ := la'
        refine ⟨.ref x, rfl, .inr ⟨x, dx, fs, .type "str", rfl, h1, TyL.of (.base (.str _)), T.n3, x, .str "odd", canon ms, canon ks, rfl, la, nmC, nkC, .inl ⟨⟨"str", .base (.str _), T.k3⟩, false, rfl, false, rfl, iteF ?_⟩⟩⟩
        refine ⟨.ref x, rfl, rfl, _, rfl, .bl (langOk ms ks), rfl, _, rfl, rfl, _, rfl, ?_⟩
        exact ite2 (fun c => absurd c (by rw [e, show decide (V.ref x = V.non) = false from rfl]; decide +kernel)) (fun _ => ⟨rfl, rfl⟩)
    rintro σ' H' ⟨rfl, rfl⟩
    -- marks or kinds that are no tuple
    refine ⟨.ref pm, rfl, pm, _, rfl, .inl (lst_of rw2.hm), fun l1 n1 => ?_⟩
    have e5 : (upd H' l1 (.lst (ms.map V.str))) l1 = some (.lst (ms.map V.str)) := upd_same
    have s5 : Same H' (upd H' l1 (.lst (ms.map V.str))) := same_new n1
    generalize upd H' l1 (.lst (ms.map V.str)) = H5 at *
    refine ⟨.ref pk, rfl, pk, _, rfl, .inl ⟨lst_of (s5 _ _ rw2.hk), fun t1 m1 => ?_⟩⟩
    have e6 : (upd H5 t1 (.tup (ks.map V.str))) t1 = some (.tup (ks.map V.str)) := upd_same
    have s6 : Same H5 (upd H5 t1 (.tup (ks.map V.str))) := same_new m1
    generalize upd H5 t1 (.tup (ks.map V.str)) = H6 at *
    refine ⟨by show 2 ≤ sizeLine; decide, fun u1 v1 => ?_⟩
    have e7 : (upd H6 u1 (.tup [.ref l1, .ref t1])) u1 = some (.tup [.ref l1, .ref t1]) := upd_same
    have s7 : Same H6 (upd H6 u1 (.tup [.ref l1, .ref t1])) := same_new v1
    generalize upd H6 u1 (.tup [.ref l1, .ref t1]) = H7 at *
    have s57 := s5.trans (s6.trans s7)
    refine ⟨.ref pm, rfl, pm, _, rfl, .inl ⟨lst_of (s57 _ _ rw2.hm), fun t2 m2 => ?_⟩⟩
    have e8 : (upd H7 t2 (.tup (ms.map V.str))) t2 = some (.tup (ms.map V.str)) := upd_same
    have s8 : Same H7 (upd H7 t2 (.tup (ms.map V.str))) := same_new m2
    generalize upd H7 t2 (.tup (ms.map V.str)) = H8 at *
    refine ⟨.ref pk, rfl, pk, _, rfl, .inl (lst_of ((s57.trans s8) _ _ rw2.hk)), fun l2 n2 => ?_⟩
    have e9 : (upd H8 l2 (.lst (ks.map V.str))) l2 = some (.lst (ks.map V.str)) := upd_same
    have s9 : Same H8 (upd H8 l2 (.lst (ks.map V.str))) := same_new n2
    generalize upd H8 l2 (.lst (ks.map V.str)) = H9 at *
    refine ⟨by show 2 ≤ sizeLine; decide, fun u2 v2 => ?_⟩
    have e10 : (upd H9 u2 (.tup [.ref t2, .ref l2])) u2 = some (.tup [.ref t2, .ref l2]) := upd_same
    have s10 : Same H9 (upd H9 u2 (.tup [.ref t2, .ref l2])) := same_new v2
    generalize upd H9 u2 (.tup [.ref t2, .ref l2]) = H10 at *
    have s5a := s57.trans (s8.trans (s9.trans s10))
    refine ⟨.ref pk, rfl, pk, _, rfl, .inl ⟨lst_of (s5a _ _ rw2.hk), fun t3 m3 => ?_⟩⟩
    have e11 : (upd H10 t3 (.tup (ks.map V.str))) t3 = some (.tup (ks.map V.str)) := upd_same
    have s11 : Same H10 (upd H10 t3 (.tup (ks.map V.str))) := same_new m3
    generalize upd H10 t3 (.tup (ks.map V.str)) = H11 at *
    refine ⟨by show 2 ≤ sizeLine; decide, fun u3 v3 => ?_⟩
    have e12 : (upd H11 u3 (.tup [.non, .ref t3])) u3 = some (.tup [.non, .ref t3]) := upd_same
    have s12 : Same H11 (upd H11 u3 (.tup [.non, .ref t3])) := same_new v3
    generalize upd H11 u3 (.tup [.non, .ref t3]) = H12 at *
    refine ⟨by show 3 ≤ sizeLine; decide, fun lp np => ?_⟩
    have e13 : (upd H12 lp (.lst [.ref u1, .ref u2, .ref u3])) lp = some (.lst [.ref u1, .ref u2, .ref u3]) := upd_same
    have s13 : Same H12 (upd H12 lp (.lst [.ref u1, .ref u2, .ref u3])) := same_new np
    generalize upd H12 lp (.lst [.ref u1, .ref u2, .ref u3]) = H13 at *
    have s1213 := s12.trans s13
    have s813 := s8.trans (s9.trans (s10.trans (s11.trans s1213)))
    refine ⟨lp, rfl, ⟨_, lst_of e13⟩, fun D nD => lc_on (h := fun x : V => x) (xs := [.ref u1, .ref u2, .ref u3]) (by rw [List.map_id']; exact walk_list) rfl (fun _ => false) (fun x => x) nD (fun H5 s5 => lst_of (s5 _ _ e13)) (by show 3 < 100000; decide) (fun y hy HH sH Q' q' => ?_) (fun y hy c => by cases c) fun H14 s14 e14 => ?_⟩
    · have lm := rw2.lm
      simp only [List.mem_cons, List.not_mem_nil, or_false] at hy
      rcases hy with rfl | rfl | rfl
      · have z := tup_of (K := K) (sH _ _ (s813 _ _ e7))
        exact ⟨.ref u1, rfl, u1, _, 0, _, rfl, rfl, z, rfl, .ref u1, rfl, u1, _, 1, _, rfl, rfl, z, rfl, _, _, rfl, made_noM (no_list (sH _ _ (s813 _ _ (s7 _ _ (s6 _ _ e5))))) fun H' s' => ⟨rfl, false, rfl, q' H' s'⟩⟩
      · have z := tup_of (K := K) (sH _ _ (s1213 _ _ (s11 _ _ e10)))
        have z2 := sH _ _ (s1213 _ _ (s11 _ _ (s10 _ _ e9)))
        exact ⟨.ref u2, rfl, u2, _, 0, _, rfl, rfl, z, rfl, .ref u2, rfl, u2, _, 1, _, rfl, rfl, z, rfl, _, _, rfl, made_noK (tup_of (sH _ _ (s1213 _ _ (s11 _ _ (s10 _ _ (s9 _ _ e8)))))) rw2.im.nms (by omega) (fun H' s' => no_list (s' _ _ z2)) fun H' s' => ⟨rfl, false, rfl, q' H' s'⟩⟩
      · have z := tup_of (K := K) (sH _ _ (s13 _ _ e12))
        exact ⟨.ref u3, rfl, u3, _, 0, _, rfl, rfl, z, rfl, .ref u3, rfl, u3, _, 1, _, rfl, rfl, z, rfl, _, _, rfl, made_noM no_non fun H' s' => ⟨rfl, false, rfl, q' H' s'⟩⟩
    refine ne_nil (zs := []) (lst_of e14) (fun z hz => by cases hz) fun H15 s15 => ⟨false, rfl, iteF ?_⟩
    have sAll : Same H' H15 := s57.trans (s813.trans (s14.trans s15))
    have rw3 := rw2.same sAll
    have fd3 := fd2.same sAll
    clear sAll s813 s1213 s57 s5a s5 s6 s7 s8 s9 s10 s11 s12 s13 s14 s15 e5 e6 e7 e8 e9 e10 e11 e12 e13 e14 n1 m1 v1 m2 n2 v2 m3 v3 np nD rw2 fd2
    clear H14 H13 H12 H11 H10 H9 H8 H7 H6 H5 H'
    -- odd
    refine ⟨.ref d, rfl, d, rfl, rw3.dc, fun x H7 nr7 dc7 ov => ?_⟩
    have rw4 := rw3.roll nr7 dc7
    have fd4 := fd3.roll rw3.dc nr7
    clear rw3 fd3 nr7 dc7 H15
    have lm := rw4.lm
    have lk := rw4.lk
    -- an odd one among the marks, among the kinds
    refine ⟨.ref pm, rfl, x, rfl, by show 1 ≤ sizeLine; decide, fun l1 n1 => ?_⟩
    have e8 : (upd H7 l1 (.lst [x])) l1 = some (.lst [x]) := upd_same
    have s8 : Same H7 (upd H7 l1 (.lst [x])) := same_new n1
    generalize upd H7 l1 (.lst [x]) = H8 at *
    refine ⟨pm, l1, _, _, rfl, rfl, s8 _ _ rw4.hm, e8, ?_, fun l2 n2 => ?_⟩
    · rw [List.length_map]
      exact Nat.le_of_lt (small1000 (by show ms.length + 1 ≤ 1000; omega))
    have e9 : (upd H8 l2 (.lst (ms.map V.str ++ [x]))) l2 = some (.lst (ms.map V.str ++ [x])) := upd_same
    have s9 : Same H8 (upd H8 l2 (.lst (ms.map V.str ++ [x]))) := same_new n2
    generalize upd H8 l2 (.lst (ms.map V.str ++ [x])) = H9 at *
    refine ⟨l2, _, rfl, .inl ⟨lst_of e9, fun t1 m1 => ?_⟩⟩
    have e10 : (upd H9 t1 (.tup (ms.map V.str ++ [x]))) t1 = some (.tup (ms.map V.str ++ [x])) := upd_same
    have s10 : Same H9 (upd H9 t1 (.tup (ms.map V.str ++ [x]))) := same_new m1
    generalize upd H9 t1 (.tup (ms.map V.str ++ [x])) = H10 at *
    have s810 := s8.trans (s9.trans s10)
    refine ⟨.ref pk, rfl, pk, _, rfl, .inl ⟨lst_of (s810 _ _ rw4.hk), fun t2 m2 => ?_⟩⟩
    have e11 : (upd H10 t2 (.tup (ks.map V.str))) t2 = some (.tup (ks.map V.str)) := upd_same
    have s11 : Same H10 (upd H10 t2 (.tup (ks.map V.str))) := same_new m2
    generalize upd H10 t2 (.tup (ks.map V.str)) = H11 at *
    refine ⟨_, _, rfl, made_oddM (tup_of (s11 _ _ e10)) rw4.im.nms (by omega) (ov.same (s810.trans s11)) fun H12 s12 => ⟨rfl, false, rfl, iteF ?_⟩⟩
    refine ⟨by show 0 ≤ sizeLine; decide, fun t3 m3 => ?_⟩
    have e13 : (upd H12 t3 (.tup [])) t3 = some (.tup []) := upd_same
    have s13 : Same H12 (upd H12 t3 (.tup [])) := same_new m3
    generalize upd H12 t3 (.tup []) = H13 at *
    refine ⟨x, rfl, by show 1 ≤ sizeLine; decide, fun t4 m4 => ?_⟩
    have e14 : (upd H13 t4 (.tup [x])) t4 = some (.tup [x]) := upd_same
    have s14 : Same H13 (upd H13 t4 (.tup [x])) := same_new m4
    generalize upd H13 t4 (.tup [x]) = H14 at *
    have sA := (s810.trans s11).trans (s12.trans (s13.trans s14))
    refine ⟨_, _, rfl, made_oddK (tup_of (s14 _ _ e13)) (tup_of e14) (ov.same sA) fun H15 s15 => ⟨rfl, false, rfl, iteF ?_⟩⟩
    have sB := sA.trans s15
    have rw5 := rw4.same sB
    have fd5 := fd4.same sB
    have ov5 := ov.same sB
    clear rw4 fd4 ov sA sB s810 s8 s9 s10 s11 s12 s13 s14 s15 e8 e9 e10 e11 e13 e14 n1 n2 m1 m2 m3 m4
    clear H14 H13 H12 H11 H10 H9 H8 H7
    -- names and no names
    refine ⟨x, rfl, x, rfl, ov5.some1, .inr ov5.isN, fun H16 s16 => ⟨_, false, rfl, rfl, _, rfl, ?_⟩⟩
    refine ite2 (fun c => absurd c (by rw [ov5.isN]; decide)) (fun _ => ?_)
    have rw6 := rw5.same s16
    have fd6 := fd5.same s16
    have ov6 := ov5.same s16
    clear rw5 fd5 ov5 s16
    refine ⟨.ref pm, rfl, .ref pk, rfl, pm, pk, _, _, rfl, rfl, rw6.hm, rw6.hk, ?_, fun lc nlc => ?_⟩
    · rw [List.length_map, List.length_map]
      exact Nat.le_of_lt (small1000 (by omega))
    rw [← List.map_append]
    have e17 : (upd H16 lc (.lst ((ms ++ ks).map V.str))) lc = some (.lst ((ms ++ ks).map V.str)) := upd_same
    have s17 : Same H16 (upd H16 lc (.lst ((ms ++ ks).map V.str))) := same_new nlc
    generalize upd H16 lc (.lst ((ms ++ ks).map V.str)) = H17 at *
    refine ⟨lc, rfl, ⟨_, lst_of e17⟩, fun D nD => lc_on (h := V.str) (xs := ms ++ ks) (by have := walk_list (K := K) (a := lc) (xs := (ms ++ ks).map V.str); rw [List.length_map] at this; exact this) rfl (fun _ => false) V.str nD (fun H5 s5 => lst_of (s5 _ _ e17)) (by rw [List.length_append]; omega) (fun z hz HH sH Q' q' => ?_) (fun y hy c => by cases c) fun H18 s18 e18 => ?_⟩
    · have nz : nameB z = true := by
        rcases List.mem_append.mp hz with h | h
        · exact rw6.im.nms z h
        · exact rw6.ik.nms z h
      have it := item_str (K := K) (H := HH) nz
      exact ⟨_, rfl, _, rfl, it.1, it.2, fun H' s' => ⟨_, true, rfl, rfl, false, by rw [show isN (.str z) = true from nz]; rfl, q' H' s'⟩⟩
    rw [show (ms ++ ks).filter (fun _ => false) = [] from List.filter_eq_nil_iff.mpr (fun _ _ c => by cases c)] at e18
    refine ne_nil (zs := []) (lst_of e18) (fun z hz => by cases hz) fun H19 s19 => ⟨false, rfl, iteF ?_⟩
    have sB := s17.trans (s18.trans s19)
    have rw7 := rw6.same sB
    have fd7 := fd6.same sB
    have ov7 := ov6.same sB
    clear rw6 fd6 ov6 sB s17 s18 s19 e17 e18 nlc nD
    clear H16 H17 H18
    -- None
    refine ⟨fv, rfl, rfl, _, rfl, ?_⟩
    rcases fd7 with ⟨rfl, e⟩ | ⟨y, rfl, la, ok⟩
    · exact ite2 (fun _ => q _ rw7.nr rw7.dc) (fun c => absurd rfl c)
    refine ite2 (fun c => by cases c) (fun _ => ?_)
    have la0 := la
    obtain ⟨dx, fs, qm, qk, g1, -, -, -, -⟩ := la0
    obtain ⟨o1, o2, o3, o4⟩ := ok_parts ok
    -- marks, kinds, len
    refine ⟨.ref y, rfl, y, dx, fs, rfl, g1, y, canon ms, canon ks, rfl, la, fun p1 h1 => ?_⟩
    refine ⟨.ref y, rfl, y, dx, fs, rfl, g1, y, canon ms, canon ks, rfl, la, fun p2 h2 => ?_⟩
    have h1' : H19 p1 = some (.tup ((canon ms).map V.str)) := h1
    have h2' : H19 p2 = some (.tup ((canon ks).map V.str)) := h2
    refine ⟨.ref y, rfl, y, dx, fs, rfl, g1, y, canon ms, canon ks, rfl, la, by omega, fun H20 s20 => ⟨_, rfl, by omega, by omega, ?_⟩⟩
    refine ⟨by show 3 ≤ sizeLine; decide, fun L1 n1 => ?_⟩
    have e21 : (upd H20 L1 (.lst [.ref p1, .ref p2, .int (((canon ms).length + (canon ks).length : Nat) : Int)])) L1 = some (.lst [.ref p1, .ref p2, .int (((canon ms).length + (canon ks).length : Nat) : Int)]) := upd_same
    have s21 : Same H20 (upd H20 L1 (.lst [.ref p1, .ref p2, .int (((canon ms).length + (canon ks).length : Nat) : Int)])) := same_new n1
    generalize upd H20 L1 (.lst [.ref p1, .ref p2, .int (((canon ms).length + (canon ks).length : Nat) : Int)]) = H21 at *
    have s221 := s20.trans s21
    refine ⟨.ref ph, rfl, ph, _, rfl, .inl ⟨lst_of (s221 _ _ rw7.hh), fun t1 m1 => ?_⟩⟩
    have e22 : (upd H21 t1 (.tup ((canon ms).map V.str))) t1 = some (.tup ((canon ms).map V.str)) := upd_same
    have s22 : Same H21 (upd H21 t1 (.tup ((canon ms).map V.str))) := same_new m1
    generalize upd H21 t1 (.tup ((canon ms).map V.str)) = H22 at *
    refine ⟨.ref pl, rfl, pl, _, rfl, .inl ⟨lst_of ((s221.trans s22) _ _ rw7.hl), fun t2 m2 => ?_⟩⟩
    have e23 : (upd H22 t2 (.tup ((canon ks).map V.str))) t2 = some (.tup ((canon ks).map V.str)) := upd_same
    have s23 : Same H22 (upd H22 t2 (.tup ((canon ks).map V.str))) := same_new m2
    generalize upd H22 t2 (.tup ((canon ks).map V.str)) = H23 at *
    have s203 := s221.trans (s22.trans s23)
    refine ⟨.ref ph, rfl, ph, _, rfl, .inl (lst_of (s203 _ _ rw7.hh)), .ref pl, rfl, pl, _, rfl, .inl (lst_of (s203 _ _ rw7.hl)), _, _, rfl, rfl, ?_⟩
    rw [List.length_map, List.length_map]
    refine ⟨by show 3 ≤ sizeLine; decide, fun L2 n2 => ?_⟩
    have e24 : (upd H23 L2 (.lst [.ref t1, .ref t2, .int (((canon ms).length : Int) + ((canon ks).length : Int))])) L2 = some (.lst [.ref t1, .ref t2, .int (((canon ms).length : Int) + ((canon ks).length : Int))]) := upd_same
    have s24 : Same H23 (upd H23 L2 (.lst [.ref t1, .ref t2, .int (((canon ms).length : Int) + ((canon ks).length : Int))])) := same_new n2
    generalize upd H23 L2 (.lst [.ref t1, .ref t2, .int (((canon ms).length : Int) + ((canon ks).length : Int))]) = H24 at *
    have s204 := s203.trans s24
    refine ⟨.list [.tuple (dS (canon ms)), .tuple (dS (canon ks)), .int _], .list [.tuple (dS (canon ms)), .tuple (dS (canon ks)), .int _], .lst (lst_of (s24 _ _ (s23 _ _ (s22 _ _ e21)))) (.cons (dp_tuple (tup_of (s204 _ _ h1'))) (.cons (dp_tuple (tup_of (s204 _ _ h2'))) (.cons (.int _) .nil))), .lst (lst_of e24) (.cons (dp_tuple (tup_of (s24 _ _ (s23 _ _ e22)))) (.cons (dp_tuple (tup_of (s24 _ _ e23))) (.cons (.int _) .nil))), shaped3 nmC nkC, shaped3 nmC nkC, _, rfl, ?_⟩
    rw [eqv3' (Int.natCast_add _ _)]
    refine iteF ?_
    have rw8 := rw7.same s204
    have la8 := la.same s204
    have ov8 := ov7.same s204
    have g8 := s204 _ _ g1
    clear rw7 la ov7 g1 s204 s203 s221 s20 s21 s22 s23 s24 e21 e22 e23 e24 h1 h2 h1' h2' n1 n2 m1 m2
    clear H19 H20 H21 H22 H23
    -- str
    have z1 := int_short (n := (canon ms).length) (by omega)
    have z2 := int_short (n := (canon ks).length) (by omega)
    refine ⟨.ref y, rfl, y, dx, fs, rfl, g8, y, canon ms, canon ks, rfl, la8, by omega, by omega, _, rfl, ?_⟩
    refine ⟨.ref ph, rfl, ph, _, rfl, .inl (lst_of rw8.hh), _, rfl, by rw [List.length_map]; exact int_small (by omega), _, _, rfl, rfl, ?_, ?_⟩
    · rw [List.length_map]
      exact sumA (show _ ≤ 100 by decide +kernel) z1
    rw [List.length_map]
    refine ⟨_, _, rfl, rfl, sumA (lenA (show _ ≤ 100 by decide +kernel) z1) (show _ ≤ 100 by decide +kernel), ?_⟩
    refine ⟨.ref pl, rfl, pl, _, rfl, .inl (lst_of rw8.hl), _, rfl, by rw [List.length_map]; exact int_small (by omega), _, _, rfl, rfl, ?_, ?_⟩
    · rw [List.length_map]
      exact sumA (lenA (lenA (show _ ≤ 100 by decide +kernel) z1) (show _ ≤ 100 by decide +kernel)) z2
    rw [List.length_map]
    refine ⟨_, _, rfl, rfl, sumA (lenA (lenA (lenA (show _ ≤ 100 by decide +kernel) z1) (show _ ≤ 100 by decide +kernel)) z2) (show _ ≤ 100 by decide +kernel), rfl, _, rfl, ?_⟩
    rw [text_is, decide_eq_true rfl]
    refine iteF ?_
    -- in
    refine ⟨.ref ph, rfl, .ref pl, rfl, ph, pl, _, _, rfl, rfl, rw8.hh, rw8.hl, ?_, fun lc nlc => ?_⟩
    · rw [List.length_map, List.length_map]
      exact Nat.le_of_lt (small1000 (by omega))
    rw [← List.map_append]
    have e25 : (upd H24 lc (.lst ((canon ms ++ canon ks).map V.str))) lc = some (.lst ((canon ms ++ canon ks).map V.str)) := upd_same
    have s25 : Same H24 (upd H24 lc (.lst ((canon ms ++ canon ks).map V.str))) := same_new nlc
    generalize upd H24 lc (.lst ((canon ms ++ canon ks).map V.str)) = H25 at *
    refine ⟨lc, rfl, ⟨_, lst_of e25⟩, fun D nD => lc_on (h := V.str) (xs := canon ms ++ canon ks) (by have := walk_list (K := K) (a := lc) (xs := (canon ms ++ canon ks).map V.str); rw [List.length_map] at this; exact this) rfl (fun _ => false) V.str nD (fun H5 s5 => lst_of (s5 _ _ e25)) (by rw [List.length_append]; omega) (fun z hz HH sH Q' q' => ?_) (fun y hy c => by cases c) fun H26 s26 e26 => ?_⟩
    · have sC := s25.trans sH
      have e : (hasB (.str z) (canon ms) || hasB (.str z) (canon ks)) = true := by
        rcases List.mem_append.mp hz with h | h
        · rw [show hasB (.str z) (canon ms) = true from decide_eq_true h]
          rfl
        · rw [show hasB (.str z) (canon ks) = true from decide_eq_true h, Bool.or_true]
      exact ⟨_, rfl, .ref y, rfl, y, dx, fs, rfl, sC _ _ g8, y, .str z, canon ms, canon ks, rfl, la8.same sC, .inl rfl, _, rfl, false, by rw [e]; rfl, q' _ (Same.refl _)⟩
    rw [show (canon ms ++ canon ks).filter (fun _ => false) = [] from List.filter_eq_nil_iff.mpr (fun _ _ c => by cases c)] at e26
    refine ne_nil (zs := []) (lst_of e26) (fun z hz => by cases hz) fun H27 s27 => ⟨false, rfl, iteF ?_⟩
    have sB := s25.trans (s26.trans s27)
    have rw9 := rw8.same sB
    have la9 := la8.same sB
    have ov9 := ov8.same sB
    have g9 := sB _ _ g8
    clear rw8 la8 ov8 g8 sB s25 s26 s27 e25 e26 nlc nD
    clear H24 H25 H26
    refine ⟨x, rfl, .ref y, rfl, y, dx, fs, rfl, g9, y, x, canon ms, canon ks, rfl, la9, ov9.box, _, rfl, false, by rw [ov9.hasB nmC, ov9.hasB nkC]; rfl, iteF ?_⟩
    refine ⟨.ref y, rfl, y, dx, fs, rfl, g9, y, .str "nothing", canon ms, canon ks, rfl, la9, .inl rfl, _, rfl, false, by rw [nothing_out rw9.im.canon, nothing_out rw9.ik.canon]; rfl, iteF ?_⟩
    -- ==
    have okC : langOk (canon ms) (canon ks) = true := by rw [ok_canon]; exact ok
    have okR : langOk ms.reverse ks.reverse = true := by rw [ok_rev]; exact ok
    refine ⟨.ref y, rfl, .ref ph, rfl, ph, _, rfl, .inl ⟨lst_of rw9.hh, fun t1 m1 => ?_⟩⟩
    have e28 : (upd H27 t1 (.tup ((canon ms).map V.str))) t1 = some (.tup ((canon ms).map V.str)) := upd_same
    have s28 : Same H27 (upd H27 t1 (.tup ((canon ms).map V.str))) := same_new m1
    generalize upd H27 t1 (.tup ((canon ms).map V.str)) = H28 at *
    refine ⟨.ref pl, rfl, pl, _, rfl, .inl ⟨lst_of (s28 _ _ rw9.hl), fun t2 m2 => ?_⟩⟩
    have e29 : (upd H28 t2 (.tup ((canon ks).map V.str))) t2 = some (.tup ((canon ks).map V.str)) := upd_same
    have s29 : Same H28 (upd H28 t2 (.tup ((canon ks).map V.str))) := same_new m2
    generalize upd H28 t2 (.tup ((canon ks).map V.str)) = H29 at *
    refine ⟨_, _, rfl, made_names (tup_of (s29 _ _ e28)) (tup_of e29) nmC nkC (by omega) (by omega) (fun c => by rw [okC] at c; cases c) (fun _ y2 H30 s30 ny2 la2 => ?_)⟩
    rw [canon_canon, canon_canon] at la2
    have sB := s28.trans (s29.trans s30)
    have rw10 := rw9.same sB
    have la10 := la9.same sB
    have ov10 := ov9.same sB
    have g10 := sB _ _ g9
    clear rw9 la9 ov9 g9 sB s28 s29 s30 e28 e29 ny2 m1 m2
    clear H27 H28 H29
    have la2' := la2
    obtain ⟨dx2, fs2, _, _, gg, -, -, -, -⟩ := la2'
    refine ⟨y, dx, fs, .ref C, rfl, g10, TyL.ins gg, T.nC, y, .ref y2, canon ms, canon ks, rfl, la10, nmC, nkC, .inr ⟨y2, canon ms, canon ks, rfl, la2, nmC, nkC, _, rfl, true, by rw [decide_eq_true rfl, decide_eq_true rfl]; rfl, iteF ?_⟩⟩
    refine ⟨.ref y, rfl, .ref pm, rfl, pm, _, rfl, lst_of rw10.hm, fun r1 k1 => ?_⟩
    rw [← List.map_reverse]
    have e31 : (upd H30 r1 (.lst (ms.reverse.map V.str))) r1 = some (.lst (ms.reverse.map V.str)) := upd_same
    have s31 : Same H30 (upd H30 r1 (.lst (ms.reverse.map V.str))) := same_new k1
    generalize upd H30 r1 (.lst (ms.reverse.map V.str)) = H31 at *
    refine ⟨r1, _, rfl, .inl ⟨lst_of e31, fun t1 m1 => ?_⟩⟩
    have e32 : (upd H31 t1 (.tup (ms.reverse.map V.str))) t1 = some (.tup (ms.reverse.map V.str)) := upd_same
    have s32 : Same H31 (upd H31 t1 (.tup (ms.reverse.map V.str))) := same_new m1
    generalize upd H31 t1 (.tup (ms.reverse.map V.str)) = H32 at *
    refine ⟨.ref pk, rfl, pk, _, rfl, lst_of ((s31.trans s32) _ _ rw10.hk), fun r2 k2 => ?_⟩
    rw [← List.map_reverse]
    have e33 : (upd H32 r2 (.lst (ks.reverse.map V.str))) r2 = some (.lst (ks.reverse.map V.str)) := upd_same
    have s33 : Same H32 (upd H32 r2 (.lst (ks.reverse.map V.str))) := same_new k2
    generalize upd H32 r2 (.lst (ks.reverse.map V.str)) = H33 at *
    refine ⟨r2, _, rfl, .inl ⟨lst_of e33, fun t2 m2 => ?_⟩⟩
    have e34 : (upd H33 t2 (.tup (ks.reverse.map V.str))) t2 = some (.tup (ks.reverse.map V.str)) := upd_same
    have s34 : Same H33 (upd H33 t2 (.tup (ks.reverse.map V.str))) := same_new m2
    generalize upd H33 t2 (.tup (ks.reverse.map V.str)) = H34 at *
    refine ⟨_, _, rfl, made_names (tup_of (s34 _ _ (s33 _ _ e32))) (tup_of e34) (fun z hz => rw10.im.nms z (List.mem_reverse.mp hz)) (fun z hz => rw10.ik.nms z (List.mem_reverse.mp hz)) (by rw [List.length_reverse]; omega) (by rw [List.length_reverse]; omega) (fun c => by rw [okR] at c; cases c) (fun _ y3 H35 s35 ny3 la3 => ?_)⟩
    rw [canon_rev, canon_rev] at la3
    have sB := s31.trans (s32.trans (s33.trans (s34.trans s35)))
    have rw11 := rw10.same sB
    have la11 := la10.same sB
    have ov11 := ov10.same sB
    have g11 := sB _ _ g10
    clear rw10 la10 ov10 g10 sB s31 s32 s33 s34 s35 e31 e32 e33 e34 ny3 m1 m2 k1 k2 gg la2
    clear H30 H31 H32 H33 H34
    have la3' := la3
    obtain ⟨dx3, fs3, _, _, gg, -, -, -, -⟩ := la3'
    refine ⟨y, dx, fs, .ref C, rfl, g11, TyL.ins gg, T.nC, y, .ref y3, canon ms, canon ks, rfl, la11, nmC, nkC, .inr ⟨y3, canon ms, canon ks, rfl, la3, nmC, nkC, _, rfl, false, by rw [decide_eq_true rfl, decide_eq_true rfl]; rfl, iteF ?_⟩⟩
    -- the last one
    refine ⟨.ref ph, rfl, ne_nil (lst_of rw11.hh) nmC fun H36 s36 => ⟨_, rfl, ?_⟩⟩
    have rw12 := rw11.same s36
    have la12 := la11.same s36
    have ov12 := ov11.same s36
    have g12 := s36 _ _ g11
    clear rw11 la11 ov11 g11 s36 gg la3
    clear H35
    refine ite2 (fun c => ?_) (fun c => ?_)
    · have ne : canon ms ≠ [] := fun z => by rw [z] at c; cases c
      refine ⟨.ref y, rfl, rfl, .ref ph, rfl, 1, rfl, ph, _, rfl, lst_of rw12.hh, fun c1 k1 => ?_⟩
      rw [cut_tail, ← List.map_drop]
      have e37 : (upd H36 c1 (.lst (((canon ms).drop 1).map V.str))) c1 = some (.lst (((canon ms).drop 1).map V.str)) := upd_same
      have s37 : Same H36 (upd H36 c1 (.lst (((canon ms).drop 1).map V.str))) := same_new k1
      generalize upd H36 c1 (.lst (((canon ms).drop 1).map V.str)) = H37 at *
      refine ⟨c1, _, rfl, .inl ⟨lst_of e37, fun t1 m1 => ?_⟩⟩
      have e38 : (upd H37 t1 (.tup (((canon ms).drop 1).map V.str))) t1 = some (.tup (((canon ms).drop 1).map V.str)) := upd_same
      have s38 : Same H37 (upd H37 t1 (.tup (((canon ms).drop 1).map V.str))) := same_new m1
      generalize upd H37 t1 (.tup (((canon ms).drop 1).map V.str)) = H38 at *
      refine ⟨.ref pl, rfl, pl, _, rfl, .inl ⟨lst_of ((s37.trans s38) _ _ rw12.hl), fun t2 m2 => ?_⟩⟩
      have e39 : (upd H38 t2 (.tup ((canon ks).map V.str))) t2 = some (.tup ((canon ks).map V.str)) := upd_same
      have s39 : Same H38 (upd H38 t2 (.tup ((canon ks).map V.str))) := same_new m2
      generalize upd H38 t2 (.tup ((canon ks).map V.str)) = H39 at *
      refine ⟨_, _, rfl, made_names (tup_of (s39 _ _ e38)) (tup_of e39) (fun z hz => nmC z (List.mem_of_mem_drop hz)) nkC (by rw [List.length_drop]; omega) (by omega) (fun c => by rw [ok_drop ok] at c; cases c) (fun _ y4 H40 s40 ny4 la4 => ?_)⟩
      rw [canon_drop, canon_canon] at la4
      have sB := s37.trans (s38.trans (s39.trans s40))
      have la4' := la4
      obtain ⟨dx4, fs4, _, _, gg, -, -, -, -⟩ := la4'
      refine ⟨y, dx, fs, .ref C, rfl, sB _ _ g12, TyL.ins gg, T.nC, y, .ref y4, canon ms, canon ks, rfl, la12.same sB, nmC, nkC, .inr ⟨y4, (canon ms).drop 1, canon ks, rfl, la4, fun z hz => nmC z (List.mem_of_mem_drop hz), nkC, _, rfl, ?_⟩⟩
      have e : decide (canon ms = (canon ms).drop 1) = false := decide_eq_false fun z => by
        have := congrArg List.length z
        rw [List.length_drop] at this
        have := List.length_pos_iff.mpr ne
        omega
      rw [e]
      exact q _ (rw12.same sB).nr (rw12.same sB).dc
    · obtain ⟨t, ht, kt, nt⟩ := ov12.ty (X := cxOf CX0 P w K mg base nRight "_law_right" (defScope sRight) f cdv A outer s H E) T
      exact ⟨.ref y, rfl, x, rfl, y, dx, fs, .type t, rfl, g12, TyL.of ht, nt, y, x, canon ms, canon ks, rfl, la12, nmC, nkC, .inl ⟨⟨t, ht, kt⟩, _, rfl, _, rfl, q _ rw12.nr rw12.dc⟩⟩
end
end Tf

/-! the law -/
namespace L2
open PySem PySem.Spec PyProof.Rows
section
variable {X : Cx} {CX : CXT} {k : Nat} {f C : Addr} {ks : List Str} {sp : SpK} {E : XK} {x : Str} {p pos : Pos} {kws : List Keyword} {tk : TA}
theorem pe_makeAK0 (M : Mk X.K C f) (F : FnA X.prog X.w X.K X.mg X.base CX k f ks sp) (hr : Room (k + 1) X.A) (hg : Gl X x) (hm : X.mg x = some (.ref C)) (hx : Passes CX X E) (hkw : PK X kws tk)
    (hall : (backToKw pos (keywordEach kws X.env)).all (·.1.isSome) = true := by rfl) (hks : (backToKw pos (keywordEach kws X.env)).filterMap (·.1) = ks := by rfl) (hdb : (x == ("__debug__" : Str)) = false := by decide)
    (hpl : ((backTo pos (starEach [] X.env)).any (·.1) || (backToKw pos (keywordEach kws X.env)).any (·.1.isNone)) = false := by rfl) :
    PE X (.Call (.Name x p) [] kws pos) (tMakeAK C sp E tNil tk) := by
  refine ⟨fun pins s σ H Q I h => ?_⟩
  refine wpAny_Call_Name_kw (ld_glob I hg hm ?_ hdb)
  refine PySem.W.callWith_KW0 (h₀ := X.base) I.ok.mod.kin M.kp hall ?_ hpl
  refine thn (hkw.run pos pins s σ H _ I h) fun ws s2 ⟨zs, H2, I2, rz, l1, q2⟩ => ⟨I2.kIn, ?_⟩
  rw [hks]
  exact run_makeA (us := []) (vs := []) M F hr hx I2 .nil rz q2
end
end L2
namespace Tf
open PySem PySem.Spec PyProof.Rows L2 ClX
abbrev sLaw : Stmt := top 23
abbrev nLaw : List Str := ["_law_script", "_law_spot", "_law_dice_here", "_law_turn", "_law_shop", "_law_wide"]
theorem scLaw : FnScope nLaw ["_law_script"] (defScope sLaw) := ⟨rfl, rfl, rfl, by decide +kernel, rfl, by decide +kernel, by decide +kernel⟩
def spLaw (K : PySem.W.Frag) : Sp := fun vs H Q _ => ∃ (a : Addr) (ns : List Int), vs = [.ref a] ∧ SqL K H a (ns.map V.int) ∧ ns.length ≤ 63 ∧ ∀ H', Q (.bl true) H'
theorem sql_keep {K : PySem.W.Frag} {H H1 H2 : Hp} {a d : Addr} {xs : List V} (h : SqL K H a xs) (nd : H d = none) (s : Same H H1) (n : Nr d H1 H2) : SqL K H2 a xs := by
  rcases h with (h | ⟨o, h⟩) | h
  · exact .inl (.inl (n _ _ (ne_of_none h nd) (s _ _ h)))
  · exact .inl (.inr ⟨o, n _ _ (ne_of_none h nd) (s _ _ h)⟩)
  · exact .inr h
theorem makes_names {K : PySem.W.Frag} {H : Hp} {b : Addr} {ms ks : List Str} {good : List Str → Prop} {bad : Prop} (hb : SqT K H b (ks.map V.str)) (nm : ∀ z ∈ ms, nameB z = true) (nk : ∀ z ∈ ks, nameB z = true) (lm : ms.length ≤ 60) (lk : ks.length ≤ 60) (ok : langOk ms ks = true) (h : good ks) : Makes K H (ms.map V.str) (.ref b) good bad := by
  refine ⟨items_strs nm, by rw [List.length_map]; exact lm, fun c => ?_, fun _ => .inr ⟨b, _, rfl, hb, items_strs nk, by rw [List.length_map]; exact lk, fun c => ?_, ?_, ?_⟩⟩
  · rw [all_strs nm] at c
    cases c
  · rw [all_strs nk] at c
    cases c
  · rw [txts_strs, txts_strs, ok]
    intro _ c
    cases c
  · rw [txts_strs, txts_strs]
    exact fun _ _ => h
theorem ok_small {ms ks : List Str} (h1 : ms.length ≤ 8) (h2 : ks ≠ []) (h3 : ks.length ≤ 4) (h4 : ∀ z ∈ ks, z ∉ ms) : langOk ms ks = true := by
  refine ok_of_parts (Nat.le_trans (canon_len _) h1) ?_ (Nat.le_trans (canon_len _) h3) fun z hz hm => h4 z (mem_canon.mp hz) (mem_canon.mp hm)
  obtain ⟨z, r, rfl⟩ := List.exists_cons_of_ne_nil h2
  exact List.length_pos_of_mem (mem_canon.mpr List.mem_cons_self)
def l8 : List Str := ["a", "b", "c", "d", "e", "f", "g", "h"]
def l4 : List Str := ["i", "j", "k", "l"]
def l9 : List Str := ["a", "b", "c", "d", "e", "f", "g", "h", "m"]
def l5 : List Str := ["a", "b", "c", "d", "e"]
theorem canon8 : canon l8 = l8 := canon_self (by decide +kernel) (by decide +kernel)
theorem canon4 : canon l4 = l4 := canon_self (by decide +kernel) (by decide +kernel)
theorem canon5 : canon l5 = l5 := canon_self (by decide +kernel) (by decide +kernel)
theorem canon9 : canon l9 = l9 := canon_self (by decide +kernel) (by decide +kernel)
theorem canon0 : canon [] = [] := canon_self (by decide +kernel) (by decide +kernel)
theorem no9 : langOk l9 ["i"] = false := by
  cases h : langOk l9 ["i"] with
  | false => rfl
  | true =>
    have := (ok_parts h).1
    rw [canon9] at this
    exact absurd this (by decide +kernel)
theorem no5 : langOk [] l5 = false := by
  cases h : langOk [] l5 with
  | false => rfl
  | true =>
    have := (ok_parts h).2.2.1
    rw [canon5] at this
    exact absurd this (by decide +kernel)
theorem shopM : canon ["paid", "new", "new"] = canon ["new", "paid"] := canon_congr fun z => ⟨fun h => (by decide +kernel : ∀ z ∈ (["paid", "new", "new"] : List Str), z ∈ (["new", "paid"] : List Str)) z h, fun h => (by decide +kernel : ∀ z ∈ (["new", "paid"] : List Str), z ∈ (["paid", "new", "new"] : List Str)) z h⟩
theorem shopK : canon ["of", "by"] = canon ["by", "of"] := canon_congr fun z => ⟨fun h => (by decide +kernel : ∀ z ∈ (["of", "by"] : List Str), z ∈ (["by", "of"] : List Str)) z h, fun h => (by decide +kernel : ∀ z ∈ (["by", "of"] : List Str), z ∈ (["of", "by"] : List Str)) z h⟩
section
variable {P : Program} {w : World} {K : PySem.W.Frag} {mg : Str → Option Value} {base : Heap}
theorem ok_law {f fDi fRi fMa fNa fO fMk fN C CI p pM fE fH fL fS : Addr} {fd fdDi fdRi fdMa fdNa fdO fdMk : FuncData} {mc : Value} {k j : Nat} {t8 t4 : Tok} (F : Fun K "law" "law" sLaw f fd) (k3 : 3 ≤ k) (jk : j + 1 ≤ k)
    (GDi : FnOk P w K mg base CX0 k fDi fdDi ["_law_script", "_law_spot"] (spDice K)) (bDi : Binds K fdDi ["_law_script", "_law_spot"] []) (gDi : mg "_law_dice" = some (.ref fDi)) (kDi : PySem.W.keepIn K (.ref fDi) = true)
    (GRi : FnOk P w K mg base CX0 k fRi fdRi ["_law_dice_here"] spRight) (bRi : Binds K fdRi ["_law_dice_here"] []) (gRi : mg "_law_right" = some (.ref fRi)) (kRi : PySem.W.keepIn K (.ref fRi) = true)
    (GMa : FnOk P w K mg base CX0 k fMa fdMa ["_law_marks", "_law_sorts"] (spMade K C)) (bMa : Binds K fdMa ["_law_marks", "_law_sorts"] []) (gMa : mg "_law_made" = some (.ref fMa)) (kMa : PySem.W.keepIn K (.ref fMa) = true)
    (GNa : FnOk P w K mg base CX0 k fNa fdNa ["value"] (spName K)) (bNa : Binds K fdNa ["value"] []) (gNa : mg "is_name" = some (.ref fNa)) (kNa : PySem.W.keepIn K (.ref fNa) = true)
    (GO : FnOk P w K mg base (L2.CX P w) k fO fdO ["cls", "marks", "kinds"] (spOf K C CI)) (bO : Binds K fdO ["cls", "marks", "kinds"] []) (cr : CRead K C mc) (cm : CMet K C mc "of" p fO) (gLa : mg "Language" = some (.ref C))
    (Mm : Mk K C fN) (GI : FnA P w K mg base (L2.CX P w) j fN ["kinds"] (spInit K C CI))
    (L : LCls K C) (GMk : FnOk P w K mg base CX0 1 fMk fdMk ["self"] (spMarks C true)) (bMk : Binds K fdMk ["self"] []) (pMk : PropOf K C "marks" pM fMk)
    (M : Meths P w K mg base C fE fH fL fS) (T : TyNo K C) (g8 : mg "MAX_MARKS" = some (.int 8 t8)) (g4 : mg "MAX_KINDS" = some (.int 4 t4)) (mRg : mg "range" = none) (mMx : mg "max" = none) (mMn : mg "min" = none) (mLe : mg "len" = none) : FnOk P w K mg base CX0 (k + 1) f fd ["_law_script"] (spLaw K) := by
  refine F.ok scLaw (fun vs H Q E h => ?_) (fun cdv A outer s H vs Q E hr h => ?_)
  · obtain ⟨a, ns, rfl, _⟩ := h
    rfl
  · obtain ⟨a, ns, rfl, hS, hl, q⟩ := h
    have hu : (A.deeper (envOfC "law" (defScope sLaw) s.heap.objs.size f cdv)).units + 64 < cLine := by have := hr.un; omega
    have hr1 : Room 1 (A.deeper (envOfC "law" (defScope sLaw) s.heap.objs.size f cdv)) := hr.mono (by omega)
    have hr2 : Room 2 (A.deeper (envOfC "law" (defScope sLaw) s.heap.objs.size f cdv)) := hr.mono (by omega)
    have hrj : Room (j + 1) (A.deeper (envOfC "law" (defScope sLaw) s.heap.objs.size f cdv)) := hr.mono jk
    refine ⟨_, pss_cons (ps_for PassesOwn.never rfl (pi_range1 rfl mRg (pa_cons (pe_callB (call_max2 rfl) (by rfl) mMx (by decide +kernel) (pa_cons pe_int (pa_cons (pe_callB (call_min2 rfl) (by rfl) mMn (by decide +kernel) (pa_cons pe_int (pa_cons (pe_callB call_len_seq (by rfl) mLe PySem.boot_len (pa_cons (pv 0) pa_nil)) pa_nil))) pa_nil))) pa_nil)) (pg_name (i := 1) scLaw.nd rfl (Or.inl rfl))
        (pss_cons (ps_set (i := 2) scLaw.nd rfl (.inl rfl) (pe_call GDi hr (by rfl) gDi kDi bDi .nil pass0 (pa_cons (pv 0) (pa_cons (pv 1) pa_nil))))
        (pss_one (ps_for PassesOwn.never rfl (pi_range1 rfl mRg (pa_cons pe_int pa_nil)) (pg_name (i := 3) scLaw.nd rfl (Or.inl rfl))
          (pss_one (ps_if (pt_not (pt_val (pe_call GRi hr (by rfl) gRi kRi bRi .nil pass0 (pa_cons (pv 2) pa_nil)))) (pss_one (ps_ret pe_bl)) pss_nil))))))
      (pss_cons (ps_set (i := 4) scLaw.nd rfl (.inl rfl) (pe_makeAK (E := E0) Mm GI hrj (by rfl) gLa (passes_call takes0 (fun _ _ _ _ h => h)) (pa_cons pe_str (pa_cons pe_str (pa_cons pe_str pa_nil))) (pk_cons (pe_tup (pa_cons pe_str (pa_cons pe_str pa_nil))) pk_nil)))
      (pss_cons (ps_if (PW.pt (pw_or (pt_cmpR (op_neO M.oE M.ne M.mo M.gE hr2 pass0) (pv 4) (pe_cmeth (E := E0) (pe_glob (v := .ref C) rfl gLa rfl) cr cm (GO.raw bO .nil) hr (passes_call takes0 (fun _ _ _ _ h => h)) (pa_cons (pe_tup (pa_cons pe_str (pa_cons pe_str pa_nil))) (pa_cons (pe_tup (pa_cons pe_str (pa_cons pe_str pa_nil))) pa_nil))) (nomark _))
          (pw_or1 (pt_cmpR (op_neD hu) (pe_prop (pe_makeAK0 (E := E0) Mm GI hrj (by rfl) gLa (passes_call takes0 (fun _ _ _ _ h => h)) (pk_cons (pe_tup (pa_cons pe_str pa_nil)) pk_nil)) L.cl pMk GMk hr2 bMk .nil pass0 (by rfl)) (pe_tup pa_nil) (nomark _))))) (pss_one (ps_ret pe_bl)) pss_nil)
      (pss_cons (ps_set (i := 5) scLaw.nd rfl (.inl rfl) (pe_makeAK (E := E0) Mm GI hrj (by rfl) gLa (passes_call takes0 (fun _ _ _ _ h => h)) (pa_cons pe_str (pa_cons pe_str (pa_cons pe_str (pa_cons pe_str (pa_cons pe_str (pa_cons pe_str (pa_cons pe_str (pa_cons pe_str pa_nil)))))))) (pk_cons (pe_tup (pa_cons pe_str (pa_cons pe_str (pa_cons pe_str (pa_cons pe_str pa_nil))))) pk_nil)))
      (pss_cons (ps_if (PW.pt (pw_or (pt_cmpR op_nn (pe_call GMa hr (by rfl) gMa kMa bMa .nil pass0 (pa_cons (pe_op op_catA (pe_prop (pv 5) L.cl pMk GMk hr2 bMk .nil pass0 (by rfl)) (pe_tup (pa_cons pe_str pa_nil))) (pa_cons (pe_tup (pa_cons pe_str pa_nil)) pa_nil))) pe_non (nomark _))
          (pw_or1 (pt_cmpR op_nn (pe_call GMa hr (by rfl) gMa kMa bMa .nil pass0 (pa_cons (pe_tup pa_nil) (pa_cons (pe_tup (pa_cons pe_str (pa_cons pe_str (pa_cons pe_str (pa_cons pe_str (pa_cons pe_str pa_nil)))))) pa_nil))) pe_non (nomark _))))) (pss_one (ps_ret pe_bl)) pss_nil)
      (pss_one (ps_ret (pe_cmpR (op_eqD hu) (pe_lst (pa_cons (pe_callB (call_lenO M.oL M.gL hr2 pass0) (by rfl) mLe PySem.boot_len (pa_cons (pv 5) pa_nil)) (pa_cons (pe_glob (v := .int 8) rfl g8 ⟨_, rfl⟩) (pa_cons (pe_glob (v := .int 4) rfl g4 ⟨_, rfl⟩) (pa_cons (pe_call GNa hr (by rfl) gNa kNa bNa .nil pass0 (pa_cons pe_str pa_nil)) (pa_cons (pe_call GNa hr (by rfl) gNa kNa bNa .nil pass0 (pa_cons pe_str pa_nil)) pa_nil))))))
        (pe_lst (pa_cons pe_int (pa_cons pe_int (pa_cons pe_int (pa_cons pe_bl (pa_cons pe_bl pa_nil)))))) (nomark _)))))))), ?_⟩
    -- the draws
    refine ⟨.ref a, rfl, a, _, rfl, .inl hS, 8, _, rfl, 1, _, rfl, ?_⟩
    obtain ⟨N, eN⟩ : ∃ N : Int, N = (if (if ((ns.map V.int).length : Int) < 8 then ((ns.map V.int).length : Int) else 8) > 1 then (if ((ns.map V.int).length : Int) < 8 then ((ns.map V.int).length : Int) else 8) else 1) := ⟨_, rfl⟩
    rw [← eN]
    have n1 : 1 ≤ N ∧ N ≤ 8 := by
      rw [eN]
      split <;> split <;> omega
    refine ⟨N, rfl, by omega, by omega, for_range (n := N.toNat) (fun i σ H' => ∃ o1 o2 o3 : Option V, σ = [some (.ref a), o1, o2, o3, none, none] ∧ SqL K H' a (ns.map V.int)) ⟨none, none, none, rfl, hS⟩ ?_ ?_⟩
    · rintro i σ H1 hi ⟨o1, o2, o3, rfl, hS1⟩
      refine ⟨.ref a, rfl, _, rfl, a, ns, _, rfl, hS1, by omega, by omega, fun d H2 s2 nd dc => ?_⟩
      refine ⟨3, rfl, by decide, by decide, for_range (n := 3) (fun j σ H' => ∃ o3 : Option V, σ = [some (.ref a), some (.int (0 + (i : Int))), some (.ref d), o3, none, none] ∧ Nr d H2 H' ∧ Dice H' d) ⟨_, rfl, Nr.refl d H2, dc⟩ ?_ ?_⟩
      · rintro j σ H3 hj ⟨o3, rfl, nr3, dc3⟩
        exact ⟨.ref d, rfl, d, rfl, dc3, fun H4 nr4 dc4 => ⟨true, rfl, iteF ⟨_, rfl, nr3.trans nr4, dc4⟩⟩⟩
      · rintro σ H3 ⟨o3, rfl, nr3, dc3⟩
        exact ⟨_, _, _, rfl, sql_keep hS1 nd s2 nr3⟩
    rintro σ H1 ⟨o1, o2, o3, rfl, hS1⟩
    clear hS1 hS eN n1
    -- the shop
    refine ⟨by show 2 ≤ sizeLine; decide, fun t1 m1 => ?_⟩
    have e2 : (upd H1 t1 (.tup [.str "of", .str "by"])) t1 = some (.tup [.str "of", .str "by"]) := upd_same
    have s2 : Same H1 (upd H1 t1 (.tup [.str "of", .str "by"])) := same_new m1
    generalize upd H1 t1 (.tup [.str "of", .str "by"]) = H2 at *
    refine ⟨rfl, fun x dx nx ndx nxd => ⟨H2, x, dx, _, _, rfl, rfl, rfl, nx, ndx, nxd, makes_names (ms := ["paid", "new", "new"]) (ks := ["of", "by"]) (tup_of e2) (by decide +kernel) (by decide +kernel) (by decide) (by decide) (ok_small (by decide) (by decide) (by decide) (by decide +kernel)) ?_⟩⟩
    intro H3 s3 la
    refine ⟨rfl, ?_⟩
    have la3 : LangAt C H3 x (canon ["paid", "new", "new"]) (canon ["of", "by"]) := la
    clear la
    have c2 : ∀ z ∈ (["paid", "new", "new"] : List Str), nameB z = true := by decide +kernel
    have c3 : ∀ z ∈ (["of", "by"] : List Str), nameB z = true := by decide +kernel
    have c4 : ∀ z ∈ (["new", "paid"] : List Str), nameB z = true := by decide +kernel
    have c5 : ∀ z ∈ (["by", "of"] : List Str), nameB z = true := by decide +kernel
    refine ⟨.ref x, rfl, rfl, by show 2 ≤ sizeLine; decide, fun t2 m2 => ?_⟩
    have e4 : (upd H3 t2 (.tup [.str "new", .str "paid"])) t2 = some (.tup [.str "new", .str "paid"]) := upd_same
    have s4 : Same H3 (upd H3 t2 (.tup [.str "new", .str "paid"])) := same_new m2
    generalize upd H3 t2 (.tup [.str "new", .str "paid"]) = H4 at *
    refine ⟨by show 2 ≤ sizeLine; decide, fun t3 m3 => ?_⟩
    have e5 : (upd H4 t3 (.tup [.str "by", .str "of"])) t3 = some (.tup [.str "by", .str "of"]) := upd_same
    have s5 : Same H4 (upd H4 t3 (.tup [.str "by", .str "of"])) := same_new m3
    generalize upd H4 t3 (.tup [.str "by", .str "of"]) = H5 at *
    refine ⟨_, _, rfl, made_names (ms := ["new", "paid"]) (ks := ["by", "of"]) (tup_of (s5 _ _ e4)) (tup_of e5) c4 c5 (by decide) (by decide) (fun c => by rw [ok_small (by decide) (by decide) (by decide) (by decide +kernel)] at c; cases c) (fun _ y H6 s6 ny la6 => ?_)⟩
    have sB := s4.trans (s5.trans s6)
    have lx := la3.same sB
    have lx' := lx
    obtain ⟨dx', fs, _, _, g, -, -, -, -⟩ := lx'
    have ly' := la6
    obtain ⟨dy, fy, _, _, gy, -, -, -, -⟩ := ly'
    refine ⟨x, dx', fs, .ref C, rfl, g, TyL.ins gy, T.nC, x, .ref y, _, _, rfl, lx, Nms.canon c2, Nms.canon c3, .inr ⟨y, _, _, rfl, la6, Nms.canon c4, Nms.canon c5, _, rfl, false, by rw [decide_eq_true shopM, decide_eq_true shopK]; rfl, iteF ?_⟩⟩
    clear lx la6 g gy sB s4 s5 s6 la3 e4 e5 m2 m3 ny
    -- no marks
    refine ⟨by show 1 ≤ sizeLine; decide, fun t4 m4 => ?_⟩
    have e7 : (upd H6 t4 (.tup [.str "by"])) t4 = some (.tup [.str "by"]) := upd_same
    have s7 : Same H6 (upd H6 t4 (.tup [.str "by"])) := same_new m4
    generalize upd H6 t4 (.tup [.str "by"]) = H7 at *
    refine ⟨rfl, fun x2 dx2 nx2 ndx2 nxd2 => ⟨H7, x2, dx2, [], _, rfl, rfl, rfl, nx2, ndx2, nxd2, makes_names (ms := []) (ks := ["by"]) (tup_of e7) (by decide +kernel) (by decide +kernel) (by decide) (by decide) (ok_small (by decide) (by decide) (by decide) (by decide +kernel)) ?_⟩⟩
    intro H8 s8 la
    have la8 : LangAt C H8 x2 (canon []) (canon ["by"]) := la
    clear la
    have la8' := la8
    obtain ⟨dx8, fs8, _, _, g8', -, -, -, -⟩ := la8'
    refine ⟨rfl, x2, dx8, fs8, rfl, g8', x2, _, _, rfl, la8, fun p8 hp8 => ?_⟩
    have hp8' : H8 p8 = some (.tup ((canon []).map V.str)) := hp8
    rw [canon0] at hp8'
    refine ⟨by show 0 ≤ sizeLine; decide, fun t5 m5 => ?_⟩
    have e9 : (upd H8 t5 (.tup [])) t5 = some (.tup []) := upd_same
    have s9 : Same H8 (upd H8 t5 (.tup [])) := same_new m5
    generalize upd H8 t5 (.tup []) = H9 at *
    refine ⟨.tuple (dS []), .tuple (dS []), dp_tuple (zs := []) (tup_of (s9 _ _ hp8')), dp_tuple (zs := []) (tup_of e9), shaped_tuple (zs := []) (by intro z hz; cases hz), shaped_tuple (zs := []) (by intro z hz; cases hz), false, by rw [eqv_tuples]; rfl, iteF ?_⟩
    -- the wide one
    refine ⟨by show 4 ≤ sizeLine; decide, fun t6 m6 => ?_⟩
    have e10 : (upd H9 t6 (.tup [.str "i", .str "j", .str "k", .str "l"])) t6 = some (.tup [.str "i", .str "j", .str "k", .str "l"]) := upd_same
    have s10 : Same H9 (upd H9 t6 (.tup [.str "i", .str "j", .str "k", .str "l"])) := same_new m6
    generalize upd H9 t6 (.tup [.str "i", .str "j", .str "k", .str "l"]) = H10 at *
    refine ⟨rfl, fun z dz nz ndz nzd => ⟨H10, z, dz, _, _, rfl, rfl, rfl, nz, ndz, nzd, makes_names (ms := l8) (ks := l4) (tup_of e10) (by decide +kernel) (by decide +kernel) (by decide) (by decide) (ok_small (by decide) (by decide) (by decide) (by decide +kernel)) ?_⟩⟩
    intro H11 s11 la
    have la11 : LangAt C H11 z (canon l8) (canon l4) := la
    clear la
    rw [canon8, canon4] at la11
    have la11' := la11
    obtain ⟨dw, fw, _, _, g11, -, -, -, -⟩ := la11'
    refine ⟨rfl, ?_⟩
    -- too many
    refine ⟨.ref z, rfl, z, dw, fw, rfl, g11, z, _, _, rfl, la11, fun pw hpw => ?_⟩
    have hpw' : H11 pw = some (.tup (l8.map V.str)) := hpw
    refine ⟨by show 1 ≤ sizeLine; decide, fun t7 m7 => ?_⟩
    have e12 : (upd H11 t7 (.tup [.str "m"])) t7 = some (.tup [.str "m"]) := upd_same
    have s12 : Same H11 (upd H11 t7 (.tup [.str "m"])) := same_new m7
    generalize upd H11 t7 (.tup [.str "m"]) = H12 at *
    refine ⟨pw, t7, _, _, rfl, rfl, tup_of (s12 _ _ hpw'), tup_of e12, by show 8 + 1 ≤ sizeLine; decide, fun e => absurd e (List.cons_ne_nil _ _), fun _ e => absurd e (List.cons_ne_nil _ _), fun _ _ u nu => ?_⟩
    have e13 : (upd H12 u (.tup (l8.map V.str ++ [.str "m"]))) u = some (.tup (l8.map V.str ++ [.str "m"])) := upd_same
    have s13 : Same H12 (upd H12 u (.tup (l8.map V.str ++ [.str "m"]))) := same_new nu
    generalize upd H12 u (.tup (l8.map V.str ++ [.str "m"])) = H13 at *
    refine ⟨by show 1 ≤ sizeLine; decide, fun t8' m8 => ?_⟩
    have e14 : (upd H13 t8' (.tup [.str "i"])) t8' = some (.tup [.str "i"]) := upd_same
    have s14 : Same H13 (upd H13 t8' (.tup [.str "i"])) := same_new m8
    generalize upd H13 t8' (.tup [.str "i"]) = H14 at *
    refine ⟨_, _, rfl, made_names (ms := l9) (ks := ["i"]) (tup_of (s14 _ _ e13)) (tup_of e14) (by unfold Nms; decide +kernel) (by unfold Nms; decide +kernel) (by decide) (by decide) (fun _ H15 s15 => ⟨rfl, false, rfl, iteF ?_⟩) (fun c => by rw [no9] at c; cases c)⟩
    refine ⟨by show 0 ≤ sizeLine; decide, fun t9 m9 => ?_⟩
    have e16 : (upd H15 t9 (.tup [])) t9 = some (.tup []) := upd_same
    have s16 : Same H15 (upd H15 t9 (.tup [])) := same_new m9
    generalize upd H15 t9 (.tup []) = H16 at *
    refine ⟨by show 5 ≤ sizeLine; decide, fun t10 m10 => ?_⟩
    have e17 : (upd H16 t10 (.tup [.str "a", .str "b", .str "c", .str "d", .str "e"])) t10 = some (.tup [.str "a", .str "b", .str "c", .str "d", .str "e"]) := upd_same
    have s17 : Same H16 (upd H16 t10 (.tup [.str "a", .str "b", .str "c", .str "d", .str "e"])) := same_new m10
    generalize upd H16 t10 (.tup [.str "a", .str "b", .str "c", .str "d", .str "e"]) = H17 at *
    refine ⟨_, _, rfl, made_names (ms := []) (ks := l5) (tup_of (s17 _ _ e16)) (tup_of e17) (by unfold Nms; decide +kernel) (by unfold Nms; decide +kernel) (by decide) (by decide) (fun _ H18 s18 => ⟨rfl, false, rfl, iteF ?_⟩) (fun c => by rw [no5] at c; cases c)⟩
    -- the numbers
    have sC := s12.trans (s13.trans (s14.trans (s15.trans (s16.trans (s17.trans s18)))))
    refine ⟨.ref z, rfl, z, dw, fw, rfl, sC _ _ g11, z, _, _, rfl, la11.same sC, by decide, fun H19 s19 => ⟨12, rfl, by decide, by decide, ?_⟩⟩
    have nA : isN (.str "abcdefgh") = true := by decide +kernel
    have nB : isN (.str "abcdefghi") = false := by decide +kernel
    refine ⟨_, rfl, .inl ⟨_, rfl, by decide +kernel⟩, .inl ⟨_, rfl⟩, fun H20 s20 => ⟨_, rfl, .inl ⟨_, rfl, by decide +kernel⟩, .inl ⟨_, rfl⟩, fun H21 s21 => ?_⟩⟩
    rw [nA, nB]
    refine ⟨by show 5 ≤ sizeLine; decide, fun k1 j1 => ?_⟩
    have e22 : (upd H21 k1 (.lst [.int 12, .int 8, .int 4, .bl true, .bl false])) k1 = some (.lst [.int 12, .int 8, .int 4, .bl true, .bl false]) := upd_same
    have s22 : Same H21 (upd H21 k1 (.lst [.int 12, .int 8, .int 4, .bl true, .bl false])) := same_new j1
    generalize upd H21 k1 (.lst [.int 12, .int 8, .int 4, .bl true, .bl false]) = H22 at *
    refine ⟨by show 5 ≤ sizeLine; decide, fun k2 j2 => ?_⟩
    have e23 : (upd H22 k2 (.lst [.int 12, .int 8, .int 4, .bl true, .bl false])) k2 = some (.lst [.int 12, .int 8, .int 4, .bl true, .bl false]) := upd_same
    have s23 : Same H22 (upd H22 k2 (.lst [.int 12, .int 8, .int 4, .bl true, .bl false])) := same_new j2
    generalize upd H22 k2 (.lst [.int 12, .int 8, .int 4, .bl true, .bl false]) = H23 at *
    have dd : ∀ {b : Addr}, H23 b = some (.lst [.int 12, .int 8, .int 4, .bl true, .bl false]) → Dp K H23 (.ref b) (.list [.int 12, .int 8, .int 4, .bool true, .bool false]) := fun h => .lst (lst_of h) (.cons (.int _) (.cons (.int _) (.cons (.int _) (.cons (.bl _) (.cons (.bl _) .nil)))))
    refine ⟨_, _, dd (s23 _ _ e22), dd e23, by decide +kernel, by decide +kernel, ?_⟩
    rw [show PyData.eqv (.list [.int 12, .int 8, .int 4, .bool true, .bool false]) (.list [.int 12, .int 8, .int 4, .bool true, .bool false]) = true by decide +kernel]
    exact q _
end
end Tf

/-! the end: what the written part tells -/
namespace Tf
open PySem PySem.Spec PyProof.Rows L2 ClX
theorem kit_ref {K : PySem.W.Frag} {t : Value} {C : Addr} {b : Bool} (hc : PySem.W.isClsIn K C = true) (ht : PySem.W.typeIn K (.ref C) = some (.type "type")) (hne : (t == Value.ref C) = false) (h : PySem.W.subIn K t (.ref C) = some b) : PySem.W.kitOne K t (.ref C) = some b := by
  have e2 : ((PySem.W.clsIn K C).isSome && PySem.W.typeIn K (.ref C) == some (.type "type")) = true := by
    have h2' : (PySem.W.clsIn K C).isSome = true := hc
    rw [h2', ht] <;> rfl
  unfold PySem.W.kitOne PySem.W.kitCls
  rw [hne, if_neg Bool.false_ne_true]
  show (if ((PySem.W.clsIn K C).isSome && PySem.W.typeIn K (.ref C) == some (.type "type")) = true then PySem.W.subIn K t (.ref C) else none) = some b
  rw [if_pos e2]
  exact h
theorem kit_refT {K : PySem.W.Frag} {t : Value} {C : Addr} (hc : PySem.W.isClsIn K C = true) (ht : PySem.W.typeIn K (.ref C) = some (.type "type")) (h : PySem.W.subIn K t (.ref C) = some true) : PySem.W.kitOne K t (.ref C) = some true := by
  cases e : (t == Value.ref C) with
  | false => exact kit_ref hc ht e h
  | true =>
    unfold PySem.W.kitOne
    rw [e, if_pos rfl]
theorem kit_refB {K : PySem.W.Frag} {C : Addr} {T : String} {b : Bool} (hm : PySem.W.kitMeta T = true) (h : PySem.W.subIn K (.ref C) (.type T) = some b) : PySem.W.kitOne K (.ref C) (.type T) = some b := by
  have e : (Value.ref C == Value.type T) = false := beq_eq_false_iff_ne.mpr (fun z => by cases z)
  unfold PySem.W.kitOne PySem.W.kitCls
  rw [e, if_neg Bool.false_ne_true]
  show (if PySem.W.kitMeta T = true then PySem.W.subIn K (.ref C) (.type T) else none) = some b
  rw [if_pos hm]
  exact h
theorem ty_ne (t : String) (C : Addr) : (Value.type t == Value.ref C) = false := beq_eq_false_iff_ne.mpr (fun z => by cases z)
theorem exm_me {K : PySem.W.Frag} {S : Addr} (h1 : PySem.W.subIn K (.ref S) (.type "BaseException") = some true) (h2 : PySem.W.isClsIn K S = true) (h3 : PySem.W.typeIn K (.ref S) = some (.type "type")) (h4 : PySem.W.subIn K (.ref S) (.ref S) = some true) :
    PySem.W.exmOne K (.ref S) (.ref S) = some true := by
  have e1 : (PySem.W.subIn K (.ref S) (.type "BaseException") == some true) = true := by rw [h1] <;> rfl
  have e2 : ((PySem.W.clsIn K S).isSome && PySem.W.typeIn K (.ref S) == some (.type "type")) = true := by
    have h2' : (PySem.W.clsIn K S).isSome = true := h2
    rw [h2', h3] <;> rfl
  unfold PySem.W.exmOne
  rw [if_pos e1]
  show (if ((PySem.W.clsIn K S).isSome && PySem.W.typeIn K (.ref S) == some (.type "type")) = true then PySem.W.subIn K (.ref S) (.ref S) else none) = some true
  rw [if_pos e2]
  exact h4
theorem sup_in {K : PySem.W.Frag} {CI CT : Addr} {nm q : Str} {N : Addr} {bs : List Value} {sn : List Str} {sub : List Value} {ab : Bool} {col : Option Bool} {dd : Option Addr} {m0 m1 m2 m3 m5 : Option Value}
    (l : K.lookup CI = some (excClassObj nm q CI N bs (.ref CT :: veBm) true sn sub ab col dd m0 m1 m2 m3 m5 "ValueError.__new__")) (ne : CI ≠ CT) : PySem.W.ks_superIn K CI CT "__init__" = some (some (.builtin "ValueError.__init__")) := by
  unfold PySem.W.ks_superIn PySem.W.clsIn
  rw [l]
  show PySem.W.alongIn K "__init__" (((Value.ref CI :: Value.ref CT :: veBm).dropWhile (· != .ref CT)).drop 1) = _
  have e1 : (Value.ref CI != Value.ref CT) = true := bne_iff_ne.mpr (fun z => ne (Value.ref.inj z))
  have e2 : (Value.ref CT != Value.ref CT) = false := bne_self_eq_false _
  rw [List.dropWhile_cons_of_pos (by exact e1), List.dropWhile_cons_of_neg (by rw [e2]; exact Bool.false_ne_true)]
  show PySem.W.alongIn K "__init__" veBm = _
  have e3 : PySem.fastBuiltinOwn "ValueError" "__init__" = some (.builtin "ValueError.__init__") := by decide +kernel
  have e4 : PySem.W.ownIn K "__init__" (.type "ValueError") = some (some (.builtin "ValueError.__init__")) := congrArg some e3
  show PySem.W.alongIn K "__init__" (.type "ValueError" :: [.type "Exception", .type "BaseException", .type "object"]) = _
  unfold PySem.W.alongIn
  rw [e4]
theorem mro_in {CT : Addr} (X : String) : (Value.ref CT :: veBm).contains (.type X) = veBm.contains (.type X) := by
  rw [List.contains_cons, ty_ne]
  rfl
theorem rawN {P : Program} {w : World} {K : PySem.W.Frag} {mg : Str → Option Value} {base : Heap} {CX : CXT} {k : Nat} {f : Addr} {fd : FuncData} {ps : List Str} {sp : Sp} (F : FnOk P w K mg base CX k f fd ps sp) (hb : Binds K fd ps []) : FnR P w K mg base CX k f sp :=
  (F.raw hb .nil).imp fun vs H Q E h => by
    rw [List.append_nil]
    exact h

theorem all_mk {P : Program} {w : World} {K : PySem.W.Frag} {h : Heap} {mg : Str → Option Value} {fa : Addr} (X : K.In h) (G : h.Ns mainGlobals mg) (hfa : mg "law" = some (.ref fa))
    {C CI CT fI pOf pMk pKi cc cda : Addr}
    {nm q : Str} {N : Addr} {bs : List Value} {sn : List Str} {sub : List Value} {ab : Bool} {col : Option Bool} {dd : Option Addr} {m0 m1 m2 m3 m5 : Option Value}
    {ocI dcI pmI ctI ccl cl : Value} {odI anI cdd cld : Option Addr} {slI ccs csl : Array (Option Value)} {vs : Array Value} {p1 p2 q1 q2 q3 q4 q5 q6 : Pos} {file : Str} {tf t8 t4 t9 ts : Tok} {rOf rMk rKi : List Value} {cdT : ClassData}
    {fNa : Addr} {odNa anNa : Option Addr} {slNa : Array (Option Value)} {ocNa kVNa dcNa pmNa cdNa ctNa : Value}
    {fDf : Addr} {odDf anDf : Option Addr} {slDf : Array (Option Value)} {ocDf kVDf dcDf pmDf cdDf ctDf : Value}
    {fDi : Addr} {odDi anDi : Option Addr} {slDi : Array (Option Value)} {ocDi kVDi dcDi pmDi cdDi ctDi : Value}
    {fRo : Addr} {odRo anRo : Option Addr} {slRo : Array (Option Value)} {ocRo kVRo dcRo pmRo cdRo ctRo : Value}
    {fPi : Addr} {odPi anPi : Option Addr} {slPi : Array (Option Value)} {ocPi kVPi dcPi pmPi cdPi ctPi : Value}
    {fMi : Addr} {odMi anMi : Option Addr} {slMi : Array (Option Value)} {ocMi kVMi dcMi pmMi cdMi ctMi : Value}
    {fOd : Addr} {odOd anOd : Option Addr} {slOd : Array (Option Value)} {ocOd kVOd dcOd pmOd cdOd ctOd : Value}
    {fMa : Addr} {odMa anMa : Option Addr} {slMa : Array (Option Value)} {ocMa kVMa dcMa pmMa cdMa ctMa : Value}
    {fRw : Addr} {odRw anRw : Option Addr} {slRw : Array (Option Value)} {ocRw kVRw dcRw pmRw cdRw ctRw : Value}
    {fRi : Addr} {odRi anRi : Option Addr} {slRi : Array (Option Value)} {ocRi kVRi dcRi pmRi cdRi ctRi : Value}
    {fLa : Addr} {odLa anLa : Option Addr} {slLa : Array (Option Value)} {ocLa kVLa dcLa pmLa cdLa ctLa : Value}
    {fIn : Addr} {odIn anIn : Option Addr} {slIn : Array (Option Value)} {ocIn kVIn dcIn pmIn cdIn ctIn : Value}
    {fOf : Addr} {odOf anOf : Option Addr} {slOf : Array (Option Value)} {ocOf kVOf dcOf pmOf cdOf ctOf : Value}
    {fMk : Addr} {odMk anMk : Option Addr} {slMk : Array (Option Value)} {ocMk kVMk dcMk pmMk cdMk ctMk : Value}
    {fKi : Addr} {odKi anKi : Option Addr} {slKi : Array (Option Value)} {ocKi kVKi dcKi pmKi cdKi ctKi : Value}
    {fEq : Addr} {odEq anEq : Option Addr} {slEq : Array (Option Value)} {ocEq kVEq dcEq pmEq cdEq ctEq : Value}
    {fHa : Addr} {odHa anHa : Option Addr} {slHa : Array (Option Value)} {ocHa kVHa dcHa pmHa cdHa ctHa : Value}
    {fLe : Addr} {odLe anLe : Option Addr} {slLe : Array (Option Value)} {ocLe kVLe dcLe pmLe cdLe ctLe : Value}
    {fSt : Addr} {odSt anSt : Option Addr} {slSt : Array (Option Value)} {ocSt kVSt dcSt pmSt cdSt ctSt : Value}
    (aC : PySem.W.nsIn K mainGlobals "Language" = some (some (.ref C)))
    (aI : PySem.W.nsIn K mainGlobals "InvalidLanguage" = some (some (.ref CI)))
    (aT : PySem.W.nsIn K mainGlobals "TreeError" = some (some (.ref CT)))
    (xI : K.lookup CI = some (excClassObj nm q CI N bs (.ref CT :: veBm) true sn sub ab col dd m0 m1 m2 m3 m5 "ValueError.__new__"))
    (neI : CI ≠ CT)
    (iI : PySem.W.findIn K (.ref CI) "__init__" = some (some (.ref fI)))
    (tfI : PySem.W.typeIn K (.ref fI) = some (.type "function"))
    (kI : PySem.W.keepIn K (.ref CI) = true)
    (bI : PySem.W.subIn K (.ref CI) (.type "BaseException") = some true)
    (tI : PySem.W.typeIn K (.ref CI) = some (.type "type"))
    (vI : PySem.W.subIn K (.ref CI) (.type "ValueError") = some true)
    (opq : PySem.W.nsIn K cStatics "thirdparty.any" = some none)
    (lI : K.lookup fI = some ⟨ocI, odI, .func (PySem.W.ksFn "__init__" "TreeError.__init__" (PySem.TfS.iA "message" p1 p2) [PySem.TfS.sB "message" q1 q2 q3 q4 q5 q6] (PySem.TfS.iS "message") .none .none dcI pmI anI (.ref cda) ctI cc), slI⟩)
    (cI : PySem.W.codeIn K (.ref cda) "TreeError.__init__" = true)
    (lc : K.lookup cda = some ⟨ccl, cdd, .fields vs, ccs⟩)
    (lv : vs[2]? = some (.str file tf))
    (lf : ((P.main.file : Str) == file) = true)
    (lx : K.lookup cc = some ⟨cl, cld, .cell (some (.ref CT)), csl⟩)
    (ev : ∀ env : Env, ∃ pl : Sem Bool, eval (PySem.TfS.cB "message" q1 q2 q3 q4 q5) env = (do let ov ← attributeBase (.Call (.Name "super" q1) [] [] q2) "__init__" env (eval (.Call (.Name "super" q1) [] [] q2) env); standAt q3.atName; let (f, first) ← holding [ov] (getMethod ov "__init__" pl); callWith q5 f first (backTo q5 (starEach [.Name "message" q4] env)) []))
    (cT : PySem.W.clsIn K CT = some cdT)
    (mT : PySem.W.mroIn K CI (.ref CT) = some true)
    (tS : (P.main.scope.names.lookup ("super" : Str)).isSome = false)
    (sI : PySem.W.subIn K (.ref CI) (.ref CI) = some true)
    (iCI : PySem.W.isClsIn K CI = true)
    (sT : PySem.W.subIn K (.ref CI) (.ref CT) = some true)
    (iCT : PySem.W.isClsIn K CT = true)
    (tT : PySem.W.typeIn K (.ref CT) = some (.type "type"))
    (e1 : PySem.W.findIn K (.ref CI) "__getattribute__" = some (some (.builtin "BaseException.__getattribute__")))
    (e2 : PySem.W.findIn K (.ref CI) "__getattr__" = some none)
    (e3 : PySem.W.hasDictIn K CI = true)
    (e4 : PySem.W.findIn K (.ref CI) "__class__" = some (some (.builtin "object.__class__")))
    (e5 : PySem.W.specialIn K (.builtin "object.__class__") "__get__" = some (some (.builtin "getset_descriptor.__get__")))
    (e6 : PySem.W.takesIn K (.builtin "object.__class__") = some true)
    (e7 : PySem.W.mroIn K CI (.type "object") = some true)
    (l1 : PySem.W.plainGet K C Str.empty = true)
    (l2 : PySem.W.hasDictIn K C = true)
    (l3 : PySem.W.plainOver K C = true)
    (l4 : PySem.W.findIn K (.ref C) "__setattr__" = some (some (.builtin "object.__setattr__")))
    (l5 : PySem.W.findIn K (.ref C) "own_marks" = some none)
    (l6 : PySem.W.findIn K (.ref C) "own_kinds" = some none)
    (l7 : PySem.W.makesIn K C = true)
    (l8' : PySem.W.keepIn K (.ref C) = true)
    (l9' : PySem.W.findIn K (.ref C) "__class__" = some (some (.builtin "object.__class__")))
    (la : PySem.W.mroIn K C (.type "object") = some true)
    (lb : PySem.W.subIn K (.ref C) (.type "tuple") = some false)
    (ld : PySem.W.findIn K (.ref C) "__ne__" = some (some (.builtin "object.__ne__")))
    (le : PySem.W.isClsIn K C = true)
    (lg : PySem.W.typeIn K (.ref C) = some (.type "type"))
    (s0 : PySem.W.subIn K (.type "NoneType") (.ref C) = some false)
    (n0 : PySem.W.notFirst K C (.type "NoneType") = true)
    (s1 : PySem.W.subIn K (.type "bool") (.ref C) = some false)
    (n1 : PySem.W.notFirst K C (.type "bool") = true)
    (s2 : PySem.W.subIn K (.type "int") (.ref C) = some false)
    (n2 : PySem.W.notFirst K C (.type "int") = true)
    (s3 : PySem.W.subIn K (.type "str") (.ref C) = some false)
    (n3 : PySem.W.notFirst K C (.type "str") = true)
    (s4 : PySem.W.subIn K (.type "list") (.ref C) = some false)
    (n4 : PySem.W.notFirst K C (.type "list") = true)
    (s5 : PySem.W.subIn K (.type "tuple") (.ref C) = some false)
    (n5 : PySem.W.notFirst K C (.type "tuple") = true)
    (s6 : PySem.W.subIn K (.type "dict") (.ref C) = some false)
    (n6 : PySem.W.notFirst K C (.type "dict") = true)
    (nC : PySem.W.notFirst K C (.ref C) = true)
    (r1 : PySem.W.readsIn K C (.type "type") = true)
    (r2 : PySem.W.specialIn K (.ref C) "__getattribute__" = some (some (.builtin "type.__getattribute__")))
    (r3 : PySem.W.findCls K (.ref C) (.type "type") "of" = some (.get (.builtin "classmethod.__get__") (.ref pOf) .none (.ref C)))
    (r4 : PySem.W.recIn K pOf "classmethod" = some (.ref fOf :: rOf))
    (r5 : PySem.W.fnIn K fOf = true)
    (u1Mk : PySem.W.findIn K (.ref C) "marks" = some (some (.ref pMk)))
    (u2Mk : PySem.W.specialIn K (.ref pMk) "__get__" = some (some (.builtin "property.__get__")))
    (u3Mk : PySem.W.takesIn K (.ref pMk) = some true)
    (u4Mk : PySem.W.recIn K pMk "property" = some (.ref fMk :: rMk))
    (u1Ki : PySem.W.findIn K (.ref C) "kinds" = some (some (.ref pKi)))
    (u2Ki : PySem.W.specialIn K (.ref pKi) "__get__" = some (some (.builtin "property.__get__")))
    (u3Ki : PySem.W.takesIn K (.ref pKi) = some true)
    (u4Ki : PySem.W.recIn K pKi "property" = some (.ref fKi :: rKi))
    (v1In : PySem.W.findIn K (.ref C) "__init__" = some (some (.ref fIn)))
    (v2In : PySem.W.isFn K (.ref fIn) = true)
    (v1Eq : PySem.W.findIn K (.ref C) "__eq__" = some (some (.ref fEq)))
    (v2Eq : PySem.W.isFn K (.ref fEq) = true)
    (v1Ha : PySem.W.findIn K (.ref C) "__contains__" = some (some (.ref fHa)))
    (v2Ha : PySem.W.isFn K (.ref fHa) = true)
    (v1Le : PySem.W.findIn K (.ref C) "__len__" = some (some (.ref fLe)))
    (v2Le : PySem.W.isFn K (.ref fLe) = true)
    (v1St : PySem.W.findIn K (.ref C) "__str__" = some (some (.ref fSt)))
    (v2St : PySem.W.isFn K (.ref fSt) = true)
    (w0Na : PySem.W.nsIn K mainGlobals "is_name" = some (some (.ref fNa)))
    (w1Na : K.lookup fNa = some ⟨ocNa, odNa, .func (PySem.W.fnOf "is_name" "is_name" (defArgs sName) (defBody sName) (defScope sName) .none kVNa dcNa pmNa anNa cdNa ctNa), slNa⟩)
    (w2Na : PySem.W.codeIn K cdNa "is_name" = true)
    (w3Na : PySem.W.keepIn K (.ref fNa) = true)
    (w0Df : PySem.W.nsIn K mainGlobals "different_names" = some (some (.ref fDf)))
    (w1Df : K.lookup fDf = some ⟨ocDf, odDf, .func (PySem.W.fnOf "different_names" "different_names" (defArgs sDiff) (defBody sDiff) (defScope sDiff) .none kVDf dcDf pmDf anDf cdDf ctDf), slDf⟩)
    (w2Df : PySem.W.codeIn K cdDf "different_names" = true)
    (w3Df : PySem.W.keepIn K (.ref fDf) = true)
    (w0Di : PySem.W.nsIn K mainGlobals "_law_dice" = some (some (.ref fDi)))
    (w1Di : K.lookup fDi = some ⟨ocDi, odDi, .func (PySem.W.fnOf "_law_dice" "_law_dice" (defArgs sDice) (defBody sDice) (defScope sDice) .none kVDi dcDi pmDi anDi cdDi ctDi), slDi⟩)
    (w2Di : PySem.W.codeIn K cdDi "_law_dice" = true)
    (w3Di : PySem.W.keepIn K (.ref fDi) = true)
    (w0Ro : PySem.W.nsIn K mainGlobals "_law_roll" = some (some (.ref fRo)))
    (w1Ro : K.lookup fRo = some ⟨ocRo, odRo, .func (PySem.W.fnOf "_law_roll" "_law_roll" (defArgs sRoll) (defBody sRoll) (defScope sRoll) .none kVRo dcRo pmRo anRo cdRo ctRo), slRo⟩)
    (w2Ro : PySem.W.codeIn K cdRo "_law_roll" = true)
    (w3Ro : PySem.W.keepIn K (.ref fRo) = true)
    (w0Pi : PySem.W.nsIn K mainGlobals "_law_pick" = some (some (.ref fPi)))
    (w1Pi : K.lookup fPi = some ⟨ocPi, odPi, .func (PySem.W.fnOf "_law_pick" "_law_pick" (defArgs sPick) (defBody sPick) (defScope sPick) .none kVPi dcPi pmPi anPi cdPi ctPi), slPi⟩)
    (w2Pi : PySem.W.codeIn K cdPi "_law_pick" = true)
    (w3Pi : PySem.W.keepIn K (.ref fPi) = true)
    (w0Mi : PySem.W.nsIn K mainGlobals "_law_mixed" = some (some (.ref fMi)))
    (w1Mi : K.lookup fMi = some ⟨ocMi, odMi, .func (PySem.W.fnOf "_law_mixed" "_law_mixed" (defArgs sMixed) (defBody sMixed) (defScope sMixed) .none kVMi dcMi pmMi anMi cdMi ctMi), slMi⟩)
    (w2Mi : PySem.W.codeIn K cdMi "_law_mixed" = true)
    (w3Mi : PySem.W.keepIn K (.ref fMi) = true)
    (w0Od : PySem.W.nsIn K mainGlobals "_law_odd" = some (some (.ref fOd)))
    (w1Od : K.lookup fOd = some ⟨ocOd, odOd, .func (PySem.W.fnOf "_law_odd" "_law_odd" (defArgs sOdd) (defBody sOdd) (defScope sOdd) .none kVOd dcOd pmOd anOd cdOd ctOd), slOd⟩)
    (w2Od : PySem.W.codeIn K cdOd "_law_odd" = true)
    (w3Od : PySem.W.keepIn K (.ref fOd) = true)
    (w0Ma : PySem.W.nsIn K mainGlobals "_law_made" = some (some (.ref fMa)))
    (w1Ma : K.lookup fMa = some ⟨ocMa, odMa, .func (PySem.W.fnOf "_law_made" "_law_made" (defArgs sMade) (defBody sMade) (defScope sMade) .none kVMa dcMa pmMa anMa cdMa ctMa), slMa⟩)
    (w2Ma : PySem.W.codeIn K cdMa "_law_made" = true)
    (w3Ma : PySem.W.keepIn K (.ref fMa) = true)
    (w0Rw : PySem.W.nsIn K mainGlobals "_law_rows" = some (some (.ref fRw)))
    (w1Rw : K.lookup fRw = some ⟨ocRw, odRw, .func (PySem.W.fnOf "_law_rows" "_law_rows" (defArgs sRows) (defBody sRows) (defScope sRows) .none kVRw dcRw pmRw anRw cdRw ctRw), slRw⟩)
    (w2Rw : PySem.W.codeIn K cdRw "_law_rows" = true)
    (w3Rw : PySem.W.keepIn K (.ref fRw) = true)
    (w0Ri : PySem.W.nsIn K mainGlobals "_law_right" = some (some (.ref fRi)))
    (w1Ri : K.lookup fRi = some ⟨ocRi, odRi, .func (PySem.W.fnOf "_law_right" "_law_right" (defArgs sRight) (defBody sRight) (defScope sRight) .none kVRi dcRi pmRi anRi cdRi ctRi), slRi⟩)
    (w2Ri : PySem.W.codeIn K cdRi "_law_right" = true)
    (w3Ri : PySem.W.keepIn K (.ref fRi) = true)
    (w0La : PySem.W.nsIn K mainGlobals "law" = some (some (.ref fLa)))
    (w1La : K.lookup fLa = some ⟨ocLa, odLa, .func (PySem.W.fnOf "law" "law" (defArgs sLaw) (defBody sLaw) (defScope sLaw) .none kVLa dcLa pmLa anLa cdLa ctLa), slLa⟩)
    (w2La : PySem.W.codeIn K cdLa "law" = true)
    (w3La : PySem.W.keepIn K (.ref fLa) = true)
    (w1In : K.lookup fIn = some ⟨ocIn, odIn, .func (PySem.W.fnOf "__init__" "Language.__init__" (defArgs sInit) (defBody sInit) (defScope sInit) .none kVIn dcIn pmIn anIn cdIn ctIn), slIn⟩)
    (w2In : PySem.W.codeIn K cdIn "Language.__init__" = true)
    (w3In : PySem.W.keepIn K (.ref fIn) = true)
    (w1Of : K.lookup fOf = some ⟨ocOf, odOf, .func (PySem.W.fnOf "of" "Language.of" (defArgs sOf) (defBody sOf) (defScope sOf) .none kVOf dcOf pmOf anOf cdOf ctOf), slOf⟩)
    (w2Of : PySem.W.codeIn K cdOf "Language.of" = true)
    (w3Of : PySem.W.keepIn K (.ref fOf) = true)
    (w1Mk : K.lookup fMk = some ⟨ocMk, odMk, .func (PySem.W.fnOf "marks" "Language.marks" (defArgs sMarks) (defBody sMarks) (defScope sMarks) .none kVMk dcMk pmMk anMk cdMk ctMk), slMk⟩)
    (w2Mk : PySem.W.codeIn K cdMk "Language.marks" = true)
    (w3Mk : PySem.W.keepIn K (.ref fMk) = true)
    (w1Ki : K.lookup fKi = some ⟨ocKi, odKi, .func (PySem.W.fnOf "kinds" "Language.kinds" (defArgs sKinds) (defBody sKinds) (defScope sKinds) .none kVKi dcKi pmKi anKi cdKi ctKi), slKi⟩)
    (w2Ki : PySem.W.codeIn K cdKi "Language.kinds" = true)
    (w3Ki : PySem.W.keepIn K (.ref fKi) = true)
    (w1Eq : K.lookup fEq = some ⟨ocEq, odEq, .func (PySem.W.fnOf "__eq__" "Language.__eq__" (defArgs sEq) (defBody sEq) (defScope sEq) .none kVEq dcEq pmEq anEq cdEq ctEq), slEq⟩)
    (w2Eq : PySem.W.codeIn K cdEq "Language.__eq__" = true)
    (w3Eq : PySem.W.keepIn K (.ref fEq) = true)
    (w1Ha : K.lookup fHa = some ⟨ocHa, odHa, .func (PySem.W.fnOf "__contains__" "Language.__contains__" (defArgs sHas) (defBody sHas) (defScope sHas) .none kVHa dcHa pmHa anHa cdHa ctHa), slHa⟩)
    (w2Ha : PySem.W.codeIn K cdHa "Language.__contains__" = true)
    (w3Ha : PySem.W.keepIn K (.ref fHa) = true)
    (w1Le : K.lookup fLe = some ⟨ocLe, odLe, .func (PySem.W.fnOf "__len__" "Language.__len__" (defArgs sLen) (defBody sLen) (defScope sLen) .none kVLe dcLe pmLe anLe cdLe ctLe), slLe⟩)
    (w2Le : PySem.W.codeIn K cdLe "Language.__len__" = true)
    (w3Le : PySem.W.keepIn K (.ref fLe) = true)
    (w1St : K.lookup fSt = some ⟨ocSt, odSt, .func (PySem.W.fnOf "__str__" "Language.__str__" (defArgs sStr) (defBody sStr) (defScope sStr) .none kVSt dcSt pmSt anSt cdSt ctSt), slSt⟩)
    (w2St : PySem.W.codeIn K cdSt "Language.__str__" = true)
    (w3St : PySem.W.keepIn K (.ref fSt) = true)
    (z_isinstance : PySem.W.nsIn K mainGlobals "isinstance" = some none)
    (z_tuple : PySem.W.nsIn K mainGlobals "tuple" = some none)
    (z_all : PySem.W.nsIn K mainGlobals "all" = some none)
    (z_any : PySem.W.nsIn K mainGlobals "any" = some none)
    (z_sorted : PySem.W.nsIn K mainGlobals "sorted" = some none)
    (z_list : PySem.W.nsIn K mainGlobals "list" = some none)
    (z_len : PySem.W.nsIn K mainGlobals "len" = some none)
    (z_str : PySem.W.nsIn K mainGlobals "str" = some none)
    (z_int : PySem.W.nsIn K mainGlobals "int" = some none)
    (z_abs : PySem.W.nsIn K mainGlobals "abs" = some none)
    (z_max : PySem.W.nsIn K mainGlobals "max" = some none)
    (z_min : PySem.W.nsIn K mainGlobals "min" = some none)
    (z_range : PySem.W.nsIn K mainGlobals "range" = some none)
    (z_set : PySem.W.nsIn K mainGlobals "set" = some none)
    (z_repr : PySem.W.nsIn K mainGlobals "repr" = some none)
    (z_super : PySem.W.nsIn K mainGlobals "super" = some none)
    (z_ValueError : PySem.W.nsIn K mainGlobals "ValueError" = some none)
    (g8 : PySem.W.nsIn K mainGlobals "MAX_MARKS" = some (some (.int 8 t8)))
    (g4 : PySem.W.nsIn K mainGlobals "MAX_KINDS" = some (some (.int 4 t4)))
    (g9 : PySem.W.nsIn K mainGlobals "MAX_SIGNS" = some (some (.int 8 t9)))
    (gs : PySem.W.nsIn K mainGlobals "SIGNS" = some (some (.str "abcdefghijklmnopqrstuvwxyz" ts)))
    : ∃ fd : FuncData, (∀ (s : Shared) (u : Value), BindsTo s fd ⟨[u], []⟩ [("_law_script", u)]) ∧ ∀ base : Heap, K.In base → base.Ns mainGlobals mg → FnOk P w K mg base CX0 9 fa fd ["_law_script"] (spLaw K) := by
  have e := hfa.symm.trans (PySem.W.mg_of X G w0La)
  cases e
  have T : TreeTxt P K mg "InvalidLanguage" CI CT fI := {
    gC := PySem.W.mg_of X G aI, cls := ⟨nm, q, N, bs, _, sn, sub, ab, col, dd, m0, m1, m2, m3, m5, xI, mro_in⟩, iC := iI, tC := tfI, kC := kI, exC := bI, tyC := tI, suB := vI, sup := sup_in xI neI, opq := opq,
    fn := ⟨_, _, _, _, _, _, _, _, _, _, _, _, _, _, _, _, _, _, _, _, _, _, _, _, _, _, lI, cI, lc, lv, lf, lx, ev⟩, clD := ⟨_, cT⟩, inD := mT, noS := PySem.W.mg_none_of X G z_super, topS := tS }
  have L : LCls K C := ⟨⟨l1, l2, l3, l4⟩, l5, l6⟩
  have Mm : Mk K C fIn := ⟨l7, v1In, v2In, l8'⟩
  have Is : LIs K C := ⟨l9', e5, e6, la, by unfold PySem.W.kitOne; rw [if_pos (beq_self_eq_true _)], kit_refB (by decide +kernel) lb⟩
  have Tn : TyNo K C := ⟨kit_ref le lg (ty_ne _ _) s0, kit_ref le lg (ty_ne _ _) s1, kit_ref le lg (ty_ne _ _) s2, kit_ref le lg (ty_ne _ _) s3, kit_ref le lg (ty_ne _ _) s4, kit_ref le lg (ty_ne _ _) s5, kit_ref le lg (ty_ne _ _) s6, n0, n1, n2, n3, n4, n5, n6, nC⟩
  have Er : ErrIs K CI CT := ⟨⟨e1, e2, bI, e3, e4, e5, e6, e7⟩, exm_me bI iCI tI sI, kit_refT iCT tT sT, kit_refB (by decide +kernel) vI⟩
  have cr : CRead K C (.type "type") := ⟨r1, r2⟩
  have cm : CMet K C (.type "type") "of" pOf fOf := ⟨r3, ⟨_, r4⟩, r5⟩
  have pMk' : PropOf K C "marks" pMk fMk := ⟨u1Mk, u2Mk, u3Mk, ⟨_, u4Mk⟩⟩
  have pKi' : PropOf K C "kinds" pKi fKi := ⟨u1Ki, u2Ki, u3Ki, ⟨_, u4Ki⟩⟩
  have FNa := fun_mk (st := sName) w1Na w2Na w3Na
  have FDf := fun_mk (st := sDiff) w1Df w2Df w3Df
  have FDi := fun_mk (st := sDice) w1Di w2Di w3Di
  have FRo := fun_mk (st := sRoll) w1Ro w2Ro w3Ro
  have FPi := fun_mk (st := sPick) w1Pi w2Pi w3Pi
  have FMi := fun_mk (st := sMixed) w1Mi w2Mi w3Mi
  have FOd := fun_mk (st := sOdd) w1Od w2Od w3Od
  have FMa := fun_mk (st := sMade) w1Ma w2Ma w3Ma
  have FRw := fun_mk (st := sRows) w1Rw w2Rw w3Rw
  have FRi := fun_mk (st := sRight) w1Ri w2Ri w3Ri
  have FLa := fun_mk (st := sLaw) w1La w2La w3La
  have FIn := fun_mk (st := sInit) w1In w2In w3In
  have FOf := fun_mk (st := sOf) w1Of w2Of w3Of
  have FMk := fun_mk (st := sMarks) w1Mk w2Mk w3Mk
  have FKi := fun_mk (st := sKinds) w1Ki w2Ki w3Ki
  have FEq := fun_mk (st := sEq) w1Eq w2Eq w3Eq
  have FHa := fun_mk (st := sHas) w1Ha w2Ha w3Ha
  have FLe := fun_mk (st := sLen) w1Le w2Le w3Le
  have FSt := fun_mk (st := sStr) w1St w2St w3St
  have bNa := FNa.binds (ps := ["value"]) fun _ _ _ _ _ _ us hl => match us, hl with | [_], _ => rfl
  have bDf := FDf.binds (ps := ["values"]) fun _ _ _ _ _ _ us hl => match us, hl with | [_], _ => rfl
  have bDi := FDi.binds (ps := ["_law_script", "_law_spot"]) fun _ _ _ _ _ _ us hl => match us, hl with | [_, _], _ => rfl
  have bRo := FRo.binds (ps := ["_law_dice_here", "_law_upto"]) fun _ _ _ _ _ _ us hl => match us, hl with | [_, _], _ => rfl
  have bPi := FPi.binds (ps := ["_law_dice_here", "_law_items"]) fun _ _ _ _ _ _ us hl => match us, hl with | [_, _], _ => rfl
  have bMi := FMi.binds (ps := ["_law_dice_here", "_law_items"]) fun _ _ _ _ _ _ us hl => match us, hl with | [_, _], _ => rfl
  have bOd := FOd.binds (ps := ["_law_dice_here"]) fun _ _ _ _ _ _ us hl => match us, hl with | [_], _ => rfl
  have bMa := FMa.binds (ps := ["_law_marks", "_law_sorts"]) fun _ _ _ _ _ _ us hl => match us, hl with | [_, _], _ => rfl
  have bRw := FRw.binds (ps := ["_law_dice_here"]) fun _ _ _ _ _ _ us hl => match us, hl with | [_], _ => rfl
  have bRi := FRi.binds (ps := ["_law_dice_here"]) fun _ _ _ _ _ _ us hl => match us, hl with | [_], _ => rfl
  have bLa := FLa.binds (ps := ["_law_script"]) fun _ _ _ _ _ _ us hl => match us, hl with | [_], _ => rfl
  have bOf := FOf.binds (ps := ["cls", "marks", "kinds"]) fun _ _ _ _ _ _ us hl => match us, hl with | [_, _, _], _ => rfl
  have bMk := FMk.binds (ps := ["self"]) fun _ _ _ _ _ _ us hl => match us, hl with | [_], _ => rfl
  have bKi := FKi.binds (ps := ["self"]) fun _ _ _ _ _ _ us hl => match us, hl with | [_], _ => rfl
  have bEq := FEq.binds (ps := ["self", "other"]) fun _ _ _ _ _ _ us hl => match us, hl with | [_, _], _ => rfl
  have bHa := FHa.binds (ps := ["self", "value"]) fun _ _ _ _ _ _ us hl => match us, hl with | [_, _], _ => rfl
  have bLe := FLe.binds (ps := ["self"]) fun _ _ _ _ _ _ us hl => match us, hl with | [_], _ => rfl
  have bSt := FSt.binds (ps := ["self"]) fun _ _ _ _ _ _ us hl => match us, hl with | [_], _ => rfl
  have m_isinstance := PySem.W.mg_none_of X G z_isinstance
  have m_tuple := PySem.W.mg_none_of X G z_tuple
  have m_all := PySem.W.mg_none_of X G z_all
  have m_any := PySem.W.mg_none_of X G z_any
  have m_sorted := PySem.W.mg_none_of X G z_sorted
  have m_list := PySem.W.mg_none_of X G z_list
  have m_len := PySem.W.mg_none_of X G z_len
  have m_str := PySem.W.mg_none_of X G z_str
  have m_int := PySem.W.mg_none_of X G z_int
  have m_abs := PySem.W.mg_none_of X G z_abs
  have m_max := PySem.W.mg_none_of X G z_max
  have m_min := PySem.W.mg_none_of X G z_min
  have m_range := PySem.W.mg_none_of X G z_range
  have m_set := PySem.W.mg_none_of X G z_set
  have m_repr := PySem.W.mg_none_of X G z_repr
  have m_super := PySem.W.mg_none_of X G z_super
  have m_ValueError := PySem.W.mg_none_of X G z_ValueError
  have gC := PySem.W.mg_of X G aC
  have gI := PySem.W.mg_of X G aI
  have gT := PySem.W.mg_of X G aT
  have g8' := PySem.W.mg_of X G g8
  have g4' := PySem.W.mg_of X G g4
  have g9' := PySem.W.mg_of X G g9
  have gs' : mg "SIGNS" = some (.str signs ts) := PySem.W.mg_of X G gs
  refine ⟨PySem.W.fnOf "law" "law" (defArgs sLaw) (defBody sLaw) (defScope sLaw) .none kVLa dcLa pmLa anLa cdLa ctLa, fun s u => .of_eq rfl, fun base _ _ => ?_⟩
  have GN : ∀ k, FnOk P w K mg base CX0 (k + 1) fNa _ ["value"] (spName K) := fun k => ok_name FNa m_isinstance m_str m_len m_all g9' gs'
  have GD : ∀ k, FnOk P w K mg base (L2.CX P w) (k + 3) fDf _ ["values"] (spDiff K CI) := fun k => ok_diff FDf T (GN k) bNa (PySem.W.mg_of X G w0Na) w3Na m_isinstance m_tuple m_all m_sorted m_list
  have GI : ∀ k, FnA P w K mg base (L2.CX P w) (k + 4) fIn ["kinds"] (spInit K C CI) := fun k => ok_init FIn L T (GD k) bDf (PySem.W.mg_of X G w0Df) w3Df m_len m_any g8' g4'
  have GO : ∀ k, FnOk P w K mg base (L2.CX P w) (k + 6) fOf _ ["cls", "marks", "kinds"] (spOf K C CI) := fun k => ok_of FOf Mm T (GI k) m_isinstance m_tuple
  have GMa : ∀ k, FnOk P w K mg base CX0 (k + 7) fMa _ ["_law_marks", "_law_sorts"] (spMade K C) := fun k => ok_made FMa (GO k) bOf cr cm Er gC gI gT m_isinstance m_ValueError
  have GR : ∀ k, FnOk P w K mg base CX0 (k + 1) fRo _ ["_law_dice_here", "_law_upto"] spRoll := fun k => ok_roll FRo m_int
  have GP : ∀ k, FnOk P w K mg base CX0 (k + 2) fPi _ ["_law_dice_here", "_law_items"] (spPick K) := fun k => ok_pick FPi FRo bRo (PySem.W.mg_of X G w0Ro) m_int m_len
  have GX : ∀ k, FnOk P w K mg base CX0 (k + 2) fMi _ ["_law_dice_here", "_law_items"] (spMixed K) := fun k => ok_mixed FMi FRo bRo (PySem.W.mg_of X G w0Ro) m_int m_len m_list
  have GRw : ∀ k, FnOk P w K mg base CX0 (k + 3) fRw _ ["_law_dice_here"] spRows := fun k => ok_rows FRw w3Ro w3Pi w3Mi (GR (k + 1)) bRo (PySem.W.mg_of X G w0Ro) (GP k) bPi (PySem.W.mg_of X G w0Pi) (GX k) bMi (PySem.W.mg_of X G w0Mi)
  have GOd : ∀ k, FnOk P w K mg base CX0 (k + 3) fOd _ ["_law_dice_here"] spOdd := fun k => ok_odd FOd FPi (GP k) bPi (PySem.W.mg_of X G w0Pi)
  have GMk : FnOk P w K mg base CX0 1 fMk _ ["self"] (spMarks C true) := ok_marks FMk L
  have GKi : FnOk P w K mg base CX0 1 fKi _ ["self"] (spMarks C false) := ok_kinds FKi L
  have M : Meths P w K mg base C fEq fHa fLe fSt := ⟨⟨v1Eq, v2Eq⟩, ⟨v1Ha, v2Ha⟩, ⟨v1Le, v2Le⟩, ⟨v1St, v2St⟩, ld, la, rawN (ok_eq FEq L Is gC m_isinstance) bEq, rawN (ok_has FHa L) bHa, rawN (ok_len FLe L m_len) bLe, rawN (ok_str FSt L m_len) bSt⟩
  have GRi : FnOk P w K mg base CX0 8 fRi _ ["_law_dice_here"] spRight := ok_right (k := 7) FRi (by decide) (GRw 4) bRw (PySem.W.mg_of X G w0Rw) w3Rw (GOd 4) bOd (PySem.W.mg_of X G w0Od) w3Od (GMa 0) bMa (PySem.W.mg_of X G w0Ma) w3Ma (GN 6) bNa (PySem.W.mg_of X G w0Na) w3Na (GO 1) bOf cr cm gC L GMk bMk pMk' GKi bKi pKi' M Tn m_sorted m_set m_len m_tuple m_repr m_list m_str
  exact ok_law (k := 8) (j := 4) FLa (by decide) (by decide) (ok_dice FDi m_int m_len m_abs m_max) bDi (PySem.W.mg_of X G w0Di) w3Di GRi bRi (PySem.W.mg_of X G w0Ri) w3Ri (GMa 1) bMa (PySem.W.mg_of X G w0Ma) w3Ma (GN 7) bNa (PySem.W.mg_of X G w0Na) w3Na (GO 2) bOf cr cm gC Mm (GI 0) L GMk bMk pMk' M Tn g8' g4' m_range m_max m_min m_len
end Tf

open PySem PySem.W PyProof.Rows
set_option maxRecDepth 100000 in
set_option maxHeartbeats 0 in
theorem PySem.Challenge.cw_treefits_k01_names_and_languages_holds : PySem.Challenge.rw_treefits_k01_names_and_languages.Holds := by
  w_on; o_law; k_head; (case hw => w_witness2)
  k_fill
  refine L2.walk_ofK (l := PySem.Challenge.rw_treefits_k01_names_and_languages) (n := 63) (k := 9) (x := "_law_script") (CX := L2.CX0) (sp := Tf.spLaw) rfl (by decide) rfl ⟨rfl, by decide, by decide⟩ (fun w h Y => PySem.W.kIn_of Y) ?F (fun K H a ns hl _ hS => ⟨a, ns, rfl, hS, hl, fun _ => rfl⟩) (fun _ _ _ _ h => h)
  case F =>
    intro w mg fa h KX G hmg
    refine' Tf.all_mk KX G hmg ?zq_aC ?zq_aI ?zq_aT ?zq_xI ?zq_neI ?zq_iI ?zq_tfI ?zq_kI ?zq_bI ?zq_tI ?zq_vI ?zq_opq ?zq_lI ?zq_cI ?zq_lc ?zq_lv ?zq_lf ?zq_lx ?zq_ev ?zq_cT ?zq_mT ?zq_tS ?zq_sI ?zq_iCI ?zq_sT ?zq_iCT ?zq_tT ?zq_e1 ?zq_e2 ?zq_e3 ?zq_e4 ?zq_e5 ?zq_e6 ?zq_e7 ?zq_l1 ?zq_l2 ?zq_l3 ?zq_l4 ?zq_l5 ?zq_l6 ?zq_l7 ?zq_l8p ?zq_l9p ?zq_la ?zq_lb ?zq_ld ?zq_le ?zq_lg ?zq_s0 ?zq_n0 ?zq_s1 ?zq_n1 ?zq_s2 ?zq_n2 ?zq_s3 ?zq_n3 ?zq_s4 ?zq_n4 ?zq_s5 ?zq_n5 ?zq_s6 ?zq_n6 ?zq_nC ?zq_r1 ?zq_r2 ?zq_r3 ?zq_r4 ?zq_r5 ?zq_u1Mk ?zq_u2Mk ?zq_u3Mk ?zq_u4Mk ?zq_u1Ki ?zq_u2Ki ?zq_u3Ki ?zq_u4Ki ?zq_v1In ?zq_v2In ?zq_v1Eq ?zq_v2Eq ?zq_v1Ha ?zq_v2Ha ?zq_v1Le ?zq_v2Le ?zq_v1St ?zq_v2St ?zq_w0Na ?zq_w1Na ?zq_w2Na ?zq_w3Na ?zq_w0Df ?zq_w1Df ?zq_w2Df ?zq_w3Df ?zq_w0Di ?zq_w1Di ?zq_w2Di ?zq_w3Di ?zq_w0Ro ?zq_w1Ro ?zq_w2Ro ?zq_w3Ro ?zq_w0Pi ?zq_w1Pi ?zq_w2Pi ?zq_w3Pi ?zq_w0Mi ?zq_w1Mi ?zq_w2Mi ?zq_w3Mi ?zq_w0Od ?zq_w1Od ?zq_w2Od ?zq_w3Od ?zq_w0Ma ?zq_w1Ma ?zq_w2Ma ?zq_w3Ma ?zq_w0Rw ?zq_w1Rw ?zq_w2Rw ?zq_w3Rw ?zq_w0Ri ?zq_w1Ri ?zq_w2Ri ?zq_w3Ri ?zq_w0La ?zq_w1La ?zq_w2La ?zq_w3La ?zq_w1In ?zq_w2In ?zq_w3In ?zq_w1Of ?zq_w2Of ?zq_w3Of ?zq_w1Mk ?zq_w2Mk ?zq_w3Mk ?zq_w1Ki ?zq_w2Ki ?zq_w3Ki ?zq_w1Eq ?zq_w2Eq ?zq_w3Eq ?zq_w1Ha ?zq_w2Ha ?zq_w3Ha ?zq_w1Le ?zq_w2Le ?zq_w3Le ?zq_w1St ?zq_w2St ?zq_w3St ?zq_z_isinstance ?zq_z_tuple ?zq_z_all ?zq_z_any ?zq_z_sorted ?zq_z_list ?zq_z_len ?zq_z_str ?zq_z_int ?zq_z_abs ?zq_z_max ?zq_z_min ?zq_z_range ?zq_z_set ?zq_z_repr ?zq_z_super ?zq_z_ValueError ?zq_g8 ?zq_g4 ?zq_g9 ?zq_gs
    (case zq_aC => k_is)
    (case zq_aI => k_is)
    (case zq_aT => k_is)
    (case zq_xI => k_is)
    (case zq_neI => decide)
    (case zq_iI => k_is)
    (case zq_tfI => k_is)
    (case zq_kI => k_is)
    (case zq_bI => k_is)
    (case zq_tI => k_is)
    (case zq_vI => k_is)
    (case zq_opq => k_is)
    (case zq_lI => k_is)
    (case zq_cI => k_is)
    (case zq_lc => k_is)
    (case zq_lv => rfl)
    (case zq_lf => decide +kernel)
    (case zq_lx => k_is)
    (case zq_ev => exact fun env => ⟨_, rfl⟩)
    (case zq_cT => k_is)
    (case zq_mT => k_is)
    (case zq_tS => decide +kernel)
    (case zq_sI => first | k_is | rfl)
    (case zq_iCI => k_is)
    (case zq_sT => k_is)
    (case zq_iCT => k_is)
    (case zq_tT => k_is)
    (case zq_e1 => k_is)
    (case zq_e2 => k_is)
    (case zq_e3 => k_is)
    (case zq_e4 => k_is)
    (case zq_e5 => k_is)
    (case zq_e6 => k_is)
    (case zq_e7 => k_is)
    (case zq_l1 => k_is)
    (case zq_l2 => k_is)
    (case zq_l3 => k_is)
    (case zq_l4 => k_is)
    (case zq_l5 => k_is)
    (case zq_l6 => k_is)
    (case zq_l7 => k_is)
    (case zq_l8p => k_is)
    (case zq_l9p => k_is)
    (case zq_la => k_is)
    (case zq_lb => k_is)
    (case zq_ld => k_is)
    (case zq_le => k_is)
    (case zq_lg => k_is)
    (case zq_s0 => k_is)
    (case zq_n0 => k_is)
    (case zq_s1 => k_is)
    (case zq_n1 => k_is)
    (case zq_s2 => k_is)
    (case zq_n2 => k_is)
    (case zq_s3 => k_is)
    (case zq_n3 => k_is)
    (case zq_s4 => k_is)
    (case zq_n4 => k_is)
    (case zq_s5 => k_is)
    (case zq_n5 => k_is)
    (case zq_s6 => k_is)
    (case zq_n6 => k_is)
    (case zq_nC => k_is)
    (case zq_r1 => k_is)
    (case zq_r2 => k_is)
    (case zq_r3 => k_is)
    (case zq_r4 => k_is)
    (case zq_r5 => k_is)
    (case zq_u1Mk => k_is)
    (case zq_u2Mk => k_is)
    (case zq_u3Mk => k_is)
    (case zq_u4Mk => k_is)
    (case zq_u1Ki => k_is)
    (case zq_u2Ki => k_is)
    (case zq_u3Ki => k_is)
    (case zq_u4Ki => k_is)
    (case zq_v1In => k_is)
    (case zq_v2In => k_is)
    (case zq_v1Eq => k_is)
    (case zq_v2Eq => k_is)
    (case zq_v1Ha => k_is)
    (case zq_v2Ha => k_is)
    (case zq_v1Le => k_is)
    (case zq_v2Le => k_is)
    (case zq_v1St => k_is)
    (case zq_v2St => k_is)
    (case zq_w0Na => k_is)
    (case zq_w1Na => k_is)
    (case zq_w2Na => k_is)
    (case zq_w3Na => k_is)
    (case zq_w0Df => k_is)
    (case zq_w1Df => k_is)
    (case zq_w2Df => k_is)
    (case zq_w3Df => k_is)
    (case zq_w0Di => k_is)
    (case zq_w1Di => k_is)
    (case zq_w2Di => k_is)
    (case zq_w3Di => k_is)
    (case zq_w0Ro => k_is)
    (case zq_w1Ro => k_is)
    (case zq_w2Ro => k_is)
    (case zq_w3Ro => k_is)
    (case zq_w0Pi => k_is)
    (case zq_w1Pi => k_is)
    (case zq_w2Pi => k_is)
    (case zq_w3Pi => k_is)
    (case zq_w0Mi => k_is)
    (case zq_w1Mi => k_is)
    (case zq_w2Mi => k_is)
    (case zq_w3Mi => k_is)
    (case zq_w0Od => k_is)
    (case zq_w1Od => k_is)
    (case zq_w2Od => k_is)
    (case zq_w3Od => k_is)
    (case zq_w0Ma => k_is)
    (case zq_w1Ma => k_is)
    (case zq_w2Ma => k_is)
    (case zq_w3Ma => k_is)
    (case zq_w0Rw => k_is)
    (case zq_w1Rw => k_is)
    (case zq_w2Rw => k_is)
    (case zq_w3Rw => k_is)
    (case zq_w0Ri => k_is)
    (case zq_w1Ri => k_is)
    (case zq_w2Ri => k_is)
    (case zq_w3Ri => k_is)
    (case zq_w0La => k_is)
    (case zq_w1La => k_is)
    (case zq_w2La => k_is)
    (case zq_w3La => k_is)
    (case zq_w1In => k_is)
    (case zq_w2In => k_is)
    (case zq_w3In => k_is)
    (case zq_w1Of => k_is)
    (case zq_w2Of => k_is)
    (case zq_w3Of => k_is)
    (case zq_w1Mk => k_is)
    (case zq_w2Mk => k_is)
    (case zq_w3Mk => k_is)
    (case zq_w1Ki => k_is)
    (case zq_w2Ki => k_is)
    (case zq_w3Ki => k_is)
    (case zq_w1Eq => k_is)
    (case zq_w2Eq => k_is)
    (case zq_w3Eq => k_is)
    (case zq_w1Ha => k_is)
    (case zq_w2Ha => k_is)
    (case zq_w3Ha => k_is)
    (case zq_w1Le => k_is)
    (case zq_w2Le => k_is)
    (case zq_w3Le => k_is)
    (case zq_w1St => k_is)
    (case zq_w2St => k_is)
    (case zq_w3St => k_is)
    (case zq_z_isinstance => k_is)
    (case zq_z_tuple => k_is)
    (case zq_z_all => k_is)
    (case zq_z_any => k_is)
    (case zq_z_sorted => k_is)
    (case zq_z_list => k_is)
    (case zq_z_len => k_is)
    (case zq_z_str => k_is)
    (case zq_z_int => k_is)
    (case zq_z_abs => k_is)
    (case zq_z_max => k_is)
    (case zq_z_min => k_is)
    (case zq_z_range => k_is)
    (case zq_z_set => k_is)
    (case zq_z_repr => k_is)
    (case zq_z_super => k_is)
    (case zq_z_ValueError => k_is)
    (case zq_g8 => k_is)
    (case zq_g4 => k_is)
    (case zq_g9 => k_is)
    (case zq_gs => k_is)

