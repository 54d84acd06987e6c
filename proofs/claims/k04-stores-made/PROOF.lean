import PyProof.Rows.All
import Wide.All
import OpenK.AllK
import Wide.FinOn
import KE.KExcSuper
import KE.KCallOwn
import KE.KFmtOwn
import HandS.ForMost
import HandS.ForExc
import HandS.More
import HandS.Star
import HandS.ClsMeth
import HandS.Property
import HandS.IsInst
import HandS.ExcIs
import HandS.OwnEq
import HandS.Deep
import HandS.Strs
import HandS.SetKeys
import HandS.DictComp
import HandS.Conv
import HandS.Style
import HandS.FStr
import HandS.CallSlots
import HandS.Wide
import HandS.TupAny
import HandS.Flow
import HandS.Defaults
import HandS.Set
import HandS.SetFor
import HandS.Walk
import HandS.TupSets
import KE.KeyNested
import KE.SortData
import KE.DatumMoreOrd
import HandS.Finally
import HandS.ListItems
import HandS.DictSub
import HandS.Small
import PyProof.Conv_bool
import PySem.Challenge.RW_treefits_k04_stores_made
set_option Elab.async false
set_option linter.all false
set_option maxRecDepth 100000
set_option maxHeartbeats 4000000
/-! own special methods: len(o), x in o, o == x, o != x, str(o) -/
namespace PySem
namespace TfO
open PySem.W PySem.Calls PyProof.Rows
section
variable {prog : Program} {w : World} {M : Model} {A : Around} {E : Value → Shared → Prop} {s : Shared} {K : Frag} {x C f : Addr} {ox : Obj} {od : Option Obj} {b tb : Value}
theorem ifBound_B {name : Str} {id : String} {args : List Value} {Q : Option Value → Shared → Prop} (X : K.In s.heap) (I : InstAt s.heap x ox C od) (hs : findIn K (.ref C) name = some (some (.builtin id)))
    (hb : ∀ self, bindSpecial (.builtin id) self = pure (.builtin id, [self])) (h : wpAny M A (call (.builtin id) (.ref x :: args)) (fun v => Q (some v)) E s) : wpAny M A (callSpecialIfBound? (.ref x) name args) Q E s := by
  simp only [callSpecialIfBound?, bindSpecialIfBound?]
  refine wpAny_holding (wpAny_bind (wpAny_bind (wpAny_bind (I.type.here ((looks_findIn X hs).here ?_)))))
  refine wpAny_bind (wpAny_askSetting (wpAny_ite ?_))
  have fin : wpAny M A (call (.builtin id) ([.ref x] ++ args) >>= fun v => pure (some v)) Q E s := wpAny_bind (wpAny_mono h (fun v s' h' => wpAny_pure h') fun _ _ h' => h')
  split
  · exact wpAny_bind ((Looks.of_pure (hb _)).here (wpAny_pure (by exact fin)))
  · exact wpAny_tryCatch (wpAny_bind ((Looks.of_pure (hb _)).here (wpAny_pure (by exact fin))))
theorem slot_one : Slot "object" "__ne__" "object.__ne__" := .of (owner := "object") (n := "__ne__") (by rw [typeLookup_type, builtinLookup_eq_fast]; kernel_rfl) (by decide +kernel) (by decide +kernel) (by decide +kernel) (by first | exact .inl (by decide +kernel) | exact .inr (by decide +kernel)) (by rw [isSubtype_type]; kernel_rfl)
/-- o != b: no own __ne__, an own __eq__ that answers with a bool -/
theorem ne_K {Q : Value → Shared → Prop} (hu : A.units + 1 < cLine) (X : K.In s.heap) (I : InstAt s.heap x ox C od) (hb : Looks (model prog w) s.heap (typeOf b) tb) (hn : notFirst K C tb = true)
    (hs : findIn K (.ref C) "__eq__" = some (some (.ref f))) (hf : isFn K (.ref f) = true) (hne : findIn K (.ref C) "__ne__" = some (some (.builtin "object.__ne__"))) (hm : mroIn K C (.type "object") = some true)
    (h : wpAny (model prog w) A.in1 (call (.ref f) [.ref x, b]) (fun v s' => ∃ r, v = .bool r ∧ Q (.bool (!r)) s') E s) : wpAny (model prog w) A (richCompare .NotEq (.ref x) b) Q E s := by
  have one : wpAny (model prog w) A (tryCompare (.ref x) (cmpInfo .NotEq).2.1 b) (fun r s' => ∃ v, r = some v ∧ Q v s') E s := by
    unfold tryCompare
    refine wpAny_bind (ifBound_B (name := "__ne__") X I hne slot_one.bind ?_)
    refine wpAny_call (codeAny_call_builtin slot_one.plain F.cmpEntry_ne (check_slot (i := "object.__ne__") (owner := "object") (n := "__ne__") F.cmpKind_ne F.cmpSplit_ne (I.type.andThen (looks_mroIn X hm)) (F.cmpArgs_ne _ _) ?_))
    unfold Builtin.«object.__ne__»
    refine wpAny_bind (m := slotArgs "__ne__" 1 _) (wpAny_pure ?_)
    refine wpAny_bind (m := cRoomFor _ _) (wpAny_cRoomFor hu ?_)
    refine wpAny_bind (m := callSpecialIfBound? (.ref x) (Str.ofString "__eq__") _) (ifBound_K X I hs hf (wpAny_mono h (fun r s' hq => ?_) fun _ _ y => y))
    obtain ⟨r, rfl, hq⟩ := hq
    refine wpAny_bind (m := truthy (.bool r)) (wpAny_truthy_bool ?_)
    exact wpAny_pure (wpAny_pure ⟨_, rfl, hq⟩)
  unfold richCompare
  simp only [oneThing_ref]
  refine wpAny_holding (wpAny_bind (wpAny_cRoomFor (Nat.lt_of_succ_lt hu) ?_))
  refine wpAny_bind (I.type.here (wpAny_bind (hb.here ?_)))
  split
  · rename_i q
    have e : subIn K tb (.ref C) = some false := by
      rcases Bool.or_eq_true_iff.mp hn with e | e
      · rw [beq_iff_eq.mp e] at q; simp at q
      · exact beq_iff_eq.mp e
    refine wpAny_bind ((looks_subIn X e).here ?_)
    simp only [Bool.false_eq_true, if_false]
    refine wpAny_bind (wpAny_mono one (fun r s' z => ?_) fun _ _ e => e)
    obtain ⟨v, rfl, hq⟩ := z
    exact wpAny_pure hq
  · refine wpAny_bind (wpAny_pure ?_)
    simp only [Bool.false_eq_true, if_false]
    refine wpAny_bind (wpAny_mono one (fun r s' z => ?_) fun _ _ e => e)
    obtain ⟨v, rfl, hq⟩ := z
    exact wpAny_pure hq
end
end TfO
end PySem
namespace L2
open PySem PySem.Spec PyProof.Rows
section
variable {X : Cx} {CX : CXT} {k : Nat} {f C : Addr} {sp : Sp} {E : XK}
theorem run_sub {pins : List (Addr × Obj)} {σ : St} {H : Hp} {s : Shared} {Q : VK} {A : Around} {us : List Value} {vs : List V} (F : FnR X.prog X.w X.K X.mg X.base CX k f sp) (sb : Sub X k A) (hx : Passes CX X E) (I : Inv X pins σ H s) (r : Vals vs us) (h : sp vs H Q E) :
    wpAny (model X.prog X.w) A (call (.ref f) us) (EP X pins σ Q) X.xe s := by
  have e0 : Env0 X.prog X.w X.K X.mg X.base A X.stack s H := by
    have e := I.env0
    exact ⟨by rw [sb.fr]; exact e.frames, e.mod, e.bs, e.bsz, e.funs, e.frf, e.hok, e.bare⟩
  refine wpAny_call (codeAny_mono (F A X.stack s H us vs Q E sb.room e0 r h) fun r s' hq => ?_)
  cases r with
  | error e => exact hx pins σ H s e s' I hq
  | ok fl =>
    cases fl with
    | ret w => exact I.after hq
    | next => exact False.elim hq
    | brk => exact False.elim hq
    | cont => exact False.elim hq
theorem sub0 (hr : Room k X.A) : Sub X k X.A := ⟨hr, rfl⟩
theorem sub1 (hr : Room (k + 1) X.A) : Sub X k X.A.in1 := ⟨hr.in1, rfl⟩
theorem sub2 (hr : Room (k + 2) X.A) : Sub X k X.A.in1.in1 := ⟨hr.in1.in1, rfl⟩
/-- an instance as the library sees it -/
theorem ins_at {pins : List (Addr × Obj)} {σ : St} {H : Hp} {s : Shared} {a dx : Addr} {fs : List (Str × V)} (I : Inv X pins σ H s) (h : H a = some (.ins C dx fs)) : ∃ ox od, PySem.W.InstAt s.heap a ox C od := by
  obtain ⟨mA, O, _⟩ := ins_get I.hok h
  obtain ⟨od, J, _⟩ := O.look
  exact ⟨_, _, J⟩
/-- C's special method named m is the def at f -/
structure OwnM (K : PySem.W.Frag) (C : Addr) (m : Str) (f : Addr) : Prop where
  at_ : PySem.W.findIn K (.ref C) m = some (some (.ref f))
  fn : PySem.W.isFn K (.ref f) = true
def bk (Q : VK) : VK := fun v H' => ∃ b, v = .bl b ∧ Q (.bl b) H'
/-- len(o) -/
def rLenO (C : Addr) (sp : Sp) (E : XK) : List V → Hp → VK → Prop := fun xs H Q => ∃ a dx fs, xs = [.ref a] ∧ H a = some (.ins C dx fs) ∧ sp [.ref a] H (fun v H' => ∃ n : Int, v = .int n ∧ 0 ≤ n ∧ n < 2 ^ 63 ∧ Q (.int n) H') E
theorem call_lenO (o : OwnM X.K C "__len__" f) (F : FnR X.prog X.w X.K X.mg X.base CX k f sp) (hr : Room (k + 1) X.A) (hx : Passes CX X E) : CallR X (.builtin "len") (rLenO C sp E) := by
  intro pins s σ H xs us Q I r h
  obtain ⟨a, dx, fs, rfl, ha, h⟩ := h
  cases r with
  | cons ra rn =>
    cases rn
    cases ra
    obtain ⟨ox, od, J⟩ := ins_at I ha
    obtain ⟨m, hF⟩ := I.fr
    refine PySem.W.len_K hF I.ok.mod.kin J o.at_ o.fn (wpAny_mono (run_sub F (sub1 hr) hx I (vs := [.ref a]) (.cons rfl .nil) h) (fun v s' q => ?_) fun _ _ z => z)
    obtain ⟨v', H', I', rv, n, rfl, h0, h1, q⟩ := q
    obtain ⟨t, rfl⟩ := rv
    exact ⟨⟨h0, h1⟩, .int n, H', I'.tok _, ⟨_, rfl⟩, q⟩
/-- x in o, x not in o -/
def rInO (C : Addr) (sp : Sp) (E : XK) (neg : Bool) : R2 := fun x y H Q => ∃ a dx fs, y = .ref a ∧ H a = some (.ins C dx fs) ∧ sp [.ref a, x] H (fun v H' => ∃ b, v = .bl b ∧ Q (.bl (if neg then !b else b)) H') E
theorem op_inO (o : OwnM X.K C "__contains__" f) (F : FnR X.prog X.w X.K X.mg X.base CX k f sp) (hr : Room k X.A) (hx : Passes CX X E) : OpR X (compareOp .In) (rInO C sp E false) := by
  intro pins s σ H x y u v Q I rx ry h
  obtain ⟨a, dx, fs, rfl, ha, h⟩ := h
  cases ry
  obtain ⟨ox, od, J⟩ := ins_at I ha
  obtain ⟨m, hF⟩ := I.fr
  refine PySem.W.in_K hF I.ok.mod.kin J o.at_ o.fn (wpAny_mono (run_sub F (sub0 hr) hx I (vs := [.ref a, x]) (.cons rfl (.cons rx .nil)) h) (fun v s' q => ?_) fun _ _ z => z)
  obtain ⟨v', H', I', rv, b, rfl, q⟩ := q
  cases rv
  exact wpAny_truthy_bool ⟨.bl b, H', I', rfl, q⟩
theorem op_notInO (o : OwnM X.K C "__contains__" f) (F : FnR X.prog X.w X.K X.mg X.base CX k f sp) (hr : Room k X.A) (hx : Passes CX X E) : OpR X (compareOp .NotIn) (rInO C sp E true) := by
  intro pins s σ H x y u v Q I rx ry h
  obtain ⟨a, dx, fs, rfl, ha, h⟩ := h
  cases ry
  obtain ⟨ox, od, J⟩ := ins_at I ha
  obtain ⟨m, hF⟩ := I.fr
  refine PySem.W.notIn_K hF I.ok.mod.kin J o.at_ o.fn (wpAny_mono (run_sub F (sub0 hr) hx I (vs := [.ref a, x]) (.cons rfl (.cons rx .nil)) h) (fun v s' q => ?_) fun _ _ z => z)
  obtain ⟨v', H', I', rv, b, rfl, q⟩ := q
  cases rv
  exact wpAny_truthy_bool ⟨.bl (!b), H', I', rfl, q⟩
/-- the type of y, seen in the heap -/
def TyL (X : Cx) (H : Hp) (y : V) (tb : Value) : Prop := ∀ (pins : List (Addr × Obj)) (σ : St) (s : Shared) (u : Value), Inv X pins σ H s → RelV y u → PySem.W.Looks (model X.prog X.w) s.heap (typeOf u) tb
theorem TyL.ins {H : Hp} {b dx : Addr} {fs : List (Str × V)} (h : H b = some (.ins C dx fs)) : TyL X H (.ref b) (.ref C) := fun pins σ s u I r => by
  cases r
  obtain ⟨ox, od, J⟩ := ins_at I h
  exact J.type
/-- o == y, o != y -/
def rEqO (X : Cx) (C : Addr) (sp : Sp) (E : XK) (neg : Bool) : R2 := fun x y H Q => ∃ a dx fs tb, x = .ref a ∧ H a = some (.ins C dx fs) ∧ TyL X H y tb ∧ PySem.W.notFirst X.K C tb = true ∧ sp [.ref a, y] H (fun v H' => ∃ b, v = .bl b ∧ Q (.bl (if neg then !b else b)) H') E
theorem op_eqO (o : OwnM X.K C "__eq__" f) (F : FnR X.prog X.w X.K X.mg X.base CX k f sp) (hr : Room k X.A) (hx : Passes CX X E) : OpR X (compareOp .Eq) (rEqO X C sp E false) := by
  intro pins s σ H x y u v Q I rx ry h
  obtain ⟨a, dx, fs, tb, rfl, ha, ht, hn, h⟩ := h
  cases rx
  obtain ⟨ox, od, J⟩ := ins_at I ha
  obtain ⟨m, hF⟩ := I.fr
  show wpAny (model X.prog X.w) X.A (richCompare .Eq (.ref a) v) (EP X pins σ Q) X.xe s
  refine PySem.W.cmp_K (op := .Eq) (tb := tb) (by have := hr.un; omega) hF I.ok.mod.kin J (ht _ _ _ _ I ry) hn o.at_ o.fn (wpAny_mono (run_sub F (sub0 hr) hx I (vs := [.ref a, y]) (.cons rfl (.cons ry .nil)) h) (fun v s' q => ?_) fun _ _ z => z)
  obtain ⟨v', H', I', rv, b, rfl, q⟩ := q
  cases rv
  exact ⟨.bl b, H', I', rfl, q⟩
theorem op_neO (o : OwnM X.K C "__eq__" f) (hne : PySem.W.findIn X.K (.ref C) "__ne__" = some (some (.builtin "object.__ne__"))) (hm : PySem.W.mroIn X.K C (.type "object") = some true) (F : FnR X.prog X.w X.K X.mg X.base CX k f sp) (hr : Room (k + 1) X.A) (hx : Passes CX X E) : OpR X (compareOp .NotEq) (rEqO X C sp E true) := by
  intro pins s σ H x y u v Q I rx ry h
  obtain ⟨a, dx, fs, tb, rfl, ha, ht, hn, h⟩ := h
  cases rx
  obtain ⟨ox, od, J⟩ := ins_at I ha
  show wpAny (model X.prog X.w) X.A (richCompare .NotEq (.ref a) v) (EP X pins σ Q) X.xe s
  refine PySem.TfO.ne_K (tb := tb) (by have := hr.un; omega) I.kIn J (ht _ _ _ _ I ry) hn o.at_ o.fn hne hm (wpAny_mono (run_sub F (sub1 hr) hx I (vs := [.ref a, y]) (.cons rfl (.cons ry .nil)) h) (fun v s' q => ?_) fun _ _ z => z)
  obtain ⟨v', H', I', rv, b, rfl, q⟩ := q
  cases rv
  exact ⟨b, rfl, .bl (!b), H', I', rfl, q⟩
/-- str(o) -/
def rStrO (C : Addr) (sp : Sp) (E : XK) : List V → Hp → VK → Prop := fun xs H Q => ∃ a dx fs, xs = [.ref a] ∧ H a = some (.ins C dx fs) ∧ sp [.ref a] H (fun v H' => ∃ z, v = .str z ∧ Q (.str z) H') E
theorem call_strO (o : OwnM X.K C "__str__" f) (F : FnR X.prog X.w X.K X.mg X.base CX k f sp) (hr : Room (k + 2) X.A) (hx : Passes CX X E) : CallR X (.type "str") (rStrO C sp E) := by
  intro pins s σ H xs us Q I r h
  obtain ⟨a, dx, fs, rfl, ha, h⟩ := h
  cases r with
  | cons ra rn =>
    cases rn
    cases ra
    obtain ⟨ox, od, J⟩ := ins_at I ha
    refine PySem.W.kso_call (by have := hr.un; show X.A.units + 1 + 1 < _; omega) I.kIn J o.at_ o.fn (wpAny_mono (run_sub F (sub2 hr) hx I (vs := [.ref a]) (.cons rfl .nil) h) (fun v s' q => ?_) fun _ _ z => z)
    obtain ⟨v', H', I', rv, z, rfl, q⟩ := q
    obtain ⟨t, rfl⟩ := rv
    exact ⟨.str z, H', I', ⟨_, rfl⟩, q⟩
end
end L2

/-! C(*xs, k = v): one starred argument and keywords; a def with *v and keyword-only parameters -/
namespace PySem
namespace TfM
open PySem.W PySem.Calls PyProof.Rows
section
variable {M : Model} {A : Around} {E : Value → Shared → Prop} {s : Shared}
theorem lone_kw {f : Value} {x : Sem Value} {pos : Pos} {kws : List (Option Str × Sem Value)} {Q : Args → Shared → Prop} (hall : kws.all (·.1.isSome) = true)
    (h : wpAny M A x (fun v s₁ => wpAny M A (evalAll (kws.map (·.2))) (fun ks s₂ => StarOf M A E v (fun vs s₃ => Q ⟨vs, (kws.filterMap (·.1)).zip ks⟩ s₃) s₂) E s₁) E s) :
    wpAny M A (evalArgs f true [(true, (do let v ← x; standAt pos; pure v))] kws) Q E s := by
  unfold evalArgs
  first
    | refine wpAny_bind (wpAny_bind (wpAny_mono h (fun v s₁ h₁ => wpAny_bind (wpAny_standAt (wpAny_pure ?_))) fun _ _ x => x))
    | refine wpAny_bind (wpAny_bind (wpAny_bind (wpAny_mono h (fun v s₁ h₁ => wpAny_bind (wpAny_standAt (wpAny_pure (wpAny_pure ?_)))) fun _ _ x => x)))
  refine wpAny_holding ?_
  simp only [hall, if_true]
  refine wpAny_bind (wpAny_mono h₁ (fun ks s₂ h₂ => ?_) fun _ _ x => x)
  unfold StarOf at h₂
  refine wpAny_bind (wpAny_bind (wpAny_mono h₂ (fun b s₃ h₃ => ?_) fun _ _ x => x))
  obtain ⟨rfl, h₃⟩ := h₃
  have z := wpAny_holding (vs := ((kws.filterMap (·.1)).zip ks).map (·.2)) (wpAny_mono h₃ (fun vs s₃ h₃ => (wpAny_pure h₃ : wpAny M A (pure (⟨vs, (kws.filterMap (·.1)).zip ks⟩ : Args)) Q E s₃)) fun _ _ x => x)
  try simp only [Bool.false_eq_true, if_false]
  first
    | exact z
    | exact wpAny_bind z
    | exact wpAny_bind (wpAny_pure z)
theorem call_kw {f : Value} {first : List Value} {pos : Pos} {Q : Value → Shared → Prop} {P : Heap → Prop} {args : List (Bool × Sem Value)} {kws : List (Option Str × Sem Value)} (hst : args.any (·.1) = true)
    (hk : ∀ h, P h → ∃ k, (k = Keeper.frame ∨ k = Keeper.machine ∨ k = Keeper.boundFrame) ∧ Looks M h (keeperOf f) k)
    (h : wpAny M A (evalArgs f true args kws) (fun a s₁ => P s₁.heap ∧ wpAny M A (call f (first ++ a.pos) a.kw) Q E s₁) E s) : wpAny M A (callWith pos f first args kws) Q E s := by
  unfold callWith
  refine wpAny_bind (wpAny_holding (wpAny_mono h (fun a s₁ h₁ => wpAny_bind (wpAny_standAt ?_)) fun _ _ x => x))
  obtain ⟨k, hk', L⟩ := hk _ h₁.1
  simp only [hst, Bool.true_or]
  refine wpAny_bind (L.here ?_)
  have tail : ∀ {t : Sem Value}, wpAny M A t Q E s₁ → wpAny M A (t >>= fun r => holding [r] point >>= fun _ => pure r) Q E s₁ :=
    fun ht => wpAny_bind (wpAny_mono ht (fun r s₂ hr => wpAny_bind (wpAny_holding (wpAny_point (wpAny_pure hr)))) fun _ _ x => x)
  have marked (mk : Value) : wpAny M A (callMarked mk f (first ++ a.pos) a.kw) Q E s₁ := by unfold callMarked; exact Calls.wpAny_keep h₁.2
  rcases hk' with rfl | rfl | rfl <;> dsimp only <;> first | exact tail (marked _) | exact tail (wpAny_operateT h₁.2) | exact tail (wpAny_operating h₁.2)
end
end TfM
end PySem
namespace L2
open PySem PySem.Spec PyProof.Rows
/-- the promise of a def called with values vs and keywords ks = zs -/
abbrev SpK := List V → List V → Hp → VK → XK → Prop
def FnA (P : Program) (w : World) (K : PySem.W.Frag) (mg : Str → Option Value) (base : Heap) (CX : CXT) (k : Nat) (f : Addr) (ks : List Str) (sp : SpK) : Prop :=
  ∀ (A : Around) (outer : List Env) (s : Shared) (H : Hp) (us ws : List Value) (vs zs : List V) (Q : VK) (E : XK), Room k A → Env0 P w K mg base A outer s H → Vals vs us → Vals zs ws → sp vs zs H Q E →
    codeAny (model P w) A (.call (.ref f) ⟨us, ks.zip ws⟩) (CR CX outer P w H s Q E) s
section
variable {CX : CXT} {P : Program} {w : World} {K : PySem.W.Frag} {mg : Str → Option Value} {base : Heap} {k : Nat} {f : Addr} {name qual : Str} {params : Arguments} {body : List Stmt} {scope : Scope} {dV kV doc pm cdv ct oc : Value} {an od : Option Addr}
  {osl : Array (Option Value)} {N : List Str} {sp : Sp}
/-- def f(a, *v, k): the values of a, k, then a new tuple of the rest -/
theorem fn_starK {pa pk pv : Str} (lk : K.lookup f = some ⟨oc, od, .func (PySem.W.fnOf name qual params body scope dV kV doc pm an cdv ct), osl⟩) (hcd : PySem.W.codeIn K cdv qual = true) (S : FnScope N [pa, pk, pv] scope) (hCX : StX.CXUp CX)
    (hb : ∀ (a : Value) (rest : List Value) (b : Value), bindArgs (PySem.W.fnOf name qual params body scope dV kV doc pm an cdv ct) ⟨a :: rest, [(pk, b)]⟩ = (newTuple rest >>= fun t => pure [(pa, a), (pk, b), (pv, t)]))
    (hbody : ∀ (A : Around) (outer : List Env) (s : Shared) (H : Hp) (vs : List V) (Q : VK) (E : XK), Room k (A.deeper (envOfC qual scope s.heap.objs.size f cdv)) → sp vs H Q E →
      ∃ t, PSs (cxOf CX P w K mg base N qual scope f cdv A outer s H E) body t ∧ t { nx := fun _ H' => Q .non H', rt := Q } (start N vs) H) :
    FnA P w K mg base CX (k + 1) f [pk] (fun vs zs H Q E => ∃ a rest b, vs = a :: rest ∧ zs = [b] ∧ rest.length ≤ sizeLine ∧ ∀ p, H p = Option.none → sp [a, b, V.ref p] (upd H p (.tup rest)) Q E) := by
  intro A outer s H us ws vs zs Q E hr e0 r rz hsp
  obtain ⟨a, rest, b, rfl, rfl, hz, hq⟩ := hsp
  cases r with
  | cons ra r2 =>
  cases rz with
  | cons rb rn =>
  cases rn
  rename_i ua u2 ub
  have hn : H s.heap.objs.size = Option.none := e0.hok.fresh (Nat.le_refl _)
  have hl2 : u2.length ≤ sizeLine := by rw [← r2.length]; exact hz
  refine StX.run_bnd lk hcd S hr e0 (G := fun xs H2 => ∃ p, H p = Option.none ∧ xs = [a, b, V.ref p] ∧ H2 = upd H p (.tup rest)) (fun A' Ex Q' h => ?_) fun s2 H2 xs ⟨p, hp, ex, eH⟩ hr' => ?_
  · show wpAny _ _ (bindArgs _ ⟨ua :: u2, [(pk, ub)]⟩) _ _ _
    rw [hb ua u2 ub]
    refine wpAny_bind (wpAny_newTuple (wpAny_pure ?_) hl2)
    have new : ObjOk P w (upd H s.heap.objs.size (.tup rest)) (s.heap.push ({ cls := .type "tuple", data := .seq u2.toArray } : Obj)) s.heap.objs.size (.tup rest) := ⟨hz, u2, r2, ⟨_, Heap.get?_push_size _ rfl, rfl, _, rfl⟩⟩
    have un := StX.un_laid (fs := frs outer) (s := s) (o := ({ cls := .type "tuple", data := .seq u2.toArray } : Obj)) (u := .tup rest) hn
    exact h _ _ [a, b, V.ref s.heap.objs.size] [ua, ub, Value.ref s.heap.objs.size] (StX.env0_laid e0 new) un rfl (fun e s' => hCX outer s H _ _ E e s' un (fun b o q => Heap.get?_push_of_some _ q) rfl) (.cons ra (.cons rb (.cons rfl .nil))) rfl ⟨_, hn, rfl, rfl⟩
  · subst ex eH
    exact hbody A outer s2 _ _ Q E hr' (hq p hp)
end
/-- C(*e, k = v): a new instance and its dict, then __init__ -/
def tMakeSK (K : PySem.W.Frag) (C : Addr) (sp : SpK) (E : XK) (tf te : TE) (tk : TA) : TE := fun σ H Q => tf σ H fun c H0 => c = .ref C ∧ te σ H0 fun y H1 => tk σ H1 fun zs H2 => ∃ a xs, y = V.ref a ∧ (SqT K H2 a xs ∨ SqL K H2 a xs) ∧ zs.length = 1 ∧ ∀ x dx, H2 x = none → H2 dx = none → dx ≠ x →
  sp (.ref x :: xs) zs (upd (upd H2 dx (.own x)) x (.ins C dx [])) (fun v H3 => v = .non ∧ Q (.ref x) H3) E
/-- C(e, .., k = v) -/
def tMakeAK (C : Addr) (sp : SpK) (E : XK) (t : TA) (tk : TA) : TE := fun σ H Q => t σ H fun xs H1 => tk σ H1 fun zs H2 => zs.length = 1 ∧ ∀ x dx, H2 x = none → H2 dx = none → dx ≠ x →
  sp (.ref x :: xs) zs (upd (upd H2 dx (.own x)) x (.ins C dx [])) (fun v H3 => v = .non ∧ Q (.ref x) H3) E
section
variable {X : Cx} {CX : CXT} {k : Nat} {f C : Addr} {ks : List Str} {sp : SpK} {E : XK} {x : Str} {p sp_ pos : Pos} {e fe : Expr} {es : List Expr} {kws : List Keyword} {t tk : TA} {te tf : TE}
theorem run_makeA {pins : List (Addr × Obj)} {σ : St} {H : Hp} {s : Shared} {Q : VK} {us ws : List Value} {vs zs : List V} (M : Mk X.K C f) (F : FnA X.prog X.w X.K X.mg X.base CX k f ks sp) (hr : Room (k + 1) X.A) (hx : Passes CX X E)
    (I : Inv X pins σ H s) (r : Vals vs us) (rz : Vals zs ws)
    (h : ∀ x dx, H x = none → H dx = none → dx ≠ x → sp (.ref x :: vs) zs (upd (upd H dx (.own x)) x (.ins C dx [])) (fun v H2 => v = .non ∧ Q (.ref x) H2) E) :
    wpAny (model X.prog X.w) X.A (call (.ref C) us (ks.zip ws)) (EP X pins σ Q) X.xe s := by
  have hq := h (s.heap.objs.size + 1) s.heap.objs.size (I.hok.fresh (Nat.le_succ _)) (I.hok.fresh (Nat.le_refl _)) (Nat.ne_of_lt (Nat.lt_succ_self _))
  have I2 := Inv.made (C := C) I
  have r1 : Vals (V.ref (s.heap.objs.size + 1) :: vs) (Value.ref (s.heap.objs.size + 1) :: us) := .cons rfl r
  refine wpAny_call (make_map (f := f) I.kIn M.makes M.init (beq_iff_eq.mp M.fn) (codeAny_mono (F _ X.stack _ _ (Value.ref (s.heap.objs.size + 1) :: us) ws _ _ _ E (hr.make C us (ks.zip ws))
    (I2.env0.make C us (ks.zip ws)) r1 rz hq) fun r s' hq' => ?_))
  cases r with
  | error e => exact hx pins σ _ _ e s' I2 hq'
  | ok fl =>
    cases fl with
    | ret u =>
      obtain ⟨v, H', I3, rv, ev, q3⟩ := I2.after hq'
      subst ev
      exact ⟨rv, ⟨V.ref (s.heap.objs.size + 1), H', I3, rfl, q3⟩⟩
    | next => exact False.elim hq'
    | brk => exact False.elim hq'
    | cont => exact False.elim hq'
theorem pe_makeSK (M : Mk X.K C f) (F : FnA X.prog X.w X.K X.mg X.base CX k f ks sp) (hr : Room (k + 1) X.A) (hx : Passes CX X E) (hf : PE X fe tf) (he : PE X e te) (hkw : PK X kws tk)
    (ht : eval (.Call fe [.Starred e sp_] kws pos) X.env = (do callWith pos (← eval fe X.env) [] (backTo pos (starEach [.Starred e sp_] X.env)) (backToKw pos (keywordEach kws X.env))) := by rfl)
    (hall : (backToKw pos (keywordEach kws X.env)).all (·.1.isSome) = true := by rfl) (hks : (backToKw pos (keywordEach kws X.env)).filterMap (·.1) = ks := by rfl)
    (hst : starEach [.Starred e sp_] X.env = [(true, eval e X.env)] := by rfl) :
    PE X (.Call fe [.Starred e sp_] kws pos) (tMakeSK X.K C sp E tf te tk) := by
  refine ⟨fun pins s σ H Q I h => ?_⟩
  rw [ht]
  refine wpAny_bind (thn (hf.run pins s σ H _ I h) fun u s0 ⟨y0, H0, I0, ry, ey0, q0⟩ => ?_)
  subst ey0
  obtain rfl : u = Value.ref C := ry
  rw [hst]
  refine PySem.TfM.call_kw (P := fun h => X.K.In h) rfl (PySem.W.keeps_K M.kp) (PySem.TfM.lone_kw hall ?_)
  refine thn (he.run pins s0 σ H0 _ I0 q0) fun v s1 ⟨y, H1, I1, rv, q1⟩ => ?_
  refine thn (hkw.run pos pins s1 σ H1 _ I1 q1) fun ws s2 ⟨zs, H2, I2, rz, a, xs, ey, hxs, hl, q2⟩ => ?_
  subst ey
  obtain rfl : v = Value.ref a := rv
  refine StX.star_any I2 hxs fun us s3 I3 r => ⟨I3.kIn, ?_⟩
  show wpAny _ _ (call (.ref C) us _) _ _ _
  rw [hks]
  exact run_makeA M F hr hx I3 r rz q2
theorem pe_makeAK (M : Mk X.K C f) (F : FnA X.prog X.w X.K X.mg X.base CX k f ks sp) (hr : Room (k + 1) X.A) (hg : Gl X x) (hm : X.mg x = some (.ref C)) (hx : Passes CX X E) (ha : PA X (e :: es) t) (hkw : PK X kws tk)
    (hall : (backToKw pos (keywordEach kws X.env)).all (·.1.isSome) = true := by rfl) (hks : (backToKw pos (keywordEach kws X.env)).filterMap (·.1) = ks := by rfl) (hdb : (x == ("__debug__" : Str)) = false := by decide)
    (he : starEach (e :: es) X.env = (false, eval e X.env) :: starEach es X.env := by rfl) (hpl : ((backTo pos (starEach (e :: es) X.env)).any (·.1) || (backToKw pos (keywordEach kws X.env)).any (·.1.isNone)) = false := by rfl) :
    PE X (.Call (.Name x p) (e :: es) kws pos) (tMakeAK C sp E t tk) := by
  refine ⟨fun pins s σ H Q I h => ?_⟩
  refine wpAny_Call_Name_kw (ld_glob I hg hm ?_ hdb)
  refine PySem.W.callWith_KW (h₀ := X.base) I.ok.mod.kin M.kp hall (thn (ha.run pos pins s σ H _ I h) fun us s1 ⟨vs, H1, I1, r, q⟩ => ?_) hpl he
  refine thn (hkw.run pos pins s1 σ H1 _ I1 q) fun ws s2 ⟨zs, H2, I2, rz, l1, q2⟩ => ⟨I2.kIn, ?_⟩
  rw [hks]
  exact run_makeA M F hr hx I2 r rz q2
end
end L2

/-! small rules and words -/
namespace L2
open PySem PySem.Spec PyProof.Rows
section
variable {X : Cx}
theorem call_repr_bl : CallR X (.builtin "repr") (fun xs H Q => ∃ b, xs = [.bl b] ∧ Q (.str (if b then "True" else "False")) H) := by
  intro pins s σ H xs us Q I r h
  obtain ⟨b, rfl, q⟩ := h
  cases r with
  | cons rb rn =>
    cases rn
    cases rb
    exact PySem.P.repr_of_bool ⟨.str _, H, I.tok _, ⟨_, rfl⟩, q⟩
theorem op_powW : OpR X (binaryOp .Pow) (rI (fun i j => 0 ≤ j ∧ (Builtin.Int.intBits i : Int) * j ≤ 2 ^ 27) fun i j => .int (i ^ j.toNat)) := opI fun _ _ _ _ _ _ _ hc q => pow_int hc.1 hc.2 q
end
/-- all but what stands at d stays -/
def Nr (d : Addr) (H H' : Hp) : Prop := ∀ b o, b ≠ d → H b = some o → H' b = some o
theorem Nr.refl (d : Addr) (H : Hp) : Nr d H H := fun _ _ _ h => h
theorem Nr.trans {d : Addr} {H H1 H2 : Hp} (a : Nr d H H1) (b : Nr d H1 H2) : Nr d H H2 := fun c o n h => b c o n (a c o n h)
theorem Same.nr {d : Addr} {H H' : Hp} (a : Same H H') : Nr d H H' := fun c o _ h => a c o h
theorem Nr.upd {d : Addr} {H : Hp} {o : HO} : Nr d H (upd H d o) := fun b u n h => by rw [upd_ne n]; exact h
theorem same_new {H : Hp} {p : Addr} {o : HO} (h : H p = none) : Same H (upd H p o) := fun b u e => by
  rw [upd_ne (ne_of_none e h)]
  exact e
theorem Same.new {H H1 : Hp} {p : Addr} {o : HO} (s : Same H H1) (h : H1 p = none) : Same H (upd H1 p o) := s.trans (same_new h)
/-- a new object may change -/
theorem Same.mut {H H1 : Hp} {p : Addr} {o : HO} (s : Same H H1) (h : H p = none) : Same H (L2.upd H1 p o) := fun b u e => by
  rw [upd_ne (ne_of_none e h)]
  exact s b u e
theorem Same.tup {K : PySem.W.Frag} {H H' : Hp} {a : Addr} {xs : List V} (e : Same H H') (h : SqT K H a xs) : SqT K H' a xs := by
  rcases h with (h | ⟨o, h⟩) | h
  · exact .inl (.inl (e _ _ h))
  · exact .inl (.inr ⟨o, e _ _ h⟩)
  · exact .inr h
/-- the dice: three numbers, the first one not below nought -/
def Dice (H : Hp) (d : Addr) : Prop := ∃ a b c : Int, 0 ≤ a ∧ H d = some (.lst [.int a, .int b, .int c])
theorem Dice.same {H H' : Hp} {d : Addr} (x : Dice H d) (s : Same H H') : Dice H' d := by
  obtain ⟨a, b, c, h, e⟩ := x
  exact ⟨a, b, c, h, s _ _ e⟩
theorem lst_of {K : PySem.W.Frag} {H : Hp} {a : Addr} {xs : List V} (h : H a = some (.lst xs)) : SqL K H a xs := .inl (.inl h)
theorem tup_of {K : PySem.W.Frag} {H : Hp} {a : Addr} {xs : List V} (h : H a = some (.tup xs)) : SqT K H a xs := .inl (.inl h)
end L2

/-! texts that are names; lists of texts as data -/
namespace L2
open PySem PySem.Spec PyProof.Rows
def signs : Str := "abcdefghijklmnopqrstuvwxyz"
/-- a name: one to eight letters a to z -/
def nameB (z : Str) : Bool := (decide (1 ≤ z.length) && decide (z.length ≤ 8)) && z.cps.toList.all fun c => decide (c ∈ signs.cps.toList)
theorem nameB_len {z : Str} (h : nameB z = true) : 1 ≤ z.length ∧ z.length ≤ 8 := by
  unfold nameB at h
  rw [Bool.and_eq_true, Bool.and_eq_true] at h
  exact ⟨of_decide_eq_true h.1.1, of_decide_eq_true h.1.2⟩
theorem signs_ok : (signs.cps.toList.all fun c => decide (c < 128)) = true := by decide +kernel
theorem nameB_code {z : Str} (h : nameB z = true) {c : Nat} (hc : c ∈ z.cps.toList) : c < 128 := by
  unfold nameB at h
  rw [Bool.and_eq_true] at h
  have h2 := List.all_eq_true.mp h.2 c hc
  exact of_decide_eq_true (List.all_eq_true.mp signs_ok c (of_decide_eq_true h2))
theorem nameB_ok {z : Str} (h : nameB z = true) : PyData.strOk z = true := by
  unfold PyData.strOk
  rw [Array.all_eq_true']
  intro c hc
  have h1 := nameB_code h (Array.mem_def.mp hc)
  exact decide_eq_true (Nat.lt_trans h1 (by decide))
abbrev dS (zs : List Str) : List PyData := zs.map PyData.str
theorem dpAll_strs {K : PySem.W.Frag} {H : Hp} : ∀ zs : List Str, DpAll K H (zs.map V.str) (dS zs)
  | [] => .nil
  | z :: zs => .cons (.str z) (dpAll_strs zs)
theorem dp_list {K : PySem.W.Frag} {H : Hp} {a : Addr} {zs : List Str} (h : SqL K H a (zs.map V.str)) : Dp K H (.ref a) (.list (dS zs)) := .lst h (dpAll_strs zs)
theorem dp_tuple {K : PySem.W.Frag} {H : Hp} {a : Addr} {zs : List Str} (h : SqT K H a (zs.map V.str)) : Dp K H (.ref a) (.tuple (dS zs)) := .tup h (dpAll_strs zs)
theorem lay_strs : ∀ {zs : List Str}, (∀ z ∈ zs, nameB z = true) → PyData.canLayAll0 (dS zs) = true
  | [], _ => by simp [PyData.canLayAll0, dS]
  | z :: zs, h => by
    have h1 := lay_strs (zs := zs) fun y hy => h y (List.mem_cons_of_mem _ hy)
    have h2 := nameB_ok (h z List.mem_cons_self)
    show PyData.canLayAll0 (PyData.str z :: dS zs) = true
    simp only [PyData.canLayAll0, PyData.canLay0, h1, h2, Bool.and_self]
theorem depth_strs : ∀ zs : List Str, PyData.depthAll (dS zs) = 0
  | [] => by simp [PyData.depthAll, dS]
  | z :: zs => by
    show PyData.depthAll (PyData.str z :: dS zs) = 0
    simp only [PyData.depthAll, PyData.depth, depth_strs zs]
    rfl
theorem shaped_list {zs : List Str} (h : ∀ z ∈ zs, nameB z = true) : SeqAt.shaped (.list (dS zs)) = true := by
  show (PyData.canLay0 (.list (dS zs)) && decide (PyData.depth (.list (dS zs)) ≤ 64)) = true
  rw [Bool.and_eq_true]
  refine ⟨by simp only [PyData.canLay0]; exact lay_strs h, decide_eq_true ?_⟩
  simp only [PyData.depth, depth_strs]
  decide
theorem shaped_tuple {zs : List Str} (h : ∀ z ∈ zs, nameB z = true) : SeqAt.shaped (.tuple (dS zs)) = true := by
  show (PyData.canLay0 (.tuple (dS zs)) && decide (PyData.depth (.tuple (dS zs)) ≤ 64)) = true
  rw [Bool.and_eq_true]
  refine ⟨by simp only [PyData.canLay0]; exact lay_strs h, decide_eq_true ?_⟩
  simp only [PyData.depth, depth_strs]
  decide
theorem eqvAll_strs : ∀ xs ys : List Str, PyData.eqvAll (dS xs) (dS ys) = decide (xs = ys)
  | [], [] => by simp [PyData.eqvAll, dS]
  | [], y :: ys => by simp [PyData.eqvAll, dS]
  | x :: xs, [] => by simp [PyData.eqvAll, dS]
  | x :: xs, y :: ys => by
    have ih := eqvAll_strs xs ys
    show PyData.eqvAll (PyData.str x :: dS xs) (PyData.str y :: dS ys) = _
    simp only [PyData.eqvAll, PyData.eqv, ih]
    by_cases h : x = y
    · subst h
      simp
    · have h1 : (x == y) = false := by simpa using h
      have h2 : ¬ (x :: xs = y :: ys) := fun z => h (List.cons.inj z).1
      rw [h1, decide_eq_false h2]
      rfl
theorem eqv_lists (xs ys : List Str) : PyData.eqv (.list (dS xs)) (.list (dS ys)) = decide (xs = ys) := by
  simp only [PyData.eqv]
  exact eqvAll_strs xs ys
theorem eqv_tuples (xs ys : List Str) : PyData.eqv (.tuple (dS xs)) (.tuple (dS ys)) = decide (xs = ys) := by
  simp only [PyData.eqv]
  exact eqvAll_strs xs ys
end L2

/-! comprehensions whose element and test only make objects -/
namespace L2
open PySem PySem.Spec PyProof.Rows
/-- the test answers b, the expression gives v; what was tracked stays -/
def TTo (tt : TT) (σ : St) (H : Hp) (b : Bool) : Prop := ∀ Q : Bool → Hp → Prop, (∀ H', Same H H' → Q b H') → tt σ H Q
def TEo (te : TE) (σ : St) (H : Hp) (v : V) : Prop := ∀ Q : VK, (∀ H', Same H H' → Q v H') → te σ H Q
theorem tto_yes {σ : St} {H : Hp} : TTo tYes σ H true := fun _ q => q H (Same.refl H)
theorem lc_on {α : Type} {J : It} {n : Nat} {G : Hp → Prop} {xs : List α} {h : α → V} (w : Walk J n G (YAt (xs.map h))) (hn : n = xs.length) {tt : TT} {te : TE} {i : Nat} {σ : St} {H1 : Hp} {D : Addr} {Qd : Hp → Prop} (keep : α → Bool) (F : α → V) (nD : H1 D = none)
    (hG : ∀ H, Same H1 H → G H) (hlen : xs.length < 100000)
    (ht : ∀ a ∈ xs, ∀ H, Same H1 H → TTo tt ((wipe σ [i]).set i (some (h a))) H (keep a))
    (he : ∀ a ∈ xs, keep a = true → ∀ H, Same H1 H → TEo te ((wipe σ [i]).set i (some (h a))) H (F a))
    (hd : ∀ H, Same H1 H → H D = some (.lst ((xs.filter keep).map F)) → Qd H) :
    ∃ W : Nat → Nat → Hp → Prop, (∃ m, W 0 m (upd H1 D (.lst []))) ∧ ∀ j m H, W j m H →
      (J.stop j H ∧ Qd H) ∨ (J.go j H ∧ ∃ Nx : Hp → Prop, (∀ H', Nx H' → ∃ m', m' < m ∧ W (j + 1) m' H') ∧ ∀ x H', J.yld j H x H' → gName i x (wipe σ [i]) H' fun σ2 H2 => wipe σ2 [i] = wipe σ [i] ∧ tt σ2 H2 fun b H3 =>
        if b = true then te σ2 H3 fun y H4 => ∃ acc, H4 D = some (.lst acc) ∧ acc.length < sizeLine ∧ Nx (upd H4 D (.lst (acc ++ [y]))) else Nx H3) := by
  subst hn
  refine lc_it w (fun j H => Same H1 H ∧ H D = some (.lst (((xs.take j).filter keep).map F))) ⟨same_new nD, by rw [upd_same]; rfl⟩ (fun j H _ p => hG H p.1) (fun j x H H' hj p y => ?_) fun H p => hd H p.1 (by rw [p.2, List.take_length])
  obtain ⟨s, eD⟩ := p
  obtain ⟨rfl, ex⟩ := y
  rw [List.getElem?_map, List.getElem?_eq_getElem hj] at ex
  have ex' : h xs[j] = x := Option.some.inj ex
  subst ex'
  have mem : xs[j] ∈ xs := List.getElem_mem hj
  have tk : xs.take (j + 1) = xs.take j ++ [xs[j]] := by rw [List.take_add_one, List.getElem?_eq_getElem hj]; rfl
  refine ⟨?_, ht _ mem H' s _ fun H3 s3 => ?_⟩
  · simp [wipe]
  · cases hk : keep xs[j] with
    | false =>
      refine iteF ⟨s.trans s3, ?_⟩
      rw [s3 _ _ eD, tk, List.filter_append, List.filter_cons_of_neg (by rw [hk]; exact Bool.false_ne_true), List.filter_nil, List.append_nil]
    | true =>
      refine iteT (he _ mem hk H3 (s.trans s3) _ fun H4 s4 => ⟨_, s4 _ _ (s3 _ _ eD), ?_, ?_, ?_⟩)
      · have l1 := List.length_filter_le keep (xs.take j)
        rw [List.length_map]
        rw [List.length_take] at l1
        exact Nat.lt_of_le_of_lt (show _ ≤ 100000 by omega) (by decide)
      · exact (s.trans (s3.trans s4)).mut nD
      · rw [upd_same, tk, List.filter_append, List.filter_cons_of_pos hk, List.filter_nil, List.map_append]
        rfl
theorem walk_txt {z : Str} : Walk (Its z) z.cps.toList.length (fun _ => True) (YAt (z.cps.toList.map fun c => V.str ⟨#[c]⟩)) := by
  refine ⟨fun i H hi _ => ?_, fun H _ => ?_, fun i H x H' hi _ y => ?_⟩
  · rw [Array.length_toList] at hi
    exact hi
  · show z.cps.size ≤ z.cps.toList.length
    rw [Array.length_toList]
    exact Nat.le_refl _
  · obtain ⟨e, c, hc, ex⟩ := y
    refine ⟨e, ?_⟩
    rw [List.getElem?_map, Array.getElem?_toList, hc, ex]
    rfl
theorem fil_true {α : Type} (xs : List α) : xs.filter (fun _ => true) = xs := List.filter_eq_self.mpr fun _ _ => rfl
/-- without a test -/
theorem lc_map {α : Type} {J : It} {n : Nat} {G : Hp → Prop} {xs : List α} {h : α → V} (w : Walk J n G (YAt (xs.map h))) (hn : n = xs.length) {te : TE} {i : Nat} {σ : St} {H1 : Hp} {D : Addr} {Qd : Hp → Prop} (F : α → V) (nD : H1 D = none)
    (hG : ∀ H, Same H1 H → G H) (hlen : xs.length < 100000)
    (he : ∀ a ∈ xs, ∀ H, Same H1 H → TEo te ((wipe σ [i]).set i (some (h a))) H (F a))
    (hd : ∀ H, Same H1 H → H D = some (.lst (xs.map F)) → Qd H) :
    ∃ W : Nat → Nat → Hp → Prop, (∃ m, W 0 m (upd H1 D (.lst []))) ∧ ∀ j m H, W j m H →
      (J.stop j H ∧ Qd H) ∨ (J.go j H ∧ ∃ Nx : Hp → Prop, (∀ H', Nx H' → ∃ m', m' < m ∧ W (j + 1) m' H') ∧ ∀ x H', J.yld j H x H' → gName i x (wipe σ [i]) H' fun σ2 H2 => wipe σ2 [i] = wipe σ [i] ∧ tYes σ2 H2 fun b H3 =>
        if b = true then te σ2 H3 fun y H4 => ∃ acc, H4 D = some (.lst acc) ∧ acc.length < sizeLine ∧ Nx (upd H4 D (.lst (acc ++ [y]))) else Nx H3) :=
  lc_on w hn (fun _ => true) F nD hG hlen (fun _ _ _ _ => tto_yes) (fun a ha _ H s => he a ha H s) fun H s e => hd H s (by rw [e, fil_true])
end L2

/-! the ways of a statement meet again; slices of texts -/
namespace L2
open PySem PySem.Spec PyProof.Rows
theorem ps_mid {X : Cx} {st : Stmt} {t : TS} (h : PS X st t) : PS X st (fun D σ H => ∃ J : L2.St → Hp → Prop, t { D with nx := J } σ H ∧ ∀ σ' H', J σ' H' → D.nx σ' H') := by
  refine ⟨fun pins s σ H D I ⟨J, h1, h2⟩ => thn (h.run pins s σ H { D with nx := J } I h1) fun f s1 q => ?_⟩
  cases f with
  | next =>
    obtain ⟨σ', H', I', q⟩ := q
    exact ⟨σ', H', I', h2 _ _ q⟩
  | _ => exact q
theorem cut_txt (zs : List Str) (lo hi : Option Int) : ∃ ys : List Str, cutV (zs.map V.str) lo hi = ys.map V.str ∧ (∀ y ∈ ys, y ∈ zs) ∧ ys.length ≤ zs.length := by
  unfold cutV
  refine ⟨(zs.drop (HT.sIx (zs.map V.str).length 0 lo)).take (HT.sIx (zs.map V.str).length (zs.map V.str).length hi - HT.sIx (zs.map V.str).length 0 lo), by rw [List.map_take, List.map_drop], fun y hy => List.mem_of_mem_drop (List.mem_of_mem_take hy), ?_⟩
  rw [List.length_take, List.length_drop]
  omega
theorem cut_tail (xs : List V) : cutV xs (some 1) none = xs.drop 1 := by
  unfold cutV
  have e : HT.sIx xs.length 0 (some 1) = min 1 xs.length := HT.sIx_nat xs.length 0 1
  rw [e, HT.sIx_none]
  cases xs with
  | nil => rfl
  | cons x xs =>
    have e1 : min 1 (x :: xs).length = 1 := by rw [List.length_cons]; omega
    rw [e1]
    refine List.take_of_length_le ?_
    rw [List.length_drop]
    exact Nat.le_refl _
theorem Same.sql {K : PySem.W.Frag} {H H' : Hp} {a : Addr} {xs : List V} (e : Same H H') (h : SqL K H a xs) : SqL K H' a xs := by
  rcases h with (h | ⟨o, h⟩) | h
  · exact .inl (.inl (e _ _ h))
  · exact .inl (.inr ⟨o, e _ _ h⟩)
  · exact .inr h
/-- a list of names != [] -/
theorem ne_nil {K : PySem.W.Frag} {H : Hp} {p : Addr} {zs : List Str} {R : VK} (hp : SqL K H p (zs.map V.str)) (nz : ∀ z ∈ zs, nameB z = true) (h : ∀ H', Same H H' → R (.bl (!decide (zs = []))) H') :
    0 ≤ sizeLine ∧ ∀ t, H t = none → rNeD K (.ref p) (.ref t) (upd H t (.lst [])) R := by
  refine ⟨Nat.zero_le _, fun t nt => ⟨.list (dS zs), .list (dS []), dp_list ((same_new nt).sql hp), dp_list (zs := []) (lst_of upd_same), shaped_list nz, shaped_list (zs := []) (by intro z hz; cases hz), ?_⟩⟩
  rw [eqv_lists]
  exact h _ (same_new nt)
theorem eq_nil {K : PySem.W.Frag} {H : Hp} {p : Addr} {zs : List Str} {R : VK} (hp : SqL K H p (zs.map V.str)) (nz : ∀ z ∈ zs, nameB z = true) (h : ∀ H', Same H H' → R (.bl (decide (zs = []))) H') :
    0 ≤ sizeLine ∧ ∀ t, H t = none → rEqD K (.ref p) (.ref t) (upd H t (.lst [])) R := by
  refine ⟨Nat.zero_le _, fun t nt => ⟨.list (dS zs), .list (dS []), dp_list ((same_new nt).sql hp), dp_list (zs := []) (lst_of upd_same), shaped_list nz, shaped_list (zs := []) (by intro z hz; cases hz), ?_⟩⟩
  rw [eqv_lists]
  exact h _ (same_new nt)
end L2

/-! own binary operators, o.m() by a raw promise, a statement that is not reached -/
namespace L2
open PySem PySem.Spec PyProof.Rows
section
variable {X : Cx} {CX : CXT} {k : Nat} {f C : Addr} {sp : Sp} {E : XK}
/-- a | b, a & b of two instances of one class -/
def rBinO (C : Addr) (sp : Sp) (E : XK) : R2 := fun x y H Q => ∃ a dx fs b dy fy, x = .ref a ∧ y = .ref b ∧ H a = some (.ins C dx fs) ∧ H b = some (.ins C dy fy) ∧ sp [.ref a, .ref b] H (fun v H' => ∃ z, v = .ref z ∧ Q (.ref z) H') E
theorem op_binO {op : Operator} (hs : PySem.W.findIn X.K (.ref C) (PySem.dunder op.info.2) = some (some (.ref f))) (hf : PySem.W.isFn X.K (.ref f) = true) (hc : PySem.W.selfFirst X.K C = true) (F : FnR X.prog X.w X.K X.mg X.base CX k f sp) (hr : Room k X.A) (hx : Passes CX X E) : OpR X (binaryOp op) (rBinO C sp E) := by
  intro pins s σ H x y u v Q I rx ry h
  obtain ⟨a, dx, fs, b, dy, fy, rfl, rfl, ha, hb, h⟩ := h
  cases rx
  cases ry
  obtain ⟨ox, od, J⟩ := ins_at I ha
  obtain ⟨oy, od', J'⟩ := ins_at I hb
  obtain ⟨m, hF⟩ := I.fr
  refine PySem.W.binop_K hF I.ok.mod.kin J J'.type hc hs hf (wpAny_mono (run_sub F (sub0 hr) hx I (vs := [.ref a, .ref b]) (.cons rfl (.cons rfl .nil)) h) (fun v s' q => ?_) fun _ _ z => z)
  obtain ⟨v', H', I', rv, z, rfl, q⟩ := q
  cases rv
  exact ⟨.ref z, H', I', rfl, q⟩
theorem pe_methR0 {m : Str} {o : Expr} {ta : TE} {apos pos : Pos} {pl : Sem Bool} (he : PE X o ta) (c : Cls X.K C) (hm : Meth X.K C m f)
    (F : FnR X.prog X.w X.K X.mg X.base CX k f sp) (hr : Room k X.A) (hx : Passes CX X E)
    (ht : eval (.Call (.Attribute o m apos) [] [] pos) X.env = (do
      let ov ← eval o X.env
      standAt apos.atName
      let (f, first) ← holding [ov] (getMethod ov m pl)
      callWith pos f first (backTo pos (starEach [] X.env)) (backToKw pos (keywordEach [] X.env))) := by rfl) :
    PE X (.Call (.Attribute o m apos) [] [] pos) (tMethR C m sp E ta tNil) := by
  refine ⟨fun pins s σ H Q I h => ?_⟩
  refine PySem.W.methodCall_KW (pl := pl) (thn (he.run pins s σ H _ I h) fun u s1 ⟨x, H1, I1, rx, a, dx, fs, ex, ea, l, q⟩ => ?_) ht
  subst ex
  obtain rfl : u = Value.ref a := rx
  refine getmeth_ok I1 ea c hm l ?_
  exact PySem.W.callWith_K0 (first := [.ref a]) I1.kIn hm.kp (wpAny_call (run_fnR (us := [.ref a]) (vs := [.ref a]) F hr hx I1 (.cons rfl .nil) q))
theorem ps_off {st : Stmt} : PS X st (fun _ _ _ => False) := ⟨fun _ _ _ _ _ _ h => h.elim⟩
end
end L2

/-! sets of texts: set(xs), sorted(set(xs)), len(set(xs)) -/
namespace L2
open PySem PySem.Spec PyProof.Rows
abbrev newSetO (w : World) : Obj := { cls := .type "set", dict := none, data := .set #[] 0 (.fresh 0 0 (!w.params.followText "set-order")) }
def txtOf (e : Int × Value) : Str := match e.2 with | .str x _ => x | _ => Str.empty
def TxtE (w : World) (e : Int × Value) : Prop := ∃ x tk, e.2 = Value.str x tk ∧ e.1 = hashStr w x
/-- the set of texts at a: its members are L, in some order -/
def SetS (w : World) (h : Heap) (a : Addr) (L : List Str) : Prop :=
  ∃ o es ep t, h.get? a = some o ∧ o.ExactSet ∧ o.data = .set es ep t ∧ (∀ e ∈ es.toList, TxtE w e) ∧ (es.toList.map txtOf).Perm L ∧ L.Nodup ∧
    es.size < scanBound ∧ t.fits es.size = true ∧ Ris t.place.toList ∧ (w.params.followText "set-order" = true ∨ t.led = true)
section
variable {P : Program} {w : World} {h h' : Heap} {a : Addr} {L : List Str}
theorem SetS.at (R : SetS w h a L) (k : ∀ o, h.get? a = some o → h'.get? a = some o) : SetS w h' a L := by
  obtain ⟨o, es, ep, t, ho, r⟩ := R
  exact ⟨o, es, ep, t, k o ho, r⟩
theorem txt_elems {l : List (Int × Value)} (g : ∀ e ∈ l, TxtE w e) : ElemsOf (PySem.strKind P w) l := fun e he => by
  obtain ⟨k, tk, h1, h2⟩ := g e he
  exact ⟨⟨k, by rw [h1]; exact strKind_is P w k tk, h2⟩, by rw [h1] <;> rfl⟩
theorem txt_is {e : Int × Value} (g : TxtE w e) (k : Str) : (PySem.strKind P w).is k e.2 = true ↔ txtOf e = k := by
  obtain ⟨k0, tk, h1, _⟩ := g
  unfold txtOf
  rw [h1]
  constructor
  · intro z
    obtain ⟨t, e⟩ := Value.isStrOf_shape (show Value.isStrOf k (.str k0 tk) = true from z)
    injection e
  · intro z
    show (PySem.strKind P w).is k (.str k0 tk) = true
    have z' : k0 = k := z
    rw [z']
    exact strKind_is P w k tk
theorem setS_fresh (w : World) {h : Heap} (ho : h.get? a = some (newSetO w)) : SetS w h a [] :=
  ⟨_, #[], 0, _, ho, ⟨rfl, rfl, rfl⟩, rfl, (fun e he => by simp at he), List.Perm.nil, List.nodup_nil, (by decide), (by rfl), List.Pairwise.nil, by
    show _ ∨ (!w.params.followText "set-order") = true
    cases w.params.followText "set-order"
    · exact .inr rfl
    · exact .inl rfl⟩
end
section
variable {P : Program} {w : World} {A : Around} {E : Value → Shared → Prop} {s : Shared} {a : Addr} {L : List Str}
theorem setS_tail {g : Bool → Sem Unit} (hg : ∀ (b : Bool) (s₁ : Shared) (Q' : Unit → Shared → Prop), Q' () s₁ → wpAny (model P w) A (g b) Q' E s₁)
    {o : Obj} {es : Array (Int × Value)} {ep : Nat} {t : SetTable} (ho : s.heap.get? a = some o) (hex : o.ExactSet) (hd : o.data = .set es ep t)
    {es1 : Array (Int × Value)} {t2 : SetTable} (g1 : ∀ e ∈ es1.toList, TxtE w e) (p1 : (es1.toList.map txtOf).Perm L) (nd : L.Nodup)
    (hb1 : es1.size < scanBound) (hf2 : t2.fits es1.size = true) (hr : Ris t2.place.toList) (hl : w.params.followText "set-order" = true ∨ t2.led = true) {wasDummy : Bool} {R : Option Bool → Shared → Prop}
    (hR : ∀ h', Heap.SameBut a s.heap h' → SetS w h' a L → R (some true) { s with heap := h' }) :
    wpAny (model P w) A (do
        storeSet a es1 t2
        if (!wasDummy && t2.tooFull) = true then do
            g (relayAll t2 es1 (SetTable.grown es1.size)).2.2
            storeSet a (relayAll t2 es1 (SetTable.grown es1.size)).1 (relayAll t2 es1 (SetTable.grown es1.size)).2.1
            pure (some true)
          else pure (some true)) R E s := by
  refine wpAny_bind (wpAny_storeSet_of ho hd ?_ (fits_of_scanBound hb1))
  have o1 := store_at (es' := es1) (t' := t2) ho hd
  have b1 := Heap.SameBut.update s.heap a (Obj.putSet es1 t2)
  split
  · have q1 := relayAll_perm t2 es1 (SetTable.grown es1.size)
    have q2 := relayAll_fits t2 es1 (SetTable.grown es1.size)
    have q3 := relayAll_ris t2 es1 (SetTable.grown es1.size)
    have q4 := relayAll_led t2 es1 (SetTable.grown es1.size)
    generalize relayAll t2 es1 (SetTable.grown es1.size) = Z at q1 q2 q3 q4 ⊢
    obtain ⟨es2, t3, gave⟩ := Z
    dsimp only at q1 q2 q3 q4 ⊢
    have sz : es2.size = es1.size := by rw [← Array.length_toList, q1.length_eq, Array.length_toList]
    have hb2 : es2.size < scanBound := by rw [sz]; exact hb1
    refine wpAny_bind (hg _ _ _ (wpAny_bind (wpAny_storeSet_of o1 rfl ?_ (fits_of_scanBound hb2))))
    have o2 := store_at (es' := es2) (t' := t3) o1 rfl
    refine wpAny_pure (hR _ (b1.trans (Heap.SameBut.update _ a _)) ⟨_, es2, _, t3, o2, hex, rfl, fun e he => g1 e (q1.mem_iff.mp he), (q1.map txtOf).trans p1, nd, hb2, q2, q3, ?_⟩)
    rcases hl with z | z
    · exact .inl z
    · exact .inr (by rw [q4]; exact z)
  · exact wpAny_pure (hR _ b1 ⟨_, es1, _, t2, o1, hex, rfl, g1, p1, nd, hb1, hf2, hr, hl⟩)
/-- one text more -/
theorem setS_add {x : Str} {tk : Tok} {Q : Bool → Shared → Prop} (R : SetS w s.heap a L) (room : L.length + 1 < scanBound)
    (hQ : ∀ h' b, Heap.SameBut a s.heap h' → SetS w h' a (if x ∈ L then L else L ++ [x]) → Q b { s with heap := h' }) :
    wpAny (model P w) A (setAddHashed a (.str x tk) ((PySem.strKind P w).hash x)) Q E s := by
  obtain ⟨o, es, ep, t, ho, hex, hd, g, pl, nd, hb, hf, hr, hl⟩ := R
  have key : (PySem.strKind P w).is x (.str x tk) = true := strKind_is P w x tk
  have sc : (Value.str x tk).scannable = true := rfl
  have el : ElemsOf (PySem.strKind P w) es.toList := txt_elems g
  have len : es.size = L.length := by
    have z := pl.length_eq
    rw [List.length_map, Array.length_toList] at z
    exact z
  unfold setAddHashed setAddHashedIn
  refine wpAny_holding (wpAny_bind (wpAny_setState_of ho hd hf ?_))
  dsimp only
  rw [byScan_of sc hb el]
  simp only [↓reduceIte]
  unfold setAddByScan
  refine wpAny_bind (wpAny_bind (wpAny_rule (wpAny_bind (wpAny_setScan_of key ho hd hf el ?_))))
  cases fi : List.findIdx? (fun e => (PySem.strKind P w).is x e.2) es.toList with
  | some j =>
    dsimp only
    obtain ⟨hj, pj, _⟩ := List.findIdx?_eq_some_iff_getElem.mp fi
    have mem : x ∈ L := pl.mem_iff.mp (List.mem_map.mpr ⟨es.toList[j], List.getElem_mem hj, (txt_is (P := P) (g _ (List.getElem_mem hj)) x).mp pj⟩)
    refine wpAny_pure (wpAny_pure (hQ s.heap _ (Heap.SameBut.refl a s.heap) ?_))
    rw [if_pos mem]
    exact ⟨o, es, ep, t, ho, hex, hd, g, pl, nd, hb, hf, hr, hl⟩
  | none =>
    dsimp only
    have nmem : x ∉ L := fun z => by
      obtain ⟨e, he, q⟩ := List.mem_map.mp (pl.mem_iff.mpr z)
      have c := List.findIdx?_eq_none_iff.mp fi e he
      rw [(txt_is (P := P) (g e he) x).mpr q] at c
      cases c
    have gw : ∀ (b : Bool) {s₁ : Shared} {Q' : Unit → Shared → Prop}, Q' () s₁ → wpAny (model P w) A (match b with | true => rule "set.scan.the-table-gave-way" | false => pure ()) Q' E s₁ :=
      fun b s₁ Q' q => by cases b <;> first | exact wpAny_pure q | exact wpAny_rule q
    have z1 := layNew_perm t es ((PySem.strKind P w).hash x) (.str x tk)
    have z2 := layNew_fits t es ((PySem.strKind P w).hash x) (.str x tk)
    have z3 := layNew_ris t es ((PySem.strKind P w).hash x) (.str x tk) hr
    have z4 := layNew_led t es ((PySem.strKind P w).hash x) (.str x tk)
    generalize layNew t es ((PySem.strKind P w).hash x) (.str x tk) = Z at z1 z2 z3 z4 ⊢
    obtain ⟨es1, t1, wasDummy, gave⟩ := Z
    dsimp only at z1 z2 z3 z4 ⊢
    rw [Array.toList_push] at z1
    have pk : (es1.toList.map txtOf).Perm (L ++ [x]) := by
      have q := z1.map txtOf
      rw [List.map_append] at q
      exact q.trans (pl.append_right _)
    have g1 : ∀ e ∈ es1.toList, TxtE w e := fun e he => by
      rcases List.mem_append.mp (z1.mem_iff.mp he) with z | z
      · exact g e z
      · rw [List.mem_singleton.mp z]; exact ⟨x, tk, rfl, rfl⟩
    have nd1 : (L ++ [x]).Nodup := List.nodup_append.mpr ⟨nd, List.nodup_cons.mpr ⟨by simp, List.nodup_nil⟩, fun y hy y' hy' e => nmem (by rw [← List.mem_singleton.mp hy', ← e]; exact hy)⟩
    have sz : es1.size = L.length + 1 := by
      have z := pk.length_eq
      rw [List.length_map, Array.length_toList, List.length_append] at z
      exact z
    have hb1 : es1.size < scanBound := by rw [sz]; exact room
    have led : w.params.followText "set-order" = true ∨ t1.led = true := by
      rcases hl with z | z
      · exact .inl z
      · exact .inr (by rw [z4]; exact z)
    have fin : ∀ h', Heap.SameBut a s.heap h' → SetS w h' a (L ++ [x]) → Q true { s with heap := h' } := fun h' sb r => hQ h' true sb (by rw [if_neg nmem]; exact r)
    refine wpAny_bind (gw _ ?_)
    split
    · refine wpAny_bind ?_
      rw [hashByValue_scannable 8 sc]
      refine wpAny_pure (setS_tail ?_ ho hex hd g1 pk nd1 hb1 ?_ ?_ ?_ ?_)
      · intro b s₁ Q' q; cases b <;> first | exact wpAny_pure q | exact wpAny_rule q
      · first | (split <;> first | exact z2 | exact SetTable.fits_plain_off z2) | exact z2
      · first | (split <;> exact z3) | exact z3
      · first | (split <;> exact led) | exact led
      · intro h' sb r; dsimp only; exact wpAny_pure (fin h' sb r)
    · refine wpAny_bind (wpAny_pure ?_)
      simp only [↓reduceIte]
      refine setS_tail ?_ ho hex hd g1 pk nd1 hb1 z2 z3 led ?_
      · intro b s₁ Q' q; cases b <;> first | exact wpAny_pure q | exact wpAny_rule q
      · intro h' sb r; dsimp only; exact wpAny_pure (fin h' sb r)
end
/-- the texts in the order in which they are first met -/
def firsts (xs : List Str) : List Str := xs.foldl (fun L x => if x ∈ L then L else L ++ [x]) []
theorem firsts_snoc (xs : List Str) (x : Str) : firsts (xs ++ [x]) = if x ∈ firsts xs then firsts xs else firsts xs ++ [x] := by
  unfold firsts
  rw [List.foldl_append]
  rfl
theorem firsts_len (xs : List Str) : (firsts xs).length ≤ xs.length := by
  have gen : ∀ (ys : List Str) (L : List Str), (ys.foldl (fun L x => if x ∈ L then L else L ++ [x]) L).length ≤ L.length + ys.length := by
    intro ys
    induction ys with
    | nil => intro L; exact Nat.le_refl _
    | cons y ys ih =>
      intro L
      refine Nat.le_trans (ih _) ?_
      rw [List.length_cons]
      show (if y ∈ L then L else L ++ [y]).length + _ ≤ _
      split
      · omega
      · rw [List.length_append, List.length_singleton]; omega
  exact Nat.le_trans (gen xs []) (by simp)
section
variable {P : Program} {w : World} {A : Around} {E : Value → Shared → Prop} {s : Shared}
/-- the loop of set.update over texts -/
theorem setS_loop {I : Addr} {fp wr : List Addr} {G : Array GenState → Array GenState → Prop} {n : Nat} {Pv : Nat → Value → Prop} {St : Nat → Shared → Prop} {R : Result → Shared → Prop}
    (W : WalksS P w A.in1 I fp wr G n Pv St) (S : Addr) (hSf : S ∉ fp) (xs : List Str) (hn : n = xs.length) (few : xs.length + 1 < scanBound) (hval : ∀ i v, Pv i v → ∃ x t, xs[i]? = some x ∧ v = .str x t) :
    ∀ (k i : Nat) (s : Shared), n - i = k → i ≤ n → St i s → SetS w s.heap S (firsts (xs.take i)) →
      (∀ s', Moved (S :: wr) G s s' → SetS w s'.heap S (firsts xs) → R (.ok (.ret .none)) s') →
      codeAny (model P w) A (.builtin "set.update.loop" ⟨[.ref S, .ref I], []⟩) R s := by
  have hSw : S ∉ wr := fun h => hSf (W.sub _ h)
  have wid : ∀ b ∈ wr, b ∈ S :: wr := fun b hb => List.mem_cons_of_mem _ hb
  intro k
  induction k with
  | zero =>
    intro i s hk hi hst hS hR
    have e : i = n := by omega
    subst e
    rw [hn, List.take_length] at hS
    refine codeAny_builtin F.entry_set_update_loop ?_
    rw [Around.under_plainId F.plain_set_update_loop _]
    show wpAny _ A.in1 (pyNext (.ref I) >>= _) _ _ s
    refine wpAny_bind (W.done s _ _ hst fun s' hm => ?_)
    exact wpAny_pure (hR s' (hm.mono wid) (hS.at fun o e => hm.heap S o hSw e))
  | succ k ih =>
    intro i s hk hi hst hS hR
    have lt : i < n := by omega
    refine codeAny_builtin F.entry_set_update_loop ?_
    rw [Around.under_plainId F.plain_set_update_loop _]
    show wpAny _ A.in1 (pyNext (.ref I) >>= _) _ _ s
    refine wpAny_bind (W.item i s _ _ lt hst fun v s' hP hst' hm => ?_)
    obtain ⟨x, t, hx, rfl⟩ := hval i v hP
    have hS' : SetS w s'.heap S (firsts (xs.take i)) := hS.at fun o e => hm.heap S o hSw e
    have tk : xs.take (i + 1) = xs.take i ++ [x] := by rw [List.take_add_one, hx]; rfl
    show wpAny _ A.in1 (holding [Value.str x t] (setAdd S (.str x t)) >>= _) _ _ s'
    refine wpAny_bind (wpAny_holding ?_)
    unfold setAdd
    refine wpAny_holding (wpAny_bind ((PySem.strKind P w).pyHash (strKind_is P w x t) ?_))
    have fl := firsts_len (xs.take i)
    rw [List.length_take] at fl
    refine setS_add (s := { s' with toks := s'.toks + 1 }) hS' (by omega) fun h' b sb r => ?_
    rw [← firsts_snoc, ← tk] at r
    refine wpAny_pure ⟨plainId_quiet F.plain_set_update_loop _, ih (i + 1) _ (by omega) lt (W.frame _ s' _ _ hst' (Nat.le_succ _) fun b hb o e => ?_) r fun s'' hm'' hS'' => ?_⟩
    · rw [sb.2 b (fun h : b = S => hSf (by rw [← h]; exact hb))]; exact e
    · refine hR s'' (Moved.trans W.gtrans ((hm.mono wid).then_heap (Nat.le_succ _) fun b o hb e => ?_) hm'') hS''
      rw [sb.2 b (fun h : b = S => hb (by rw [h]; exact List.mem_cons_self))]; exact e
end
section
variable {P : Program} {w : World} {A : Around} {E : Value → Shared → Prop} {s : Shared}
set_option maxHeartbeats 8000000 in
/-- set(xs), xs a list of texts -/
theorem setS_list {l : Addr} {items : Array Value} {xs : List Str} {Q : Value → Shared → Prop} (hh : A.handled = none) (hl : s.heap.IsList l items) (hv : ∀ (i : Nat) (v : Value), items[i]? = some v → ∃ x t, xs[i]? = some x ∧ v = .str x t) (hz : items.size = xs.length) (few : xs.length + 1 < scanBound)
    (h : ∀ (h' : Heap) (tk : Nat), SetS w h' s.heap.objs.size (firsts xs) → (∀ b o, s.heap.get? b = some o → h'.get? b = some o) → Q (.ref s.heap.objs.size) { s with heap := h', toks := tk }) :
    wpAny (model P w) A (call (.type "set") [.ref l]) Q E s := by
  obtain ⟨c, tl, hmro⟩ := F.called_set.mro
  have hmade := F.called_set.made
  have hsub := F.called_set.sub
  refine wpAny_call (codeAny_of_tree ?_)
  show wpAny _ _ (callAny (.type "set") _) _ _ _
  refine wpAny_pure ⟨Code.quiet_builtin _ (by decide +kernel), codeAny_builtin F.entry_type_call ?_⟩
  rw [Around.under_plain (weight_type_call_type "set" [.ref l] []) rfl]
  have h1 := F.called_set.notType
  have h2 := F.called_set.canCreate
  have hct := F.typeCall_set_1 (.ref l)
  repeat (any_goals (first | assumption | wp_step))
  refine codeAny_mono (code_set_led1 (.ref l) (E := E) (Q₁ := fun obj s₁ => obj = .ref s.heap.objs.size ∧ s₁ = { s with heap := s.heap.push (newSetO w) }) ⟨rfl, rfl⟩) fun r s₁ hr => ?_
  cases r with
  | error e => exact hr
  | ok fl =>
    cases fl with
    | ret obj =>
      obtain ⟨rfl, rfl⟩ := hr
      have hS : (s.heap.push (newSetO w)).get? s.heap.objs.size = some (newSetO w) := Heap.get?_push_size _ rfl
      have hT : Shared.TypeIs { s with heap := s.heap.push (newSetO w) } (.ref s.heap.objs.size) "set" := ⟨_, hS, rfl⟩
      have hli := F.called_set.init.lookup
      have hbi := F.called_set.init.bind (.ref s.heap.objs.size)
      repeat (any_goals (first | assumption | wp_step))
      refine codeAny_mono (codeAny_call_builtin (R := wants (fun r s₂ => r = .none ∧ ∃ h' tk, s₂ = { s with heap := h', toks := tk } ∧ SetS w h' s.heap.objs.size (firsts xs) ∧ (∀ b o, s.heap.get? b = some o → h'.get? b = some o)) E) F.called_set.init.plain F.entry_set_init (check_set_init_1 hT ?_)) fun r₂ s₂ hr₂ => ?_
      · obtain ⟨ol, hol, hcl, nl, hdl⟩ := hl
        obtain ⟨ocls, odict, odata, oslots⟩ := ol
        simp only at hcl hdl
        subst hcl; subst hdl
        have hol' : (s.heap.push (newSetO w)).get? l = some { cls := .type "list", dict := odict, data := .seq items nl, slots := oslots } := Heap.get?_push_of_some _ hol
        have hsls := F.sub_list_set
        have hslf := F.sub_list_frozenset
        have hne : (Value.type "list" == Value.type "dict") = false := by decide
        have hl1 : (s.heap.push (newSetO w)).IsList l items := ⟨_, hol', rfl, nl, rfl⟩
        unfold Builtin.«set.__init__» noKeywords Builtin.Frozenset.updateFrom
        generalize hPI : pyIter = PI
        wp_walk
        subst hPI
        refine wpAny_pyIter_list hl1 ?_
        refine wpAny_bind (wpAny_runValue ?_)
        have lt : l < s.heap.objs.size := Heap.lt_size hol
        have hh3 : A.in1.in1.in1.handled = none := by simp [hh]
        have sz : (s.heap.push (newSetO w)).objs.size = s.heap.objs.size + 1 := Heap.size_push ..
        have neI : l ≠ (s.heap.push (newSetO w)).objs.size := by
          rw [sz]
          exact Nat.ne_of_lt (Nat.lt_succ_of_lt lt)
        have nf : s.heap.objs.size ∉ [(s.heap.push (newSetO w)).objs.size, l] := by
          rw [sz]
          simp only [List.mem_cons, List.not_mem_nil, or_false, not_or]
          exact ⟨Nat.ne_of_lt (Nat.lt_succ_self _), Nat.ne_of_gt lt⟩
        refine setS_loop ((Walks.list hh3 _ l neI items).toS) s.heap.objs.size nf xs hz few hv (items.size - 0) 0 _ (by omega) (Nat.zero_le _) ⟨⟨_, Heap.get?_push_size _ rfl, rfl, rfl⟩, (hl1.push _)⟩ (setS_fresh w (Heap.get?_push_of_some _ hS)) ?hR
        case hR =>
          intro s' hm hS'
          obtain ⟨h', g2, d', tk', os'⟩ := s'
          have eg : g2 = s.gens := hm.gens
          have ed : d' = s.drawn := hm.drawn
          have eo : os' = s.os := hm.os
          subst eg; subst ed; subst eo
          show wpAny _ _ _ _ _ _
          refine wpAny_pure ?_
          show wpAny _ _ (ret Value.none) _ _ _
          refine wpAny_pure ⟨rfl, h', tk', rfl, hS', fun b o e => ?_⟩
          have lb := Heap.lt_size e
          refine hm.heap b o (fun z => ?_) (Heap.get?_push_of_some _ (Heap.get?_push_of_some _ e))
          rw [sz] at z
          simp only [List.mem_cons, List.not_mem_nil, or_false] at z
          rcases z with z | z
          · exact absurd z (Nat.ne_of_lt lb)
          · exact absurd z (Nat.ne_of_lt (Nat.lt_succ_of_lt lb))
      · cases r₂ with
        | error e => exact hr₂
        | ok fl₂ =>
          cases fl₂ with
          | ret r =>
            obtain ⟨rfl, h', tk, rfl, hS', hk'⟩ := hr₂
            repeat (any_goals (first | assumption | wp_step))
            exact h _ _ hS' hk'
          | _ => exact hr₂.elim
    | _ => exact hr.elim
set_option maxHeartbeats 8000000 in
/-- set(xs), xs a tuple of texts -/
theorem setS_tuple {l : Addr} {items : Array Value} {xs : List Str} {Q : Value → Shared → Prop} (hh : A.handled = none) (hl : s.heap.IsTuple l items) (hv : ∀ (i : Nat) (v : Value), items[i]? = some v → ∃ x t, xs[i]? = some x ∧ v = .str x t) (hz : items.size = xs.length) (few : xs.length + 1 < scanBound)
    (h : ∀ (h' : Heap) (tk : Nat), SetS w h' s.heap.objs.size (firsts xs) → (∀ b o, s.heap.get? b = some o → h'.get? b = some o) → Q (.ref s.heap.objs.size) { s with heap := h', toks := tk }) :
    wpAny (model P w) A (call (.type "set") [.ref l]) Q E s := by
  obtain ⟨c, tl, hmro⟩ := F.called_set.mro
  have hmade := F.called_set.made
  have hsub := F.called_set.sub
  refine wpAny_call (codeAny_of_tree ?_)
  show wpAny _ _ (callAny (.type "set") _) _ _ _
  refine wpAny_pure ⟨Code.quiet_builtin _ (by decide +kernel), codeAny_builtin F.entry_type_call ?_⟩
  rw [Around.under_plain (weight_type_call_type "set" [.ref l] []) rfl]
  have h1 := F.called_set.notType
  have h2 := F.called_set.canCreate
  have hct := F.typeCall_set_1 (.ref l)
  repeat (any_goals (first | assumption | wp_step))
  refine codeAny_mono (code_set_led1 (.ref l) (E := E) (Q₁ := fun obj s₁ => obj = .ref s.heap.objs.size ∧ s₁ = { s with heap := s.heap.push (newSetO w) }) ⟨rfl, rfl⟩) fun r s₁ hr => ?_
  cases r with
  | error e => exact hr
  | ok fl =>
    cases fl with
    | ret obj =>
      obtain ⟨rfl, rfl⟩ := hr
      have hS : (s.heap.push (newSetO w)).get? s.heap.objs.size = some (newSetO w) := Heap.get?_push_size _ rfl
      have hT : Shared.TypeIs { s with heap := s.heap.push (newSetO w) } (.ref s.heap.objs.size) "set" := ⟨_, hS, rfl⟩
      have hli := F.called_set.init.lookup
      have hbi := F.called_set.init.bind (.ref s.heap.objs.size)
      repeat (any_goals (first | assumption | wp_step))
      refine codeAny_mono (codeAny_call_builtin (R := wants (fun r s₂ => r = .none ∧ ∃ h' tk, s₂ = { s with heap := h', toks := tk } ∧ SetS w h' s.heap.objs.size (firsts xs) ∧ (∀ b o, s.heap.get? b = some o → h'.get? b = some o)) E) F.called_set.init.plain F.entry_set_init (check_set_init_1 hT ?_)) fun r₂ s₂ hr₂ => ?_
      · obtain ⟨ol, hol, hcl, nl, hdl⟩ := hl
        obtain ⟨ocls, odict, odata, oslots⟩ := ol
        simp only at hcl hdl
        subst hcl; subst hdl
        have hol' : (s.heap.push (newSetO w)).get? l = some { cls := .type "tuple", dict := odict, data := .seq items nl, slots := oslots } := Heap.get?_push_of_some _ hol
        have hsls := F.sub_tuple_set
        have hslf := F.sub_tuple_frozenset
        have hne : (Value.type "tuple" == Value.type "dict") = false := by decide
        have hl1 : (s.heap.push (newSetO w)).IsTuple l items := ⟨_, hol', rfl, nl, rfl⟩
        unfold Builtin.«set.__init__» noKeywords Builtin.Frozenset.updateFrom
        generalize hPI : pyIter = PI
        wp_walk
        subst hPI
        refine wpAny_pyIter_tuple hl1 ?_
        refine wpAny_bind (wpAny_runValue ?_)
        have lt : l < s.heap.objs.size := Heap.lt_size hol
        have hh3 : A.in1.in1.in1.handled = none := by simp [hh]
        have sz : (s.heap.push (newSetO w)).objs.size = s.heap.objs.size + 1 := Heap.size_push ..
        have neI : l ≠ (s.heap.push (newSetO w)).objs.size := by
          rw [sz]
          exact Nat.ne_of_lt (Nat.lt_succ_of_lt lt)
        have nf : s.heap.objs.size ∉ [(s.heap.push (newSetO w)).objs.size, l] := by
          rw [sz]
          simp only [List.mem_cons, List.not_mem_nil, or_false, not_or]
          exact ⟨Nat.ne_of_lt (Nat.lt_succ_self _), Nat.ne_of_gt lt⟩
        refine setS_loop ((Walks.tuple hh3 _ l neI items).toS) s.heap.objs.size nf xs hz few hv (items.size - 0) 0 _ (by omega) (Nat.zero_le _) ⟨⟨_, Heap.get?_push_size _ rfl, rfl, rfl⟩, (hl1.push _)⟩ (setS_fresh w (Heap.get?_push_of_some _ hS)) ?hR
        case hR =>
          intro s' hm hS'
          obtain ⟨h', g2, d', tk', os'⟩ := s'
          have eg : g2 = s.gens := hm.gens
          have ed : d' = s.drawn := hm.drawn
          have eo : os' = s.os := hm.os
          subst eg; subst ed; subst eo
          show wpAny _ _ _ _ _ _
          refine wpAny_pure ?_
          show wpAny _ _ (ret Value.none) _ _ _
          refine wpAny_pure ⟨rfl, h', tk', rfl, hS', fun b o e => ?_⟩
          have lb := Heap.lt_size e
          refine hm.heap b o (fun z => ?_) (Heap.get?_push_of_some _ (Heap.get?_push_of_some _ e))
          rw [sz] at z
          simp only [List.mem_cons, List.not_mem_nil, or_false] at z
          rcases z with z | z
          · exact absurd z (Nat.ne_of_lt lb)
          · exact absurd z (Nat.ne_of_lt (Nat.lt_succ_of_lt lb))
      · cases r₂ with
        | error e => exact hr₂
        | ok fl₂ =>
          cases fl₂ with
          | ret r =>
            obtain ⟨rfl, h', tk, rfl, hS', hk'⟩ := hr₂
            repeat (any_goals (first | assumption | wp_step))
            exact h _ _ hS' hk'
          | _ => exact hr₂.elim
    | _ => exact hr.elim
/-- sorted(the set) -/
theorem sortedS_set {a : Addr} {L : List Str} {Q : Value → Shared → Prop} (R : SetS w s.heap a L) (hh : A.handled = none) (h64 : L.length < 64)
    (hQ : ∀ s' p (out : Array Value) (c : Nat) (ys : List Str), (∀ b o, s.heap.get? b = some o → s'.heap.get? b = some o) → s'.gens = s.gens → s'.os = s.os → s.heap.objs.size ≤ p →
      s'.heap.get? p = some (seqObj "list" out c) → StrsAre out.toList ys → ys.Perm L → sortedS ys = true → Q (.ref p) s') :
    wpAny (model P w) A (call (.builtin "sorted") [.ref a]) Q E s := by
  obtain ⟨o, es, ep, t, ho, hex, hd, g, pl, nd, hb, hf, hr, hl⟩ := R
  refine Calls.call_function_entry kind_sorted plain_sorted entry_sorted (args_sorted1 _) ?_
  unfold Builtin.«sorted»
  refine wpAny_bind (m := checkCount "sorted" 1 1 _) (wpAny_pure ?_)
  refine wpAny_bind (collect_set (A := A.in1) hh ⟨o, ho, hex.1, hd⟩ hf hb hr hl fun s1 vs k1 hz g1 o1 pm => ?_)
  have txs : ∀ us : List Value, (∀ u ∈ us, ∃ x tk, u = Value.str x tk) → StrsAre us (us.map fun u => txtOf (0, u)) := by
    intro us
    induction us with
    | nil => intro _; exact .nil
    | cons u us ih =>
      intro hu
      obtain ⟨x, tk, rfl⟩ := hu u List.mem_cons_self
      exact .cons x tk (ih fun v hv => hu v (List.mem_cons_of_mem _ hv))
  have hS : StrsAre vs (vs.map fun u => txtOf (0, u)) := txs vs fun v hv => by
    obtain ⟨e, he, q⟩ := List.mem_map.mp (pm.mem_iff.mp hv)
    obtain ⟨x, tk, e1, _⟩ := g e he
    exact ⟨x, tk, by rw [← q]; exact e1⟩
  have pk : (vs.map fun u => txtOf (0, u)).Perm L := by
    have q := pm.map fun u => txtOf (0, u)
    rw [List.map_map] at q
    exact q.trans pl
  have vl : vs.length = L.length := by
    have z := pk.length_eq
    rw [List.length_map] at z
    exact z
  refine wpAny_bind (wpAny_newList ?_ (by rw [sizeLine_eq]; omega))
  have oL : (s1.heap.push (seqObj "list" vs.toArray 0)).get? s1.heap.objs.size = some (seqObj "list" vs.toArray 0) := Heap.get?_push_size _ rfl
  refine wpAny_bind (wpAny_holding (wpAny_call_entry slot_list_sort ⟨_, oL, rfl⟩ entry_list_sort
    (list_sort_treeK strKind_oneLt oL hS.keysOf (fun v₁ v₂ rest e => keyKind_strs (by rw [← e]; exact hS)) (by rw [vl]; exact h64) fun st' hp hs => ?_) (args_list_sort _)))
  obtain ⟨ys, f1, f2, f3⟩ := sorted_out_str hS hp hs
  obtain ⟨c, hc⟩ := sortedHeap_at (vs := vs) (out := (arrOf st').map (·.2)) oL
  refine ⟨_, rfl, wpAny_pure ⟨_, rfl, hQ _ s1.heap.objs.size _ c ys (fun b u e => ?_) g1 o1 hz hc f1 (f2.trans pk) f3⟩⟩
  have q := k1 b u e
  have lt := Heap.lt_size q
  show (sortedHeap (s1.heap.push (seqObj "list" vs.toArray 0)) s1.heap.objs.size vs _).get? b = some u
  rw [sortedHeap_old (Nat.ne_of_lt lt) (by rw [size_push']; exact Nat.lt_succ_of_lt lt)]
  exact Heap.get?_push_of_some _ q
end
/-- a set of texts, tracked -/
def SetX (w : World) (a : Addr) (L : List Str) : HO := .ext fun h => SetS w h a L
theorem setX_new {P : Program} {w : World} {H : Hp} {h : Heap} {a : Addr} {L : List Str} (R : SetS w h a L) : ObjOk P w H h a (SetX w a L) := by
  have ⟨o, es, ep, t, ho, r⟩ := R
  exact ⟨R, ⟨o, ho⟩, fun h1 h2 p k => SetS.at p k⟩
theorem vals_txs : ∀ {xs : List Str} {us : List Value}, Vals (xs.map V.str) us → ∀ (i : Nat) (v : Value), us[i]? = some v → ∃ x t, xs[i]? = some x ∧ v = .str x t
  | [], _, .nil, i, v, h => by simp at h
  | x :: xs, _, .cons r t, 0, v, h => by
    obtain ⟨tk, rfl⟩ := r
    have e := Option.some.inj h
    exact ⟨x, tk, rfl, e.symm⟩
  | x :: xs, _, .cons r t, i + 1, v, h => vals_txs t i v h
section
variable {X : Cx}
def rSetX (K : PySem.W.Frag) (w : World) : List V → Hp → VK → Prop := fun vs H Q => ∃ (l : Addr) (xs : List Str), vs = [.ref l] ∧ (SqL K H l (xs.map V.str) ∨ SqT K H l (xs.map V.str)) ∧ xs.length ≤ 60 ∧ ∀ p, H p = none → Q (.ref p) (upd H p (SetX w p (firsts xs)))
theorem cr_setX (hc : X.calm = true) : CallR X (.type "set") (rSetX X.K X.w) := by
  intro pins s σ H vs us Q I r h
  obtain ⟨l, xs, rfl, hl, hf, q⟩ := h
  rw [Vals.ref1 r]
  have fin : ∀ (h' : Heap) (tk : Nat), SetS X.w h' s.heap.objs.size (firsts xs) → (∀ b o, s.heap.get? b = some o → h'.get? b = some o) → EP X pins σ Q (.ref s.heap.objs.size) { s with heap := h', toks := tk } := fun h' tk R k =>
    ⟨.ref s.heap.objs.size, _, I.laid (t' := tk) k (Nat.le_refl _) (setX_new R), rfl, q _ (I.hok.fresh (Nat.le_refl _))⟩
  have sb : xs.length + 1 < scanBound := by unfold scanBound; omega
  rcases hl with hl | hl
  · obtain ⟨its, rv, pl, hz⟩ := I.list hl
    exact setS_list (I.ok.hd hc) pl.isList (fun i v e => vals_txs rv i v (by simpa using e)) (by rw [List.size_toArray, ← rv.length, List.length_map]) sb fin
  · obtain ⟨its, rv, pl, hz⟩ := I.tuple hl
    exact setS_tuple (I.ok.hd hc) pl (fun i v e => vals_txs rv i v (by simpa using e)) (by rw [List.size_toArray, ← rv.length, List.length_map]) sb fin
def rSortX (w : World) : List V → Hp → VK → Prop := fun vs H Q => ∃ (a : Addr) (L : List Str), vs = [.ref a] ∧ H a = some (SetX w a L) ∧ L.length < 64 ∧ ∀ (ys : List Str) (p : Addr), ys.Perm L → sortedS ys = true → H p = none → Q (.ref p) (upd H p (.lst (ys.map V.str)))
theorem cr_sortX (hc : X.calm = true) : CallR X (.builtin "sorted") (rSortX X.w) := by
  intro pins s σ H vs us Q I r h
  obtain ⟨a, L, rfl, ha, h64, q⟩ := h
  have R : SetS X.w s.heap a L := (I.hok a _ ha).1
  rw [Vals.ref1 r]
  refine sortedS_set R (I.ok.hd hc) h64 fun s' p out c ys k g o hp hg hst pm so => ?_
  have hlen : (ys.map V.str).length ≤ sizeLine := by rw [List.length_map, pm.length_eq, sizeLine_eq]; omega
  have hn : H p = none := I.hok.fresh hp
  have J : Inv X pins σ (upd H p (.lst (ys.map V.str))) { s with heap := s'.heap, gens := s'.gens, drawn := s'.drawn, toks := s'.toks } :=
    I.call (ch := []) (Un.laid k hp hn) (I.hok.laid k hp ⟨hlen, out.toList, c, vals_of_strs hst, hg⟩) (by rw [g]; exact I.bare) (fun _ z => nomatch z)
  have e : s' = { s with heap := s'.heap, gens := s'.gens, drawn := s'.drawn, toks := s'.toks } := by
    cases s'
    cases s
    cases o
    rfl
  rw [e]
  exact ⟨.ref p, _, J, rfl, q ys p pm so hn⟩
def rLenX (w : World) : List V → Hp → VK → Prop := fun vs H Q => ∃ (a : Addr) (L : List Str), vs = [.ref a] ∧ H a = some (SetX w a L) ∧ Q (.int L.length) H
theorem cr_lenX : CallR X (.builtin "len") (rLenX X.w) := by
  intro pins s σ H vs us Q I r h
  obtain ⟨a, L, rfl, ha, q⟩ := h
  obtain ⟨o, es, ep, t, ho, hex, hd, g, pl, nd, hb, hf, hr, hl⟩ : SetS X.w s.heap a L := (I.hok a _ ha).1
  rw [Vals.ref1 r]
  have len : es.size = L.length := by
    have z := pl.length_eq
    rw [List.length_map, Array.length_toList] at z
    exact z
  refine call_len_set ho hex hd hf (by unfold scanBound at hb; omega) ⟨.int L.length, H, I.tok _, ⟨_, by rw [len]⟩, q⟩
end
end L2

/-! the order of texts; the sorted list of different texts is one -/
namespace L2
open PySem PySem.Spec PyProof.Rows
def leS (a b : Str) : Bool := !ltCps b.cps.toList a.cps.toList
theorem leS_iff {a b : Str} : leS a b = true ↔ a.cps.toList ≤ b.cps.toList := by
  unfold leS
  rw [ltCps_eq]
  simp [List.not_lt]
theorem leS_trans {a b c : Str} (h : leS a b = true) (k : leS b c = true) : leS a c = true := leS_iff.mpr (List.le_trans (leS_iff.mp h) (leS_iff.mp k))
theorem leS_total (a b : Str) : (leS a b || leS b a) = true := by
  rw [Bool.or_eq_true, leS_iff, leS_iff]
  exact List.le_total _ _
theorem str_ext {a b : Str} (h : a.cps.toList = b.cps.toList) : a = b := by
  obtain ⟨x⟩ := a
  obtain ⟨y⟩ := b
  congr 1
  exact Array.toList_inj.mp h
theorem leS_anti {a b : Str} (h : leS a b = true) (k : leS b a = true) : a = b := str_ext (List.le_antisymm (leS_iff.mp h) (leS_iff.mp k))
theorem rising_pw : ∀ (l : List Str) (x : Str), risingS x l = true → (x :: l).Pairwise (fun a b => leS a b = true)
  | [], x, _ => List.pairwise_singleton _ _
  | y :: l, x, h => by
    have h2 : (leS x y && risingS y l) = true := h
    rw [Bool.and_eq_true] at h2
    have ih := rising_pw l y h2.2
    refine List.pairwise_cons.mpr ⟨fun z hz => ?_, ih⟩
    rcases List.mem_cons.mp hz with rfl | hz
    · exact h2.1
    · exact leS_trans h2.1 ((List.pairwise_cons.mp ih).1 z hz)
theorem pw_rising : ∀ (l : List Str) (x : Str), (x :: l).Pairwise (fun a b => leS a b = true) → risingS x l = true
  | [], x, _ => rfl
  | y :: l, x, h => by
    obtain ⟨h1, h2⟩ := List.pairwise_cons.mp h
    show (leS x y && risingS y l) = true
    rw [Bool.and_eq_true]
    exact ⟨h1 y List.mem_cons_self, pw_rising l y h2⟩
theorem sortedS_pw {l : List Str} (h : sortedS l = true) : l.Pairwise (fun a b => leS a b = true) := by
  cases l with
  | nil => exact List.Pairwise.nil
  | cons x l => exact rising_pw l x h
theorem pw_sortedS {l : List Str} (h : l.Pairwise (fun a b => leS a b = true)) : sortedS l = true := by
  cases l with
  | nil => rfl
  | cons x l => exact pw_rising l x h
theorem sorted_one : ∀ {l l' : List Str}, l.Perm l' → l.Pairwise (fun a b => leS a b = true) → l'.Pairwise (fun a b => leS a b = true) → l = l'
  | [], l', p, _, _ => (List.nil_perm.mp p).symm
  | x :: l, [], p, _, _ => by have := p.length_eq; simp at this
  | x :: l, y :: l', p, h, h' => by
    obtain ⟨h1, h2⟩ := List.pairwise_cons.mp h
    obtain ⟨k1, k2⟩ := List.pairwise_cons.mp h'
    have e : x = y := by
      rcases List.mem_cons.mp (p.mem_iff.mp (List.mem_cons_self (a := x) (l := l))) with e | m
      · exact e
      · rcases List.mem_cons.mp (p.mem_iff.mpr (List.mem_cons_self (a := y) (l := l'))) with e | m'
        · exact e.symm
        · exact leS_anti (h1 y m') (k1 x m)
    subst e
    rw [sorted_one (List.Perm.cons_inv p) h2 k2]
theorem mem_firsts {z : Str} {xs : List Str} : z ∈ firsts xs ↔ z ∈ xs := by
  have gen : ∀ (ys L : List Str), z ∈ ys.foldl (fun L x => if x ∈ L then L else L ++ [x]) L ↔ z ∈ L ∨ z ∈ ys := by
    intro ys
    induction ys with
    | nil => intro L; simp
    | cons y ys ih =>
      intro L
      rw [List.foldl_cons, ih]
      split
      · rename_i hy
        rw [List.mem_cons]
        constructor
        · rintro (h | h)
          · exact .inl h
          · exact .inr (.inr h)
        · rintro (h | rfl | h)
          · exact .inl h
          · exact .inl hy
          · exact .inr h
      · rw [List.mem_append, List.mem_singleton, List.mem_cons, or_assoc]
  rw [firsts, gen]
  simp
theorem nodup_firsts (xs : List Str) : (firsts xs).Nodup := by
  have gen : ∀ (ys L : List Str), L.Nodup → (ys.foldl (fun L x => if x ∈ L then L else L ++ [x]) L).Nodup := by
    intro ys
    induction ys with
    | nil => intro L h; exact h
    | cons y ys ih =>
      intro L h
      refine ih _ ?_
      show (if y ∈ L then L else L ++ [y]).Nodup
      split
      · exact h
      · rename_i hy
        exact List.nodup_append.mpr ⟨h, List.nodup_cons.mpr ⟨by simp, List.nodup_nil⟩, fun a ha b hb e => hy (by rw [← List.mem_singleton.mp hb, ← e]; exact ha)⟩
  exact gen xs [] List.nodup_nil
/-- the different ones, ascending -/
def canon (zs : List Str) : List Str := (firsts zs).mergeSort leS
theorem canon_perm (zs : List Str) : (canon zs).Perm (firsts zs) := List.mergeSort_perm _ _
theorem canon_pw (zs : List Str) : (canon zs).Pairwise (fun a b => leS a b = true) := List.pairwise_mergeSort (le := leS) (fun _ _ _ h k => leS_trans h k) leS_total _
theorem canon_is {zs ys : List Str} (p : ys.Perm (firsts zs)) (s : sortedS ys = true) : ys = canon zs := sorted_one (p.trans (canon_perm zs).symm) (sortedS_pw s) (canon_pw zs)
theorem mem_canon {z : Str} {zs : List Str} : z ∈ canon zs ↔ z ∈ zs := (canon_perm zs).mem_iff.trans mem_firsts
theorem nodup_canon (zs : List Str) : (canon zs).Nodup := (canon_perm zs).nodup_iff.mpr (nodup_firsts zs)
theorem canon_len (zs : List Str) : (canon zs).length ≤ zs.length := by rw [(canon_perm zs).length_eq]; exact firsts_len zs
theorem canon_congr {xs ys : List Str} (h : ∀ z, z ∈ xs ↔ z ∈ ys) : canon xs = canon ys := by
  refine sorted_one ((List.perm_ext_iff_of_nodup (nodup_canon xs) (nodup_canon ys)).mpr fun z => ?_) (canon_pw xs) (canon_pw ys)
  rw [mem_canon, mem_canon, h]
/-- what is sorted and has no repeats is its own -/
theorem canon_self {ys : List Str} (nd : ys.Nodup) (pw : ys.Pairwise (fun a b => leS a b = true)) : canon ys = ys := by
  refine sorted_one ((List.perm_ext_iff_of_nodup (nodup_canon ys) nd).mpr fun z => mem_canon) (canon_pw ys) pw
theorem canon_canon (zs : List Str) : canon (canon zs) = canon zs := canon_self (nodup_canon zs) (canon_pw zs)
/-- a dict with the keys L -/
abbrev keyT (z : Str) : Key × V := (Sum.inr z, .bl true)
theorem put_keyT (L : List Str) (x : Str) : putK (L.map keyT) (Sum.inr x) (.bl true) = (if x ∈ L then L else L ++ [x]).map keyT := by
  unfold putK
  by_cases h : x ∈ L
  · have e : ((L.map keyT).any fun kv => decide (kv.1 = Sum.inr x)) = true := List.any_eq_true.mpr ⟨keyT x, List.mem_map.mpr ⟨x, h, rfl⟩, decide_eq_true rfl⟩
    rw [if_pos e, if_pos h, List.map_map]
    refine List.map_congr_left fun z _ => ?_
    show (if (Sum.inr z : Key) = Sum.inr x then ((Sum.inr z : Key), V.bl true) else keyT z) = keyT z
    split <;> rfl
  · have e : ¬ (((L.map keyT).any fun kv => decide (kv.1 = Sum.inr x)) = true) := fun z => by
      obtain ⟨kv, hm, hk⟩ := List.any_eq_true.mp z
      obtain ⟨y, hy, rfl⟩ := List.mem_map.mp hm
      have ey : (Sum.inr y : Key) = Sum.inr x := of_decide_eq_true hk
      exact h (by rw [← Sum.inr.inj ey]; exact hy)
    rw [if_neg e, if_neg h, List.map_append]
    rfl
end L2

/-! the law's draws: dice, roll, pick -/
namespace Tf
open PySem PySem.Spec PyProof.Rows L2
def top (i : Nat) : Stmt := PySem.Challenge.pw_treefits_k04_stores_made.main.body.getD i (.Pass ⟨0, 0, 0, 0⟩)
abbrev sRoll : Stmt := top 32
abbrev sPick : Stmt := top 33
abbrev sDice : Stmt := top 31
theorem scRoll : FnScope ["_law_dice_here", "_law_upto", "_law_found", "_law_one", "_law_two"] ["_law_dice_here", "_law_upto"] (defScope sRoll) := ⟨rfl, rfl, rfl, by decide +kernel, rfl, by decide +kernel, by decide +kernel⟩
theorem scPick : FnScope ["_law_dice_here", "_law_items"] ["_law_dice_here", "_law_items"] (defScope sPick) := ⟨rfl, rfl, rfl, by decide +kernel, rfl, by decide +kernel, by decide +kernel⟩
theorem scDice : FnScope ["_law_script", "_law_spot", "_law_cell", "_law_great", "_law_blend"] ["_law_script", "_law_spot"] (defScope sDice) := ⟨rfl, rfl, rfl, by decide +kernel, rfl, by decide +kernel, by decide +kernel⟩
/-- roll(dice, n): a number from 0 to n - 1; the dice change -/
def spRoll : Sp := fun vs H Q _ => ∃ (d : Addr) (n : Int), vs = [.ref d, .int n] ∧ Dice H d ∧ 0 < n ∧ n < 1000000 ∧
  ∀ (r : Int) (H' : Hp), 0 ≤ r → r < n → Nr d H H' → Dice H' d → Q (.int r) H'
section
variable {P : Program} {w : World} {K : PySem.W.Frag} {mg : Str → Option Value} {base : Heap}
theorem ok_roll {f : Addr} {fd : FuncData} {k : Nat} (F : Fun K "_law_roll" "_law_roll" sRoll f fd) (mi : mg "int" = none) : FnOk P w K mg base CX0 (k + 1) f fd ["_law_dice_here", "_law_upto"] spRoll := by
  refine F.ok scRoll (fun vs H Q E h => ?_) (fun cdv A outer s H vs Q E hr h => ?_)
  · obtain ⟨d, n, rfl, _⟩ := h
    rfl
  · obtain ⟨d, n, rfl, ⟨a, b, c, ha, hd⟩, n0, n1, q⟩ := h
    refine ⟨_, pss_cons (ps_if (pt_cmpR op_gt (pe_ix ix_list (pv 0) pe_int (fun _ _ => rfl)) pe_int (nomark _))
        (pss_cons (ps_set (i := 2) scRoll.nd rfl (.inl rfl) (pe_op op_modN (pe_callTy call_int1 (by rfl) mi (by decide +kernel) (pa_cons (pe_ix ix_list (pv 0) pe_int (fun _ _ => rfl)) pa_nil)) (pv 1)))
        (pss_cons (ps_asg (pe_op op_fdivN (pe_ix ix_list (pv 0) pe_int (fun _ _ => rfl)) (pv 1)) (pg_sub (pv 0) pe_int set_list))
        (pss_one (ps_ret (pv 2))))) pss_nil)
      (pss_cons (ps_asg (pe_op op_add (pe_ix ix_list (pv 0) pe_int (fun _ _ => rfl)) pe_int) (pg_sub (pv 0) pe_int set_list))
      (pss_cons (ps_set (i := 3) scRoll.nd rfl (.inl rfl) (pe_op op_modN (pe_callTy call_int1 (by rfl) mi (by decide +kernel) (pa_cons (pe_op op_add (pe_ix ix_list (pv 0) pe_int (fun _ _ => rfl)) (pe_op op_mul pe_int (pe_ix ix_list (pv 0) pe_int (fun _ _ => rfl)))) pa_nil)) pe_int))
      (pss_cons (ps_set (i := 4) scRoll.nd rfl (.inl rfl) (pe_op op_add (pe_op op_mul (pe_op op_modN (pe_callTy call_int1 (by rfl) mi (by decide +kernel) (pa_cons (pe_op op_mul (pv 3) (pv 3)) pa_nil)) pe_int) (pv 3)) (pe_op op_mul pe_int (pe_ix ix_list (pv 0) pe_int (fun _ _ => rfl)))))
      (pss_one (ps_ret (pe_op op_modN (pe_callTy call_int1 (by rfl) mi (by decide +kernel) (pa_cons (pe_op op_fdivN (pe_op op_modN (pe_callTy call_int1 (by rfl) mi (by decide +kernel) (pa_cons (pe_op op_add (pv 4) (pe_ix ix_list (pv 0) pe_int (fun _ _ => rfl))) pa_nil)) pe_int) pe_int) pa_nil)) (pv 1))))))), ?_⟩
    have hA : SqL K H d [.int a, .int b, .int c] := lst_of hd
    refine ⟨.ref d, rfl, d, _, 0, .int a, rfl, rfl, hA, rfl, a, 0, rfl, rfl, _, rfl, ite2 (fun e => ?_) (fun e => ?_)⟩
    · refine ⟨.ref d, rfl, d, _, 0, .int a, rfl, rfl, hA, rfl, .inl ⟨a, rfl, .int n, rfl, a, n, rfl, rfl, by omega, ?_⟩⟩
      refine ⟨.ref d, rfl, d, _, 0, .int a, rfl, rfl, hA, rfl, .int n, rfl, a, n, rfl, rfl, ⟨by omega, by omega⟩, ?_⟩
      refine ⟨.ref d, rfl, d, [.int a, .int b, .int c], 0, 0, rfl, rfl, hd, rfl, ?_⟩
      refine ⟨.int (a.fmod n), rfl, q _ _ (Int.fmod_nonneg_of_pos _ n0) (Int.fmod_lt_of_pos _ n0) Nr.upd ⟨a.fdiv n, b, c, Int.fdiv_nonneg ha (by omega), upd_same⟩⟩
    · have hA' : ∀ x y z : V, SqL K (upd H d (.lst [x, y, z])) d [x, y, z] := fun x y z => lst_of upd_same
      refine ⟨.ref d, rfl, d, _, 2, .int c, rfl, rfl, hA, rfl, c, 1, rfl, rfl, ?_⟩
      refine ⟨.ref d, rfl, d, [.int a, .int b, .int c], 2, 2, rfl, rfl, hd, rfl, ?_⟩
      have hB : SqL K (upd H d (.lst [.int a, .int b, .int (c + 1)])) d [.int a, .int b, .int (c + 1)] := hA' _ _ _
      -- _law_one
      have o0 := Int.fmod_nonneg_of_pos (b + 982451653 * (c + 1)) (show (0 : Int) < 67280421310721 by decide)
      have o1 := Int.fmod_lt_of_pos (b + 982451653 * (c + 1)) (show (0 : Int) < 67280421310721 by decide)
      refine ⟨.ref d, rfl, d, _, 1, .int b, rfl, rfl, hB, rfl, .ref d, rfl, d, _, 2, .int (c + 1), rfl, rfl, hB, rfl, 982451653, c + 1, rfl, rfl, .inl ⟨by decide, by decide⟩, b, _, rfl, rfl, .inl ⟨_, rfl, _, 67280421310721, rfl, rfl, (show (67280421310721 : Int) ≠ 0 by decide), ?_⟩⟩
      -- _law_two
      refine ⟨_, rfl, _, rfl, _, _, rfl, rfl, .inl ⟨Int.lt_of_lt_of_le (by decide) o0, Int.lt_trans o1 (by decide)⟩, .inl ⟨_, rfl, _, 576460752303423433, rfl, rfl, (show (576460752303423433 : Int) ≠ 0 by decide), _, rfl, _, _, rfl, rfl, .inr ⟨Int.lt_of_lt_of_le (by decide) o0, Int.lt_trans o1 (by decide)⟩, .ref d, rfl, d, _, 2, .int (c + 1), rfl, rfl, hB, rfl, 8191, c + 1, rfl, rfl, .inl ⟨by decide, by decide⟩, _, _, rfl, rfl, ?_⟩⟩
      refine ⟨_, rfl, .ref d, rfl, d, _, 1, .int b, rfl, rfl, hB, rfl, _, b, rfl, rfl, .inl ⟨_, rfl, _, 2199023255531, rfl, rfl, (show (2199023255531 : Int) ≠ 0 by decide), _, 64, rfl, rfl, ⟨by decide, by decide⟩, .inl ⟨_, rfl, .int n, rfl, _, n, rfl, rfl, (show n ≠ 0 by omega), ?_⟩⟩⟩
      exact q _ _ (Int.fmod_nonneg_of_pos _ n0) (Int.fmod_lt_of_pos _ n0) Nr.upd ⟨a, b, c + 1, ha, upd_same⟩
/-- pick(dice, items): one of them -/
def spPick (K : PySem.W.Frag) : Sp := fun vs H Q _ => ∃ (d l : Addr) (xs : List V), vs = [.ref d, .ref l] ∧ Dice H d ∧ H l = some (.lst xs) ∧ d ≠ l ∧ xs ≠ [] ∧ xs.length < 1000 ∧
  ∀ (v : V) (H' : Hp), v ∈ xs → Nr d H H' → Dice H' d → Q v H'
theorem ok_pick {f fR : Addr} {fd fdR : FuncData} {k : Nat} (F : Fun K "_law_pick" "_law_pick" sPick f fd) (FR : Fun K "_law_roll" "_law_roll" sRoll fR fdR) (bR : Binds K fdR ["_law_dice_here", "_law_upto"] []) (gR : mg "_law_roll" = some (.ref fR)) (mi : mg "int" = none) (ml : mg "len" = none) : FnOk P w K mg base CX0 (k + 2) f fd ["_law_dice_here", "_law_items"] (spPick K) := by
  have GR : FnOk P w K mg base CX0 (k + 1) fR fdR ["_law_dice_here", "_law_upto"] spRoll := ok_roll FR mi
  refine F.ok scPick (fun vs H Q E h => ?_) (fun cdv A outer s H vs Q E hr h => ?_)
  · obtain ⟨d, l, xs, rfl, _⟩ := h
    rfl
  · obtain ⟨d, l, xs, rfl, hd, hl, ne, x0, x1, q⟩ := h
    refine ⟨_, pss_one (ps_ret (pe_ix ix_list (pv 1) (pe_call GR hr (by rfl) gR FR.kp bR .nil pass0 (pa_cons (pv 0) (pa_cons (pe_callB call_len_seq (by rfl) ml PySem.boot_len (pa_cons (pv 1) pa_nil)) pa_nil))) (fun _ _ => rfl))), ?_⟩
    have l0 : 0 < xs.length := List.length_pos_iff.mpr x0
    refine ⟨.ref l, rfl, .ref d, rfl, .ref l, rfl, l, xs, rfl, .inl (lst_of hl), d, (xs.length : Int), rfl, hd, by omega, by omega, fun r H' r0 r1 nr dc => ?_⟩
    have hi : r.toNat < xs.length := by omega
    refine ⟨l, xs, r, xs[r.toNat], rfl, rfl, lst_of (nr l _ ne.symm hl), ?_, q _ _ (List.getElem_mem hi) nr dc⟩
    exact at_of (j := r.toNat) (by omega) (List.getElem?_eq_getElem hi)
/-- dice(script, spot) -/
def spDice (K : PySem.W.Frag) : Sp := fun vs H Q _ => ∃ (a : Addr) (ns : List Int) (i : Int), vs = [.ref a, .int i] ∧ SqL K H a (ns.map V.int) ∧ 0 ≤ i ∧ i < 1000 ∧
  ∀ (d : Addr) (H' : Hp), Same H H' → H d = none → Dice H' d → Q (.ref d) H'
theorem ok_dice {f : Addr} {fd : FuncData} {k : Nat} (F : Fun K "_law_dice" "_law_dice" sDice f fd) (mi : mg "int" = none) (ml : mg "len" = none) (ma : mg "abs" = none) (mx : mg "max" = none) : FnOk P w K mg base CX0 (k + 1) f fd ["_law_script", "_law_spot"] (spDice K) := by
  refine F.ok scDice (fun vs H Q E h => ?_) (fun cdv A outer s H vs Q E hr h => ?_)
  · obtain ⟨a, ns, i, rfl, _⟩ := h
    rfl
  · obtain ⟨a, ns, i, rfl, hS, i0, i1, q⟩ := h
    refine ⟨_, pss_cons (ps_set (i := 2) scDice.nd rfl (.inl rfl) (pe_ifExp (pt_cmpR op_lt (pv 1) (pe_callB call_len_seq (by rfl) ml PySem.boot_len (pa_cons (pv 0) pa_nil)) (nomark _)) (pe_ix ix_list (pv 0) (pv 1) (fun _ _ => rfl)) (pe_op op_add (pe_op op_mul pe_int (pv 1)) pe_int)))
      (pss_cons (ps_set (i := 3) scDice.nd rfl (.inl rfl) (pe_op op_modN (pe_callTy call_int1 (by rfl) mi (by decide +kernel) (pa_cons (pe_callB call_abs (by rfl) ma (by decide +kernel) (pa_cons (pv 2) pa_nil)) pa_nil)) (pe_op op_powW (pe_op op_pow pe_int pe_int) pe_int)))
      (pss_cons (ps_set (i := 4) scDice.nd rfl (.inl rfl) (pe_op op_add (pe_op op_add (pe_op op_add (pe_op op_mul (pv 3) pe_int) (pe_op op_mul pe_int (pv 1))) (pe_op op_mul pe_int (pe_callTy call_int1 (by rfl) mi (by decide +kernel) (pa_cons (pe_cmpR op_lt (pv 2) pe_int (nomark _)) pa_nil)))) pe_int))
      (pss_one (ps_ret (pe_lst (pa_cons (pe_callB (call_max2 rfl) (by rfl) mx (by decide +kernel) (pa_cons pe_int (pa_cons (pe_op op_sub (pv 3) (pe_op op_pow pe_int pe_int)) pa_nil))) (pa_cons (pe_op op_modN (pe_callTy call_int1 (by rfl) mi (by decide +kernel) (pa_cons (pv 4) pa_nil)) pe_int) (pa_cons pe_int pa_nil)))))))), ?_⟩
    have big : (Builtin.Int.intBits ((10 : Int) ^ (59 : Int).toNat) : Int) * 11 ≤ 2 ^ 27 := by decide +kernel
    have pos : (0 : Int) < ((10 : Int) ^ (59 : Int).toNat) ^ (11 : Int).toNat := by decide +kernel
    refine ⟨.int i, rfl, .ref a, rfl, a, _, rfl, .inl hS, _, _, rfl, rfl, _, rfl, ite2 (fun e => ?_) (fun e => ?_)⟩
    · have e1 : i < ((ns.map V.int).length : Int) := of_decide_eq_true e
      have e2 : i.toNat < (ns.map V.int).length := by omega
      have e3 : i.toNat < ns.length := by rw [List.length_map] at e2; exact e2
      refine ⟨.ref a, rfl, .int i, rfl, a, _, i, .int ns[i.toNat], rfl, rfl, hS, at_of (j := i.toNat) (by omega) (by rw [List.getElem?_map, List.getElem?_eq_getElem e3]; rfl), ?_⟩
      refine ⟨_, rfl, _, rfl, .inl ⟨_, rfl, 10, 59, rfl, rfl, ⟨by decide, by decide, by decide⟩, _, 11, rfl, rfl, ⟨by decide, big⟩, _, _, rfl, rfl, (by intro z; rw [z] at pos; exact absurd pos (by decide)), ?_⟩⟩
      refine ⟨_, rfl, _, 2862933555777941757, rfl, rfl, .inr ⟨by decide, by decide⟩, .int i, rfl, 61, i, rfl, rfl, .inl ⟨by decide, by decide⟩, _, _, rfl, rfl, _, rfl, _, 0, rfl, rfl, .inr ⟨_, rfl, 13, _, rfl, rfl, .inl ⟨by decide, by decide⟩, _, _, rfl, rfl, _, 5, rfl, rfl, ?_⟩⟩
      refine ⟨_, rfl, 10, 18, rfl, rfl, ⟨by decide, by decide, by decide⟩, _, _, rfl, rfl, 0, _, rfl, _, rfl, .inl ⟨_, rfl, _, 2305843009213693951, rfl, rfl, (show (2305843009213693951 : Int) ≠ 0 by decide), ?_⟩⟩
      refine ⟨by show 3 ≤ sizeLine; decide, fun d nd => ?_⟩
      refine q d _ (same_new nd) nd ⟨_, _, 0, ?_, upd_same⟩
      show (0 : Int) ≤ if _ > (0 : Int) then _ else 0
      split <;> omega
    · refine ⟨.int i, rfl, 29, i, rfl, rfl, .inl ⟨by decide, by decide⟩, _, 12, rfl, rfl, ?_⟩
      refine ⟨_, rfl, _, rfl, .inl ⟨_, rfl, 10, 59, rfl, rfl, ⟨by decide, by decide, by decide⟩, _, 11, rfl, rfl, ⟨by decide, big⟩, _, _, rfl, rfl, (by intro z; rw [z] at pos; exact absurd pos (by decide)), ?_⟩⟩
      refine ⟨_, rfl, _, 2862933555777941757, rfl, rfl, .inr ⟨by decide, by decide⟩, .int i, rfl, 61, i, rfl, rfl, .inl ⟨by decide, by decide⟩, _, _, rfl, rfl, _, rfl, _, 0, rfl, rfl, .inr ⟨_, rfl, 13, _, rfl, rfl, .inl ⟨by decide, by decide⟩, _, _, rfl, rfl, _, 5, rfl, rfl, ?_⟩⟩
      refine ⟨_, rfl, 10, 18, rfl, rfl, ⟨by decide, by decide, by decide⟩, _, _, rfl, rfl, 0, _, rfl, _, rfl, .inl ⟨_, rfl, _, 2305843009213693951, rfl, rfl, (show (2305843009213693951 : Int) ≠ 0 by decide), ?_⟩⟩
      refine ⟨by show 3 ≤ sizeLine; decide, fun d nd => ?_⟩
      refine q d _ (same_new nd) nd ⟨_, _, 0, ?_, upd_same⟩
      show (0 : Int) ≤ if _ > (0 : Int) then _ else 0
      split <;> omega
end
end Tf

/-! is_name -/
namespace Tf
open PySem PySem.Spec PyProof.Rows L2
abbrev sName : Stmt := top 13
theorem scName : FnScope ["value", "sign"] ["value"] (defScope sName) := ⟨rfl, rfl, rfl, by decide +kernel, rfl, by decide +kernel, by decide +kernel⟩
/-- not a text -/
def NoStr (K : PySem.W.Frag) (H : Hp) (x : V) : Prop := ∃ t : String, TyX K H x (.type t) ∧ kitB t "str" = some false
/-- a text of at most a thousand signs, or no text -/
def Some1 (K : PySem.W.Frag) (H : Hp) (x : V) : Prop := (∃ z : Str, x = .str z ∧ z.length ≤ 1000) ∨ NoStr K H x
/-- whether a value is a name -/
def isN : V → Bool
  | .str z => nameB z
  | _ => false
def spName (K : PySem.W.Frag) : Sp := fun vs H Q _ => ∃ x : V, vs = [x] ∧ Some1 K H x ∧ ((∃ z, x = .str z) ∨ isN x = false) ∧ ∀ H', Same H H' → Q (.bl (isN x)) H'
section
variable {P : Program} {w : World} {K : PySem.W.Frag} {mg : Str → Option Value} {base : Heap}
theorem ok_name {f : Addr} {fd : FuncData} {k : Nat} {t8 ts : Tok} (F : Fun K "is_name" "is_name" sName f fd) (mI : mg "isinstance" = none) (mS : mg "str" = none) (mL : mg "len" = none) (mA : mg "all" = none) (g8 : mg "MAX_SIGNS" = some (.int 8 t8)) (gs : mg "SIGNS" = some (.str signs ts)) : FnOk P w K mg base CX0 (k + 1) f fd ["value"] (spName K) := by
  refine F.ok scName (fun vs H Q E h => ?_) (fun cdv A outer s H vs Q E hr h => ?_)
  · obtain ⟨x, rfl, _⟩ := h
    rfl
  · obtain ⟨x, rfl, h1, h2, q⟩ := h
    refine ⟨_, pss_cons (ps_if (PW.pt (pw_or (pt_not (pt_val (pe_callB call_isi (by rfl) mI (by decide +kernel) (pa_cons (pv 0) (pa_cons (pe_bltn (v := .ty "str") (by rfl) mS (by decide +kernel) rfl) pa_nil)))))
          (pw_or1 (pt_not (pt_chain op_le op_le pe_int (pe_callB call_len_str (by rfl) mL PySem.boot_len (pa_cons (pv 0) pa_nil)) (pe_glob (v := .int 8) rfl g8 ⟨_, rfl⟩))))))
        (pss_one (ps_ret pe_bl)) pss_nil)
      (pss_one (ps_ret (pe_callB (cr_all rfl) (by rfl) mA (by decide +kernel) (pa_cons (pe_lc (own := [("sign", 1)]) (g := gName 1) (tt := tYes) (by rfl) scName.nd (pi_str (pv 0)) (blkOk_by (own := [("sign", 1)]) (N := ["value", "sign"]) (sc := defScope sName) (by decide +kernel)) (fun _ _ _ _ _ => pg_name (i := 1) scName.nd rfl (Or.inl rfl)) (fun _ _ _ _ _ => pts_nil)
          (fun _ _ _ _ _ => pe_cmpR op_in_sign (pv 1) (pe_glob (v := .str signs) rfl gs ⟨_, rfl⟩) (by rfl))) pa_nil)))), ?_⟩
    rcases h1 with ⟨z, rfl, hz⟩ | ⟨t, ht, kt⟩
    · have zs : z.length ≤ sizeLine := Nat.le_trans hz (by decide)
      refine ⟨.str z, rfl, .str z, .ty "str", .type "str", .type "str", true, rfl, .ty _, .base (.str z), kit_ty (by decide +kernel), true, rfl, iteF ?_⟩
      refine ⟨.str z, rfl, z, rfl, zs, 1, (z.length : Int), rfl, rfl, _, rfl, ?_⟩
      have bad : (¬ (1 ≤ z.length ∧ z.length ≤ 8)) → Q (.bl false) H := fun c => by
        have e : isN (.str z) = false := by
          show nameB z = false
          cases hb : nameB z with
          | false => rfl
          | true => exact absurd (nameB_len hb) c
        rw [e] at q
        exact q H (Same.refl H)
      refine ite2 (fun c1 => ?_) (fun c1 => ⟨false, rfl, iteT (bad ?_)⟩)
      · have c1' : (1 : Int) ≤ (z.length : Int) := of_decide_eq_true c1
        refine ⟨(z.length : Int), 8, rfl, rfl, _, rfl, ?_⟩
        by_cases c2 : z.length ≤ 8
        · have d2 : decide ((z.length : Int) ≤ 8) = true := decide_eq_true (by omega)
          rw [d2]
          refine iteF ?_
          -- the signs
          refine ⟨.str z, rfl, z, rfl, fun D nD => lc_on (h := fun c => V.str ⟨#[c]⟩) walk_txt rfl (fun _ => true) (fun c => .bl (decide (c ∈ signs.cps.toList))) nD (fun _ _ => trivial) ?_ (fun c _ H2 _ => tto_yes) (fun c _ _ H2 s2 Q' q' => ⟨_, rfl, c, signs, rfl, rfl, q' H2 (Same.refl H2)⟩) fun H2 s2 e2 => ?_⟩
          · rw [Array.length_toList]
            show z.length < 100000
            omega
          · refine ⟨D, z.cps.toList.map fun c => decide (c ∈ signs.cps.toList), rfl, lst_of ?_, ?_⟩
            · rw [e2, List.map_map, fil_true]
              rfl
            · have e : isN (.str z) = (z.cps.toList.map fun c => decide (c ∈ signs.cps.toList)).all id := by
                show nameB z = _
                unfold nameB
                rw [decide_eq_true (show 1 ≤ z.length by omega), decide_eq_true c2, List.all_map]
                rfl
              rw [e] at q
              exact q H2 s2
        · have d2 : decide ((z.length : Int) ≤ 8) = false := decide_eq_false (by omega)
          rw [d2]
          exact iteT (bad (by omega))
      · have c1' : ¬ (1 : Int) ≤ (z.length : Int) := fun z => c1 (decide_eq_true z)
        omega
    · refine ⟨x, rfl, x, .ty "str", .type t, .type "str", false, rfl, .ty _, ht, kit_ty kt, false, rfl, iteT ?_⟩
      have e : isN x = false := by
        rcases h2 with ⟨z, rfl⟩ | e
        · cases ht with
          | base b =>
            cases b
            exact absurd kt (by decide +kernel)
        · exact e
      rw [e] at q
      exact iteT (q H (Same.refl H))
end
end Tf

/-! sets of nested keys: tuples of texts, numbers, None and such tuples -/
namespace TfN
open PySem PySem.Spec PyProof.Rows L2
section
variable {P : Program} {w : World}
/-- v is of no class statement, asked n levels down -/
def NoCls (P : Program) (w : World) (n : Nat) (s : Shared) (v : Value) : Prop := ∀ (A : Around) (E : Value → Shared → Prop) (Q : Bool → Shared → Prop), Q false s → wpAny (model P w) A (ofAClassStatement n v) Q E s
/-- whether v is hashed by its value can be asked -/
def HashQ (P : Program) (w : World) (n : Nat) (s : Shared) (v : Value) : Prop := ∀ (A : Around) (E : Value → Shared → Prop) (Q : Bool → Shared → Prop), (∀ b, Q b s) → wpAny (model P w) A (hashByValue n v) Q E s
theorem NoCls.tuple {n : Nat} {s : Shared} {a : Addr} {o : Obj} {us : Array Value} {m : Nat} (ho : s.heap.get? a = some o) (hc : o.cls = .type "tuple") (hd : o.data = .seq us m) (hq : ∀ v ∈ us.toList, NoCls P w n s v) : NoCls P w (n + 1) s (.ref a) := fun A E Q q => by
  unfold ofAClassStatement
  refine wpAny_bind (wpAny_typeOf (T := "tuple") ⟨o, ho, hc⟩ ?_)
  dsimp only
  have e : (("tuple" : String) == "tuple") = true := by decide
  simp only [e, if_true, Bool.not_true, Bool.false_eq_true, if_false]
  try refine wpAny_bind (wpAny_pure ?_)
  try simp only [Bool.not_true, Bool.false_eq_true, if_false]
  show wpAny _ _ (seqItems? (.ref a) >>= _) _ _ s
  refine wpAny_bind (wpAny_seqItems ho hd ?_)
  dsimp only
  refine wpAny_bind ?_
  show wpAny _ _ (forIn us _ _) _ _ s
  rw [← Array.forIn_toList]
  refine wpAny_forIn_list _ (fun more r z => r.1 = none ∧ z = s ∧ ∀ v ∈ more, NoCls P w n s v) _ ?_ ?_ _ _ ⟨rfl, rfl, hq⟩
  · rintro v more r z ⟨_, rfl, all⟩
    refine wpAny_bind (all v List.mem_cons_self _ _ _ ?_)
    simp only [Bool.false_eq_true, if_false]
    exact wpAny_pure ⟨rfl, rfl, fun u hu => all u (List.mem_cons_of_mem _ hu)⟩
  · rintro ⟨r, r'⟩ z ⟨e, rfl, _⟩
    simp only at e
    subst e
    exact wpAny_pure q
theorem HashQ.tuple {n : Nat} {s : Shared} {a : Addr} {o : Obj} {us : Array Value} {m : Nat} (ho : s.heap.get? a = some o) (hc : o.cls = .type "tuple") (hd : o.data = .seq us m) (hq : ∀ v ∈ us.toList, HashQ P w n s v) : HashQ P w (n + 1) s (.ref a) := fun A E Q q => by
  unfold hashByValue
  refine wpAny_bind (wpAny_specialOf (T := "tuple") ⟨o, ho, hc⟩ F.slot_tuple_hash.lookup ?_)
  show wpAny _ _ (seqItems? (.ref a) >>= _) _ _ s
  refine wpAny_bind (wpAny_seqItems ho hd ?_)
  refine wpAny_bind ?_
  show wpAny _ _ (forIn us _ _) _ _ s
  rw [← Array.forIn_toList]
  refine wpAny_forIn_list _ (fun more r z => r.1 = none ∧ z = s ∧ ∀ v ∈ more, HashQ P w n s v) _ ?_ ?_ _ _ ⟨rfl, rfl, hq⟩
  · rintro v more r z ⟨_, rfl, all⟩
    refine wpAny_bind (all v List.mem_cons_self _ _ _ fun b => ?_)
    cases b
    · simp only [Bool.not_false, if_true]
      exact wpAny_pure (wpAny_pure (q _))
    · simp only [Bool.not_true, Bool.false_eq_true, if_false]
      exact wpAny_pure ⟨rfl, rfl, fun u hu => all u (List.mem_cons_of_mem _ hu)⟩
  · rintro ⟨r, r'⟩ z ⟨e, rfl, _⟩
    simp only at e
    subst e
    exact wpAny_pure (q _)
mutual
theorem noCls_key : ∀ (k : NestedKey) (v : Value) (n : Nat) (s : Shared), NestedIs s.heap k v → k.depth ≤ n → NoCls P w n s v
  | .none, _, n, s, x, _ => by cases x; cases n <;> exact fun A E Q q => wpAny_pure q
  | .num i, _, n, s, x, _ => by cases x <;> cases n <;> exact fun A E Q q => wpAny_pure q
  | .text y, _, n, s, x, _ => by cases x; cases n <;> exact fun A E Q q => wpAny_pure q
  | .tup ks, _, n, s, x, hn => by
    cases x with
    | tup hg hc hd hk =>
      simp only [NestedKey.depth] at hn
      cases n with
      | zero => omega
      | succ n => exact .tuple hg hc hd (noCls_keys ks _ n s hk (by omega))
theorem noCls_keys : ∀ (ks : List NestedKey) (vs : List Value) (n : Nat) (s : Shared), NestedAll s.heap ks vs → NestedKey.depthAll ks ≤ n → ∀ v ∈ vs, NoCls P w n s v
  | [], _, n, s, x, _, v, hv => by cases x; cases hv
  | k :: ks, _, n, s, x, hn, v, hv => by
    cases x with
    | cons x1 x2 =>
      simp only [NestedKey.depthAll] at hn
      rcases List.mem_cons.mp hv with e | hv
      · rw [e]; exact noCls_key k _ n s x1 (by omega)
      · exact noCls_keys ks _ n s x2 (by omega) v hv
end
mutual
theorem hashQ_key : ∀ (k : NestedKey) (v : Value) (n : Nat) (s : Shared), NestedIs s.heap k v → HashQ P w n s v
  | .none, _, n, s, x => by cases x; cases n <;> exact fun A E Q q => wpAny_pure (q _)
  | .num i, _, n, s, x => by cases x <;> cases n <;> exact fun A E Q q => wpAny_pure (q _)
  | .text y, _, n, s, x => by cases x; cases n <;> exact fun A E Q q => wpAny_pure (q _)
  | .tup ks, _, n, s, x => by
    cases x with
    | tup hg hc hd hk =>
      cases n with
      | zero => exact fun A E Q q => wpAny_pure (q _)
      | succ n => exact .tuple hg hc hd (hashQ_keys ks _ n s hk)
theorem hashQ_keys : ∀ (ks : List NestedKey) (vs : List Value) (n : Nat) (s : Shared), NestedAll s.heap ks vs → ∀ v ∈ vs, HashQ P w n s v
  | [], _, n, s, x, v, hv => by cases x; cases hv
  | k :: ks, _, n, s, x, v, hv => by
    cases x with
    | cons x1 x2 =>
      rcases List.mem_cons.mp hv with e | hv
      · rw [e]; exact hashQ_key k _ n s x1
      · exact hashQ_keys ks _ n s x2 v hv
end
end
/-- the tuple at a is the key k -/
def Tk (h : Heap) (k : NestedKey) (a : Addr) : Prop := NestedIs h k (.ref a) ∧ k.depth ≤ 8
theorem Tk.keep {h h' : Heap} {k : NestedKey} {a : Addr} (x : Tk h k a) (e : ∀ b o, h.get? b = some o → h'.get? b = some o) : Tk h' k a := ⟨NestedIs.at (fun b o _ _ g _ => e b o g) k _ x.1, x.2⟩
/-- a set may change -/
theorem Tk.but {h h' : Heap} {k : NestedKey} {a c : Addr} {o : Obj} {es : Array (Int × Value)} {ep : Nat} {t : SetTable} (x : Tk h k a) (ho : h.get? c = some o) (hd : o.data = .set es ep t) (sb : Heap.SameBut c h h') : Tk h' k a :=
  ⟨NestedIs.at (fun b ob vs n g d => (sb.2 b fun e => by
    subst e
    rw [ho] at g
    cases g
    rw [hd] at d
    cases d).trans g) k _ x.1, x.2⟩
section
variable {P : Program} {w : World} {A : Around} {E : Value → Shared → Prop} {s : Shared}
theorem seen_no {k : NestedKey} {b : Addr} {Q : Bool → Shared → Prop} (hk : Tk s.heap k b) {ys : List Value} (hy : ∀ y ∈ ys, ∃ k' c, y = Value.ref c ∧ Tk s.heap k' c) (q : Q false s) : wpAny (model P w) A (searchCouldBeSeen (.ref b) ys) Q E s := by
  unfold searchCouldBeSeen
  refine wpAny_bind ?_
  refine wpAny_forIn_list _ (fun more r z => r.1 = none ∧ z = s ∧ ∀ y ∈ more, ∃ k' c, y = Value.ref c ∧ Tk s.heap k' c) _ ?_ ?_ _ _ ⟨rfl, rfl, hy⟩
  · rintro v more r z ⟨_, rfl, all⟩
    obtain ⟨k', c, rfl, hc⟩ := all v List.mem_cons_self
    have more' : ∀ y ∈ more, ∃ k' c, y = Value.ref c ∧ Tk z.heap k' c := fun u hu => all u (List.mem_cons_of_mem _ hu)
    dsimp only
    by_cases hv : (b == c || (carriedByValue (.ref b) && carriedByValue (.ref c))) = true
    · exact wp_if_pos hv (wpAny_pure ⟨rfl, rfl, more'⟩)
    · refine wp_if_neg hv ?_
      refine wpAny_bind (quiet_key k _ 8 _ hk.1 hk.2 _ _ _ ?_)
      simp only [Bool.not_true, Bool.false_eq_true, if_false]
      refine wpAny_bind (quiet_key k' _ 8 _ hc.1 hc.2 _ _ _ ?_)
      simp only [Bool.not_true, Bool.false_eq_true, if_false]
      refine wpAny_bind (noCls_key k _ 8 _ hk.1 hk.2 _ _ _ ?_)
      simp only [Bool.false_eq_true, if_false]
      refine wpAny_bind (noCls_key k' _ 8 _ hc.1 hc.2 _ _ _ ?_)
      simp only [Bool.false_eq_true, if_false]
      exact wpAny_pure ⟨rfl, rfl, more'⟩
  · rintro ⟨r, r'⟩ z ⟨e, rfl, _⟩
    simp only at e
    subst e
    exact wpAny_pure q
end
/-- the set at a has the keys L, each by its tuple -/
structure Ks (w : World) (h : Heap) (a : Addr) (L : List (Addr × NestedKey)) (es : Array (Int × Value)) (ep : Nat) (t : SetTable) : Prop where
  obj : ∃ o, h.get? a = some o ∧ o.ExactSet ∧ o.data = .set es ep t
  ent : es.toList = L.map fun q => (q.2.hash w, Value.ref q.1)
  tab : TabOk t (L.map fun q => q.2.hash w)
  dif : (L.map (·.2)).Nodup
  tps : ∀ q ∈ L, Tk h q.2 q.1
  led : w.params.followText "set-order" = true ∨ t.led = true
  room : L.length * 5 < t.mask * 3
  few : L.length < 64
section
variable {P : Program} {w : World} {A : Around} {E : Value → Shared → Prop} {s : Shared} {a : Addr} {L : List (Addr × NestedKey)} {es : Array (Int × Value)} {ep : Nat} {t : SetTable}
theorem Ks.size {h : Heap} (R : Ks w h a L es ep t) : es.size = L.length := by
  have z := congrArg List.length R.ent
  rw [Array.length_toList, List.length_map] at z
  exact z
theorem fits_of {n : Nat} {hs : List Int} (T : TabOk t hs) (hn : n = hs.length) (hm : n ≤ t.mask) : t.fits n = true := by
  have z := T.sz
  unfold SetTable.fits SetTable.fill
  rw [T.dm, Bool.and_eq_true, beq_iff_eq, decide_eq_true_eq]
  show t.place.size = n ∧ t.place.size + 0 ≤ t.mask
  omega
theorem Ks.fits {h : Heap} (R : Ks w h a L es ep t) : t.fits es.size = true := by
  have z := R.size
  have r := R.room
  exact fits_of R.tab (by rw [List.length_map]; exact z) (by omega)
theorem Ks.at {h : Heap} (R : Ks w h a L es ep t) (i : Nat) : es[i]? = (L[i]?).map fun q => (q.2.hash w, Value.ref q.1) := by
  rw [← Array.getElem?_toList, R.ent, List.getElem?_map]
/-- the way of the key k through the table -/
abbrev stp (w : World) (t : SetTable) (k : NestedKey) (c : Nat) : SetTable.Probe := nth t.mask (t.probeStart (k.hash w)) c
theorem stp_plain (k : NestedKey) (c : Nat) : (stp w t k c).dummy = none := by
  have key : ∀ (n : Nat) (p : SetTable.Probe), p.dummy = none → (nth t.mask p n).dummy = none := by
    intro n
    induction n with
    | zero => exact fun p h => h
    | succ n ih =>
      intro p h
      refine ih (adv t.mask p) ?_
      unfold adv
      split <;> exact h
  exact key c _ rfl
/-- the search for the tuple x, a key k, from the c-th step of its way on; K: the first free slot -/
theorem look {x : Addr} {k : NestedKey} {K : Nat} {Q : SetFound → Shared → Prop} (R : Ks w s.heap a L es ep t) (hx : Tk s.heap k x) (hu : A.units + 8 < cLine) (hK0 : K < 10 * SetTable.turns t.mask)
    (hK1 : (stp w t k K).j ∉ t.place.toList) (hK2 : ∀ c, c < K → (stp w t k c).j ∈ t.place.toList) (yes : k ∈ L.map (·.2) → Q (.there none) s) (no : k ∉ L.map (·.2) → Q (.free (stp w t k K).j false) s) :
    ∀ (f c : Nat) (at0 : Option SetTable.Probe), at0.getD (t.probeStart (k.hash w)) = stp w t k c → c ≤ K → K - c < f →
      (∀ (i : Nat) (q : Addr × NestedKey), L[i]? = some q → q.2 = k → ∃ d, c ≤ d ∧ d < K ∧ t.place.toList[i]? = some (stp w t k d).j) → wpAny (model P w) A (setSearchFrom a (.ref x) (k.hash w) true f at0) Q E s := by
  obtain ⟨o, ho, hex, hd⟩ := R.obj
  intro f
  induction f with
  | zero => exact fun c at0 _ _ z _ => absurd z (Nat.not_lt_zero _)
  | succ f ih =>
    intro c at0 hat hc hf hre
    rw [setSearchFrom_succ]
    refine wpAny_bind (wpAny_setState_of ho hd R.fits ?_)
    dsimp only
    have gw : ¬ t.gaveWay = true := by
      unfold SetTable.gaveWay
      rw [mask_odd R.tab.mok]
      decide
    refine wp_if_neg gw ?_
    try refine wpAny_bind (wpAny_pure ?_)
    rw [hat]
    have ec : c + (K - c) = K := by omega
    have on : ∀ n, nth t.mask (stp w t k c) n = stp w t k (c + n) := fun n => (nth_add t.mask c _ n).symm
    have hAt : ∀ (i : Nat) (q : Addr × NestedKey), L[i]? = some q → (es[i]?.map (·.1)).getD 0 = q.2.hash w := fun i q e => by rw [R.at, e]; rfl
    have spec := go_spec t R.tab.ris R.tab.dm (fun i => (es[i]?.map (·.1)).getD 0) (k.hash w) (10 * SetTable.turns t.mask) (K - c) _ (stp_plain (w := w) (t := t) k c) (by omega)
      (fun n hn => by rw [on]; exact hK2 (c + n) (by omega)) (by rw [on, ec]; exact hK1)
    simp only [on] at spec
    rw [ec] at spec
    rcases spec with ⟨n, i, hn, hi, hh, hno, hpr⟩ | ⟨hno, hpr⟩
    · have hpr' : t.probe (fun i => (es[i]?.map (·.1)).getD 0) (k.hash w) (stp w t k c) = some (.candidate (stp w t k (c + n)).j i (stp w t k (c + (n + 1)))) := hpr
      rw [hpr']
      dsimp only
      have hil : i < L.length := by
        have h1 : i < t.place.toList.length := (List.getElem?_eq_some_iff.mp hi).1
        have h2 := R.tab.sz
        rw [List.length_map] at h2
        rw [Array.length_toList] at h1
        omega
      have hp : L[i]? = some L[i] := List.getElem?_eq_getElem hil
      generalize L[i] = q at hp
      have hm : q ∈ L := List.mem_of_getElem? hp
      have hq := R.tps q hm
      have he : es[i]? = some (q.2.hash w, Value.ref q.1) := by rw [R.at, hp]; rfl
      have sl : t.slot (stp w t k (c + n)).j = .live i := slot_live R.tab.ris hi
      have go : wpAny (model P w) A (searchRest a (.ref x) (k.hash w) true f es t (stp w t k (c + n)).j i (stp w t k (c + (n + 1)))) Q E s := by
        unfold searchRest
        rw [he]
        dsimp only
        refine wpAny_bind (wpAny_holding ((nestedKind P w).eqBool (show A.units + 8 < cLine from hu) hq hx ?_))
        refine wpAny_bind (wpAny_setState_of ho hd R.fits ?_)
        dsimp only
        by_cases hkk : q.2 = k
        · refine wp_if_pos (by simp [hkk]) (wpAny_pure (yes ?_))
          exact List.mem_map.mpr ⟨q, hm, hkk⟩
        · refine wp_if_neg (by simp [hkk]) ?_
          try refine wpAny_bind (wpAny_pure ?_)
          rw [L2.sameMem]
          dsimp only
          simp only [if_true, sl, he]
          refine wpAny_bind (wpAny_isSame_ref_self (wpAny_bind (wpAny_pure ?_)))
          simp only [if_true]
          refine wp_if_neg (by simp [hkk]) ?_
          refine ih (c + (n + 1)) _ rfl (by omega) (by omega) fun i0 q0 h0 e0 => ?_
          obtain ⟨d, d1, d2, d3⟩ := hre i0 q0 h0 e0
          refine ⟨d, ?_, d2, d3⟩
          rcases Nat.lt_trichotomy d (c + n) with z | z | z
          · exact absurd ((hAt i0 q0 h0).trans (by rw [e0])) (hno (d - c) i0 (by omega) (by rw [show c + (d - c) = d by omega]; exact d3))
          · subst z
            have s0 := slot_live R.tab.ris d3
            rw [sl] at s0
            injection s0 with s0
            rw [← s0, hp] at h0
            exact absurd ((congrArg Prod.snd (Option.some.inj h0)).trans e0) hkk
          · omega
      by_cases hl : t.led = true
      · refine wp_if_neg (by simp [hl]) ?_
        try refine wpAny_bind (wpAny_pure ?_)
        exact go
      · refine wp_if_pos (by simp [hl]) ?_
        refine wpAny_bind (seen_no hx (fun y hy => ?_) ?_)
        · obtain ⟨e, he1, he2⟩ := List.mem_map.mp hy
          have z : e ∈ es.toList := by simp at he1; simpa using he1.1
          rw [R.ent] at z
          obtain ⟨q2, m2, e2⟩ := List.mem_map.mp z
          exact ⟨q2.2, q2.1, by rw [← he2, ← e2], R.tps q2 m2⟩
        · refine wp_if_neg (by decide) ?_
          try refine wpAny_bind (wpAny_pure ?_)
          exact go
    · have hpr' : t.probe (fun i => (es[i]?.map (·.1)).getD 0) (k.hash w) (stp w t k c) = some (.empty (stp w t k K).j none) := hpr
      rw [hpr']
      dsimp only
      refine wpAny_pure (no fun hm => ?_)
      obtain ⟨q0, m0, e0⟩ := List.mem_map.mp hm
      obtain ⟨i0, hi0, ei⟩ := List.getElem_of_mem m0
      have h0 : L[i0]? = some q0 := by rw [List.getElem?_eq_getElem hi0, ei]
      obtain ⟨d, d1, d2, d3⟩ := hre i0 q0 h0 e0
      exact hno (d - c) i0 (by omega) (by rw [show c + (d - c) = d by omega]; exact d3) ((hAt i0 q0 h0).trans (by rw [e0]))
/-- the search, as adding asks for it -/
theorem looked {x : Addr} {k : NestedKey} {Q : SetFound → Shared → Prop} (R : Ks w s.heap a L es ep t) (hx : Tk s.heap k x) (hu : A.units + 8 < cLine) (yes : k ∈ L.map (·.2) → Q (.there none) s)
    (no : ∀ K, k ∉ L.map (·.2) → way t.mask (k.hash w) K ∉ t.place.toList → (∀ c, c < K → way t.mask (k.hash w) c ∈ t.place.toList) → Q (.free (way t.mask (k.hash w) K) false) s) : wpAny (model P w) A (setSearch a (.ref x) (k.hash w) true) Q E s := by
  have room := R.room
  obtain ⟨K, k0, k1, k2⟩ := R.tab.first (by rw [List.length_map]; omega) (k.hash w)
  have big : K < 100000 := by
    have : 10 * SetTable.turns t.mask ≤ 1420 := by
      unfold SetTable.turns
      rcases R.tab.mok with e | e | e <;> omega
    omega
  unfold setSearch
  refine look R hx hu k0 k1 k2 yes (fun z => no K z k1 k2) 100000 0 none rfl (Nat.zero_le _) (by omega) fun i q hq e => ?_
  have hi : (L.map fun q => q.2.hash w)[i]? = some (k.hash w) := by rw [List.getElem?_map, hq, ← e]; rfl
  have hil : i < t.place.toList.length := by
    have h1 : i < L.length := (List.getElem?_eq_some_iff.mp hq).1
    have h2 := R.tab.sz
    rw [List.length_map] at h2
    rw [Array.length_toList]
    omega
  obtain ⟨c, hc, e2⟩ := R.tab.before k1 hi (List.getElem?_eq_getElem hil)
  exact ⟨c, Nat.zero_le _, hc, (List.getElem?_eq_getElem hil).trans (congrArg some e2.symm)⟩
/-- any rows, put in another order -/
theorem rows_by {α : Type} (f : α → Int × Value) (l : List α) (es : Array (Int × Value)) (order : Array Nat) (hr : es.toList = l.map f) (hp : order.toList.Perm (List.range l.length)) :
    ∃ m : List α, (order.filterMap (es[·]?)).toList = m.map f ∧ m.Perm l ∧ (m.map fun x => (f x).1) = order.toList.map fun i => (es.map (·.1)).getD i 0 := by
  have ea : ∀ i : Nat, es[i]? = (l[i]?).map f := fun i => by rw [← Array.getElem?_toList, hr, List.getElem?_map]
  refine ⟨order.toList.filterMap fun i => l[i]?, ?_, ?_, ?_⟩
  · rw [Array.toList_filterMap, List.map_filterMap]
    congr 1
    exact funext ea
  · have z : (List.range l.length).filterMap (fun i => l[i]?) = l := by
      have up : ∀ n, n ≤ l.length → (List.range n).filterMap (fun i => l[i]?) = l.take n := by
        intro n
        induction n with
        | zero => exact fun _ => rfl
        | succ n ih =>
          intro hn
          have lt : n < l.length := hn
          rw [List.range_succ, List.filterMap_append, ih (Nat.le_of_lt lt), List.take_add_one, List.getElem?_eq_getElem lt, List.filterMap_cons_some (List.getElem?_eq_getElem lt)]
          rfl
      rw [up l.length (Nat.le_refl _), List.take_length]
    have p := hp.filterMap fun i => l[i]?
    rw [z] at p
    exact p
  · have low : ∀ i ∈ order.toList, i < l.length := fun i hi => List.mem_range.mp (hp.mem_iff.mp hi)
    generalize order.toList = is at low
    induction is with
    | nil => rfl
    | cons i is ih =>
      have hi := low i List.mem_cons_self
      rw [List.filterMap_cons_some (List.getElem?_eq_getElem hi), List.map_cons, List.map_cons, ih fun j hj => low j (List.mem_cons_of_mem _ hj)]
      congr 1
      have e : (es.map (·.1))[i]? = some (f l[i]).1 := by rw [Array.getElem?_map, ea, List.getElem?_eq_getElem hi]; rfl
      simp [Array.getD_eq_getD_getElem?, e]
/-- the table laid anew, larger -/
theorem relay {o : Obj} {wanted M : Nat} {Q : Unit → Shared → Prop} (ho : s.heap.get? a = some o) (hex : o.ExactSet) (hd : o.data = .set es ep t) (ent : es.toList = L.map fun q => (q.2.hash w, Value.ref q.1)) (T0 : TabOk t (L.map fun q => q.2.hash w)) (hm : L.length ≤ t.mask)
    (dif : (L.map (·.2)).Nodup) (tps : ∀ q ∈ L, Tk s.heap q.2 q.1) (led : w.params.followText "set-order" = true ∨ t.led = true) (few : L.length < 64)
    (hw : SetTable.sizeAbove wanted - 1 = M) (hM : MaskOk M) (hw2 : SetTable.sizeAbove wanted ≤ 128) (hn : L.length * 5 < M * 3)
    (hQ : ∀ h' L' es' ep' t', Heap.SameBut a s.heap h' → Ks w h' a L' es' ep' t' → L'.Perm L → Q () { s with heap := h' }) : wpAny (model P w) A (setRelay a wanted) Q E s := by
  have sl : es.size = L.length := by
    have z := congrArg List.length ent
    rw [Array.length_toList, List.length_map] at z
    exact z
  obtain ⟨t', order, e, hp, T, em, el, _, ed⟩ := relaid_ok t (hs := es.map (·.1)) (wanted := wanted) hw hM (by rw [Array.size_map, sl]; omega)
  rw [Array.size_map, sl] at hp
  obtain ⟨L2, r1, r2, r3⟩ := rows_by _ L es order ent hp
  rw [← r3] at T
  have s2 : (order.filterMap (es[·]?)).size = es.size := by
    have z := congrArg List.length r1
    rw [Array.length_toList, List.length_map, r2.length_eq] at z
    rw [z, sl]
  rw [setRelay_eq]
  refine wpAny_bind (wpAny_setState_of ho hd (fits_of T0 (by rw [List.length_map]; exact sl) (by rw [sl]; exact hm)) ?_)
  dsimp only
  refine wp_if_neg (by rw [sizeLine_eq]; omega) ?_
  try refine wpAny_bind (wpAny_pure ?_)
  rw [e]
  dsimp only
  refine wpAny_bind (wp_if_neg (by rw [s2]; simp) ?_)
  try refine wpAny_bind (wpAny_pure ?_)
  refine wpAny_pure ?_
  dsimp only
  refine wpAny_storeSet_of ho hd ?_ (by rw [s2, sl, sizeLine_eq]; omega)
  have sb : Heap.SameBut a s.heap (s.heap.update a (Obj.putSet (order.filterMap (es[·]?)) t')) := Heap.SameBut.update ..
  refine hQ _ L2 (order.filterMap (es[·]?)) (ep + 1) t' sb ⟨⟨_, store_at ho hd, ⟨hex.1, hex.2.1, hex.2.2⟩, rfl⟩, r1, T, ?_, fun q hq => (tps q (r2.mem_iff.mp hq)).but ho hd sb, by rw [el]; exact led, ?_, by rw [r2.length_eq]; exact few⟩ r2
  · exact (r2.map (·.2)).nodup_iff.mpr dif
  · rw [r2.length_eq, em]
    exact hn
/-- one tuple more -/
theorem added {x : Addr} {k : NestedKey} {Q : Bool → Shared → Prop} (R : Ks w s.heap a L es ep t) (hx : Tk s.heap k x) (hu : A.units + 8 < cLine) (few : L.length + 1 < 64)
    (hQ : ∀ b h' L' es' ep' t', Heap.SameBut a s.heap h' → Ks w h' a L' es' ep' t' → (k ∈ L.map (·.2) → L' = L) → (k ∉ L.map (·.2) → L'.Perm ((x, k) :: L)) → Q b { s with heap := h' }) : wpAny (model P w) A (setAddHashed a (.ref x) (k.hash w)) Q E s := by
  obtain ⟨o, ho, hex, hd⟩ := R.obj
  have sl := R.size
  have room := R.room
  unfold setAddHashed
  refine wpAny_holding ?_
  rw [show (100000 : Nat) = 99999 + 1 from rfl, setAddHashedIn_succ]
  refine wpAny_bind (wpAny_setState_of ho hd R.fits ?_)
  dsimp only
  refine wp_if_neg (by simp [byScan, Value.scannable]) ?_
  try refine wpAny_bind (wpAny_pure ?_)
  refine wpAny_bind (looked R hx hu (fun hm => ?_) fun K hm k1 k2 => ?_)
  · dsimp only
    exact wpAny_pure (hQ false s.heap L es ep t (Heap.SameBut.refl a s.heap) R (fun _ => rfl) fun z => absurd hm z)
  dsimp only
  refine wpAny_bind (wpAny_setState_of ho hd R.fits ?_)
  dsimp only
  obtain ⟨q1, q2, q3, q4, q5, q6, q7, q8, q9⟩ := R.tab.put k1 k2
  generalize t.put (way t.mask (k.hash w) K) = pt at q1 q3 q4 q5 q6 q7 q8 q9 ⊢
  obtain ⟨t1, p⟩ := pt
  dsimp only at q1 q3 q4 q5 q6 q7 q8 q9 ⊢
  subst q1
  have hin : (SetTable.insertAt es (SetTable.below t.place (way t.mask (k.hash w) K)) (k.hash w, Value.ref x)).toList = (L.take (SetTable.below t.place (way t.mask (k.hash w) K)) ++ (x, k) :: L.drop (SetTable.below t.place (way t.mask (k.hash w) K))).map fun q => (q.2.hash w, Value.ref q.1) := by
    rw [SetTable.toList_insertAt, R.ent, List.map_append, List.map_cons, List.map_take, List.map_drop]
  generalize SetTable.below t.place (way t.mask (k.hash w) K) = p at q2 q3 hin ⊢
  have pm : (L.take p ++ (x, k) :: L.drop p).Perm ((x, k) :: L) := put_perm L p (x, k)
  have len : (L.take p ++ (x, k) :: L.drop p).length = L.length + 1 := pm.length_eq
  have hhs : (L.take p ++ (x, k) :: L.drop p).map (fun q => q.2.hash w) = (L.map fun q => q.2.hash w).take p ++ k.hash w :: (L.map fun q => q.2.hash w).drop p := by
    rw [List.map_append, List.map_cons, List.map_take, List.map_drop]
  rw [← hhs] at q3
  have nd1 : ((L.take p ++ (x, k) :: L.drop p).map (·.2)).Nodup := by
    refine (pm.map (·.2)).nodup_iff.mpr ?_
    rw [List.map_cons]
    exact List.nodup_cons.mpr ⟨hm, R.dif⟩
  have hes : (SetTable.insertAt es p (k.hash w, Value.ref x)).size = L.length + 1 := by
    have z := congrArg List.length hin
    rw [Array.length_toList, List.length_map, len] at z
    exact z
  generalize SetTable.insertAt es p (k.hash w, Value.ref x) = es1 at hin hes ⊢
  generalize L.take p ++ (x, k) :: L.drop p = L1 at pm len q3 nd1 hin
  have led1 : w.params.followText "set-order" = true ∨ t1.led = true := by rw [q5]; exact R.led
  have fin : ∀ t2 : SetTable, t2.mask = t1.mask → t2.fill = t1.fill → t2.led = t1.led → TabOk t2 (L1.map fun q => q.2.hash w) → wpAny (model P w) A (storeSet a es1 t2 >>= fun _ => if (!false && t2.tooFull) = true then (setRelay a (SetTable.grown (es.size + 1)) >>= fun _ => pure true) else pure true) Q E s := fun t2 f1 f2 f3 T2 => by
    have led2 : w.params.followText "set-order" = true ∨ t2.led = true := by rw [f3]; exact led1
    refine wpAny_bind (wpAny_storeSet_of ho hd ?_ (by rw [hes, sizeLine_eq]; omega))
    have sb : Heap.SameBut a s.heap (s.heap.update a (Obj.putSet es1 t2)) := Heap.SameBut.update ..
    have ho1 := store_at (es' := es1) (t' := t2) ho hd
    generalize s.heap.update a (Obj.putSet es1 t2) = h1 at sb ho1 ⊢
    have tps1 : ∀ q ∈ L1, Tk h1 q.2 q.1 := fun q hq => by
      rcases List.mem_cons.mp (pm.mem_iff.mp hq) with e | hq
      · rw [e]; exact hx.but ho hd sb
      · exact (R.tps q hq).but ho hd sb
    by_cases hf : t2.tooFull = true
    · have full : (L.length + 1) * 5 ≥ t.mask * 3 := by
        have z := hf
        unfold SetTable.tooFull at z
        rw [decide_eq_true_eq, f2, q9, f1, q4, List.length_map] at z
        exact z
      have two : (t.mask = 7 ∧ L.length = 4) ∨ (t.mask = 31 ∧ L.length = 18) := by
        rcases R.tab.mok with e | e | e
        · exact .inl ⟨e, by rw [e] at full room; omega⟩
        · exact .inr ⟨e, by rw [e] at full room; omega⟩
        · exfalso; rw [e] at full; omega
      have go : ∀ M, SetTable.sizeAbove (SetTable.grown (es.size + 1)) - 1 = M → MaskOk M → SetTable.sizeAbove (SetTable.grown (es.size + 1)) ≤ 128 → (L.length + 1) * 5 < M * 3 →
          wpAny (model P w) A (setRelay a (SetTable.grown (es.size + 1))) (fun _ s' => wpAny (model P w) A (pure true) Q E s') E { s with heap := h1 } := fun M m1 m2 m3 m4 =>
        relay (s := { s with heap := h1 }) ho1 ⟨hex.1, hex.2.1, hex.2.2⟩ rfl hin T2 (by rw [len, f1, q4]; rcases two with ⟨e, e2⟩ | ⟨e, e2⟩ <;> omega) nd1 tps1 led2 (by rw [len]; exact few) m1 m2 m3 (by rw [len]; exact m4)
          fun h2 L2 es2 ep2 t3 sb2 R2 pm2 => wpAny_pure (hQ true h2 L2 es2 ep2 t3 (sb.trans sb2) R2 (fun z => absurd z hm) fun _ => pm2.trans pm)
      refine wp_if_pos (by simp [hf]) (wpAny_bind ?_)
      rcases two with ⟨_, e2⟩ | ⟨_, e2⟩
      · exact go 31 (by rw [sl, e2, size_20]) (.inr (.inl rfl)) (by rw [sl, e2, size_20]; decide) (by omega)
      · exact go 127 (by rw [sl, e2, size_76]) (.inr (.inr rfl)) (by rw [sl, e2, size_76]; decide) (by omega)
    · refine wp_if_neg (by simp [hf]) (wpAny_pure (hQ true h1 L1 es1 (ep + 1) t2 sb ⟨⟨_, ho1, ⟨hex.1, hex.2.1, hex.2.2⟩, rfl⟩, hin, T2, nd1, tps1, led2, ?_, by rw [len]; exact few⟩ (fun z => absurd z hm) fun _ => pm))
      have z := hf
      unfold SetTable.tooFull at z
      rw [decide_eq_true_eq, f2, q9, f1, List.length_map] at z
      rw [len, f1]
      omega
  have plain : TabOk { t1 with plain := false } (L1.map fun q => q.2.hash w) := ⟨q3.ris, q3.dm, q3.sz, q3.mok, q3.bd, q3.reach⟩
  by_cases hp : t1.plain = true
  · first
      | refine wp_if_pos hp (wpAny_bind (hashQ_key k _ 8 _ hx.1 _ _ _ fun b => ?_))
      | refine wpAny_bind (wp_if_pos hp (hashQ_key k _ 8 _ hx.1 _ _ _ fun b => ?_))
    cases b
    · simp only [Bool.false_eq_true, if_false]
      exact fin { t1 with plain := false } rfl rfl rfl plain
    · simp only [if_true]
      exact fin t1 rfl rfl rfl q3
  · first
      | refine wp_if_neg hp (wpAny_bind (wpAny_pure ?_))
      | refine wpAny_bind (wp_if_neg hp (wpAny_pure ?_))
    simp only [if_true]
    exact fin t1 rfl rfl rfl q3
end
end TfN

/-! set(l) and sorted(l) of tuples; sorted(the set) -/
namespace TfN
open PySem PySem.Spec PyProof.Rows L2
/-- the first tuple of each key -/
def firstsK (zs : List (Addr × NestedKey)) : List (Addr × NestedKey) := zs.foldl (fun L z => if z.2 ∈ L.map (·.2) then L else L ++ [z]) []
theorem firstsK_snoc (zs : List (Addr × NestedKey)) (z : Addr × NestedKey) : firstsK (zs ++ [z]) = if z.2 ∈ (firstsK zs).map (·.2) then firstsK zs else firstsK zs ++ [z] := by
  unfold firstsK
  rw [List.foldl_append]
  rfl
theorem firstsK_len (zs : List (Addr × NestedKey)) : (firstsK zs).length ≤ zs.length := by
  have gen : ∀ (ys L : List (Addr × NestedKey)), (ys.foldl (fun L z => if z.2 ∈ L.map (·.2) then L else L ++ [z]) L).length ≤ L.length + ys.length := by
    intro ys
    induction ys with
    | nil => intro L; exact Nat.le_refl _
    | cons y ys ih =>
      intro L
      refine Nat.le_trans (ih _) ?_
      rw [List.length_cons]
      show (if y.2 ∈ L.map (·.2) then L else L ++ [y]).length + _ ≤ _
      split
      · omega
      · rw [List.length_append, List.length_singleton]; omega
  exact Nat.le_trans (gen zs []) (by simp)
theorem firstsK_sub {zs : List (Addr × NestedKey)} : ∀ z ∈ firstsK zs, z ∈ zs := by
  have gen : ∀ (ys L : List (Addr × NestedKey)) (z : Addr × NestedKey), z ∈ ys.foldl (fun L z => if z.2 ∈ L.map (·.2) then L else L ++ [z]) L → z ∈ L ∨ z ∈ ys := by
    intro ys
    induction ys with
    | nil => intro L z h; exact .inl h
    | cons y ys ih =>
      intro L z h
      rw [List.foldl_cons] at h
      rcases ih _ z h with h | h
      · split at h
        · exact .inl h
        · rcases List.mem_append.mp h with h | h
          · exact .inl h
          · exact .inr (by rw [List.mem_singleton.mp h]; exact List.mem_cons_self)
      · exact .inr (List.mem_cons_of_mem _ h)
  intro z h
  rcases gen zs [] z h with h | h
  · cases h
  · exact h
theorem firstsK_keys {zs : List (Addr × NestedKey)} {k : NestedKey} : k ∈ (firstsK zs).map (·.2) ↔ k ∈ zs.map (·.2) := by
  have gen : ∀ (ys L : List (Addr × NestedKey)), k ∈ (ys.foldl (fun L z => if z.2 ∈ L.map (·.2) then L else L ++ [z]) L).map (·.2) ↔ k ∈ L.map (·.2) ∨ k ∈ ys.map (·.2) := by
    intro ys
    induction ys with
    | nil => intro L; simp
    | cons y ys ih =>
      intro L
      rw [List.foldl_cons, ih, List.map_cons, List.mem_cons]
      split
      · rename_i hy
        constructor
        · rintro (h | h)
          · exact .inl h
          · exact .inr (.inr h)
        · rintro (h | rfl | h)
          · exact .inl h
          · exact .inl hy
          · exact .inr h
      · rw [List.map_append, List.mem_append, List.map_singleton, List.mem_singleton, or_assoc]
  rw [firstsK, gen]
  simp
theorem firstsK_nodup (zs : List (Addr × NestedKey)) : ((firstsK zs).map (·.2)).Nodup := by
  have gen : ∀ (ys L : List (Addr × NestedKey)), (L.map (·.2)).Nodup → ((ys.foldl (fun L z => if z.2 ∈ L.map (·.2) then L else L ++ [z]) L).map (·.2)).Nodup := by
    intro ys
    induction ys with
    | nil => intro L h; exact h
    | cons y ys ih =>
      intro L h
      refine ih _ ?_
      show ((if y.2 ∈ L.map (·.2) then L else L ++ [y]).map (·.2)).Nodup
      split
      · exact h
      · rename_i hy
        rw [List.map_append, List.map_singleton]
        exact List.nodup_append.mpr ⟨h, List.nodup_cons.mpr ⟨by simp, List.nodup_nil⟩, fun a ha b hb e => hy (by rw [← List.mem_singleton.mp hb, ← e]; exact ha)⟩
  exact gen zs [] List.nodup_nil
section
variable {P : Program} {w : World} {A : Around} {E : Value → Shared → Prop} {s : Shared}
theorem Ks.keep {h h' : Heap} {a : Addr} {L : List (Addr × NestedKey)} {es : Array (Int × Value)} {ep : Nat} {t : SetTable} (R : Ks w h a L es ep t) (ha : ∀ o, h.get? a = some o → h'.get? a = some o) (ht : ∀ q ∈ L, Tk h' q.2 q.1) : Ks w h' a L es ep t := by
  obtain ⟨o, ho, r⟩ := R.obj
  exact ⟨⟨o, ha o ho, r⟩, R.ent, R.tab, R.dif, ht, R.led, R.room, R.few⟩
theorem ks_fresh {h : Heap} {a : Addr} (ho : h.get? a = some (newSetO w)) : Ks w h a [] #[] 0 (.fresh 0 0 (!w.params.followText "set-order")) :=
  ⟨⟨_, ho, ⟨rfl, rfl, rfl⟩, rfl⟩, rfl, ⟨List.Pairwise.nil, rfl, rfl, .inl rfl, fun x hx => (by cases hx), fun i h j hi => (by simp at hi)⟩, List.nodup_nil, fun p hp => (by cases hp), by
    show _ ∨ (!w.params.followText "set-order") = true
    cases w.params.followText "set-order"
    · exact .inr rfl
    · exact .inl rfl, by show 0 * 5 < 7 * 3; decide, by show 0 < 64; decide⟩
/-- the loop of set.update over tuples -/
theorem ks_loop {I : Addr} {fp wr : List Addr} {G : Array GenState → Array GenState → Prop} {n : Nat} {Pv : Nat → Value → Prop} {St : Nat → Shared → Prop} {R : Result → Shared → Prop}
    (W : WalksS P w A.in1 I fp wr G n Pv St) (S : Addr) (hSf : S ∉ fp) (zs : List (Addr × NestedKey)) (hn : n = zs.length) (few : zs.length + 1 < 64) (hval : ∀ i v, Pv i v → ∃ z, zs[i]? = some z ∧ v = .ref z.1)
    (h0 : Heap) (hz : ∀ z ∈ zs, Tk h0 z.2 z.1) (hS0 : h0.get? S = none) (hw0 : ∀ b ∈ wr, h0.get? b = none) (hu : A.in1.units + 8 < cLine) :
    ∀ (k i : Nat) (s : Shared), n - i = k → i ≤ n → St i s → (∀ b o, h0.get? b = some o → s.heap.get? b = some o) → (∃ L es ep t, Ks w s.heap S L es ep t ∧ L.Perm (firstsK (zs.take i))) →
      (∀ s' L es ep t, Moved (S :: wr) G s s' → Ks w s'.heap S L es ep t → L.Perm (firstsK zs) → R (.ok (.ret .none)) s') →
      codeAny (model P w) A (.builtin "set.update.loop" ⟨[.ref S, .ref I], []⟩) R s := by
  have hSw : S ∉ wr := fun h => hSf (W.sub _ h)
  have wid : ∀ b ∈ wr, b ∈ S :: wr := fun b hb => List.mem_cons_of_mem _ hb
  have old : ∀ {s s' : Shared}, Moved wr G s s' → (∀ b o, h0.get? b = some o → s.heap.get? b = some o) → ∀ b o, h0.get? b = some o → s'.heap.get? b = some o := fun hm k b o e =>
    hm.heap b o (fun hb => by rw [hw0 b hb] at e; cases e) (k b o e)
  intro k
  induction k with
  | zero =>
    intro i s hk hi hst hkp ⟨L, es, ep, t, hS, g⟩ hR
    have e : i = n := by omega
    subst e
    rw [hn, List.take_length] at g
    refine codeAny_builtin F.entry_set_update_loop ?_
    rw [Around.under_plainId F.plain_set_update_loop _]
    show wpAny _ A.in1 (pyNext (.ref I) >>= _) _ _ s
    refine wpAny_bind (W.done s _ _ hst fun s' hm => ?_)
    have kp := old hm hkp
    exact wpAny_pure (hR s' L es ep t (hm.mono wid) (hS.keep (fun o e => hm.heap S o hSw e) fun q hq => (hz q (firstsK_sub q (g.mem_iff.mp hq))).keep kp) g)
  | succ k ih =>
    intro i s hk hi hst hkp ⟨L, es, ep, t, hS, g⟩ hR
    have lt : i < n := by omega
    refine codeAny_builtin F.entry_set_update_loop ?_
    rw [Around.under_plainId F.plain_set_update_loop _]
    show wpAny _ A.in1 (pyNext (.ref I) >>= _) _ _ s
    refine wpAny_bind (W.item i s _ _ lt hst fun v s' hP hst' hm => ?_)
    obtain ⟨z, ez, rfl⟩ := hval i v hP
    have kp := old hm hkp
    have mz : z ∈ zs := List.mem_of_getElem? ez
    have tk : zs.take (i + 1) = zs.take i ++ [z] := by rw [List.take_add_one, ez]; rfl
    have hS' : Ks w s'.heap S L es ep t := hS.keep (fun o e => hm.heap S o hSw e) fun q hq => (hz q (List.mem_of_mem_take (firstsK_sub q (g.mem_iff.mp hq)))).keep kp
    have hx := (hz z mz).keep kp
    show wpAny _ A.in1 (holding [Value.ref z.1] (setAdd S (.ref z.1)) >>= _) _ _ s'
    refine wpAny_bind (wpAny_holding ?_)
    unfold setAdd
    refine wpAny_holding (wpAny_bind (pyHash_key z.2 _ A.in1 s' _ hx.1 (by have := hx.2; omega) ?_))
    have fl := firstsK_len (zs.take i)
    rw [List.length_take] at fl
    have gl := g.length_eq
    refine added (s := { s' with toks := s'.toks + z.2.draws }) hS' hx hu (by omega) fun b h' L' es' ep' t' sb r c1 c2 => ?_
    have g' : L'.Perm (firstsK (zs.take (i + 1))) := by
      rw [tk, firstsK_snoc]
      have mm : z.2 ∈ L.map (·.2) ↔ z.2 ∈ (firstsK (zs.take i)).map (·.2) := (g.map (·.2)).mem_iff
      by_cases c : z.2 ∈ L.map (·.2)
      · rw [if_pos (mm.mp c), c1 c]
        exact g
      · rw [if_neg fun h => c (mm.mpr h)]
        exact (c2 c).trans ((g.cons z).trans (List.perm_append_singleton z _).symm)
    have kp2 : ∀ b o, h0.get? b = some o → h'.get? b = some o := fun b o e => (sb.2 b (fun q => by rw [q, hS0] at e; cases e)).trans (kp b o e)
    refine wpAny_pure ⟨plainId_quiet F.plain_set_update_loop _, ih (i + 1) _ (by omega) lt (W.frame _ s' _ _ hst' (Nat.le_add_right _ _) fun b hb o e => ?_) kp2 ⟨L', es', ep', t', r, g'⟩ fun s'' L2 es2 ep2 t2 hm'' hS'' g'' => ?_⟩
    · rw [sb.2 b (fun h : b = S => hSf (by rw [← h]; exact hb))]; exact e
    · refine hR s'' L2 es2 ep2 t2 (Moved.trans W.gtrans ((hm.mono wid).then_heap (Nat.le_add_right _ _) fun b o hb e => ?_) hm'') hS'' g''
      rw [sb.2 b (fun h : b = S => hb (by rw [h]; exact List.mem_cons_self))]; exact e
set_option maxHeartbeats 8000000 in
/-- set(l), l a list of tuples -/
theorem ks_list {l : Addr} {items : Array Value} (zs : List (Addr × NestedKey)) {Q : Value → Shared → Prop} (hh : A.handled = none) (hl : s.heap.IsList l items) (hit : items.toList = zs.map fun z => Value.ref z.1) (hz : ∀ z ∈ zs, Tk s.heap z.2 z.1) (few : zs.length + 1 < 64) (hu : A.units + 12 < cLine)
    (h : ∀ (h' : Heap) (tk : Nat) L es ep t, Ks w h' s.heap.objs.size L es ep t → L.Perm (firstsK zs) → (∀ b o, s.heap.get? b = some o → h'.get? b = some o) → Q (.ref s.heap.objs.size) { s with heap := h', toks := tk }) :
    wpAny (model P w) A (call (.type "set") [.ref l]) Q E s := by
  have isz : items.size = zs.length := by
    have q := congrArg List.length hit
    rw [Array.length_toList, List.length_map] at q
    exact q
  obtain ⟨c, tl, hmro⟩ := F.called_set.mro
  have hmade := F.called_set.made
  have hsub := F.called_set.sub
  refine wpAny_call (codeAny_of_tree ?_)
  show wpAny _ _ (callAny (.type "set") _) _ _ _
  refine wpAny_pure ⟨Code.quiet_builtin _ (by decide +kernel), codeAny_builtin F.entry_type_call ?_⟩
  rw [Around.under_plain (weight_type_call_type "set" [.ref l] []) rfl]
  have h1 := F.called_set.notType
  have h2 := F.called_set.canCreate
  have hct := F.typeCall_set_1 (.ref l)
  repeat (any_goals (first | assumption | wp_step))
  refine codeAny_mono (code_set_led1 (.ref l) (E := E) (Q₁ := fun obj s₁ => obj = .ref s.heap.objs.size ∧ s₁ = { s with heap := s.heap.push (newSetO w) }) ⟨rfl, rfl⟩) fun r s₁ hr => ?_
  cases r with
  | error e => exact hr
  | ok fl =>
    cases fl with
    | ret obj =>
      obtain ⟨rfl, rfl⟩ := hr
      have hS : (s.heap.push (newSetO w)).get? s.heap.objs.size = some (newSetO w) := Heap.get?_push_size _ rfl
      have hT : Shared.TypeIs { s with heap := s.heap.push (newSetO w) } (.ref s.heap.objs.size) "set" := ⟨_, hS, rfl⟩
      have hli := F.called_set.init.lookup
      have hbi := F.called_set.init.bind (.ref s.heap.objs.size)
      repeat (any_goals (first | assumption | wp_step))
      refine codeAny_mono (codeAny_call_builtin (R := wants (fun r s₂ => r = .none ∧ ∃ h' tk L es ep t, s₂ = { s with heap := h', toks := tk } ∧ Ks w h' s.heap.objs.size L es ep t ∧ L.Perm (firstsK zs) ∧ (∀ b o, s.heap.get? b = some o → h'.get? b = some o)) E) F.called_set.init.plain F.entry_set_init (check_set_init_1 hT ?_)) fun r₂ s₂ hr₂ => ?_
      · obtain ⟨ol, hol, hcl, nl, hdl⟩ := hl
        obtain ⟨ocls, odict, odata, oslots⟩ := ol
        simp only at hcl hdl
        subst hcl; subst hdl
        have hol' : (s.heap.push (newSetO w)).get? l = some { cls := .type "list", dict := odict, data := .seq items nl, slots := oslots } := Heap.get?_push_of_some _ hol
        have hsls := F.sub_list_set
        have hslf := F.sub_list_frozenset
        have hne : (Value.type "list" == Value.type "dict") = false := by decide
        have hl1 : (s.heap.push (newSetO w)).IsList l items := ⟨_, hol', rfl, nl, rfl⟩
        unfold Builtin.«set.__init__» noKeywords Builtin.Frozenset.updateFrom
        generalize hPI : pyIter = PI
        wp_walk
        subst hPI
        refine wpAny_pyIter_list hl1 ?_
        refine wpAny_bind (wpAny_runValue ?_)
        have lt : l < s.heap.objs.size := Heap.lt_size hol
        have hh3 : A.in1.in1.in1.handled = none := by simp [hh]
        have sz : (s.heap.push (newSetO w)).objs.size = s.heap.objs.size + 1 := Heap.size_push ..
        have neI : l ≠ (s.heap.push (newSetO w)).objs.size := by
          rw [sz]
          exact Nat.ne_of_lt (Nat.lt_succ_of_lt lt)
        have nf : s.heap.objs.size ∉ [(s.heap.push (newSetO w)).objs.size, l] := by
          rw [sz]
          simp only [List.mem_cons, List.not_mem_nil, or_false, not_or]
          exact ⟨Nat.ne_of_lt (Nat.lt_succ_self _), Nat.ne_of_gt lt⟩
        have hval : ∀ (i : Nat) (v : Value), items[i]? = some v → ∃ z, zs[i]? = some z ∧ v = .ref z.1 := fun i v hv => by
          have q : items.toList[i]? = some v := by rw [Array.getElem?_toList]; exact hv
          rw [hit, List.getElem?_map] at q
          cases hq : zs[i]? with
          | none => rw [hq] at q; cases q
          | some z =>
            rw [hq] at q
            exact ⟨z, rfl, (Option.some.inj q).symm⟩
        have off : ∀ b, s.heap.objs.size ≤ b → s.heap.get? b = none := fun b hb => by
          cases q : s.heap.get? b with
          | none => rfl
          | some o => exact absurd (Nat.lt_of_lt_of_le (Heap.lt_size q) hb) (Nat.lt_irrefl _)
        refine ks_loop ((Walks.list hh3 _ l neI items).toS) s.heap.objs.size nf zs isz few hval s.heap hz (off _ (Nat.le_refl _)) (fun b hb => off b (by rw [List.mem_singleton.mp hb, sz]; exact Nat.le_succ _)) (by simp only [Around.in1_units]; omega) (items.size - 0) 0 _ (by omega) (Nat.zero_le _) ⟨⟨_, Heap.get?_push_size _ rfl, rfl, rfl⟩, (hl1.push _)⟩
          (fun b o e => Heap.get?_push_of_some _ (Heap.get?_push_of_some _ e)) ⟨[], #[], 0, _, ks_fresh (Heap.get?_push_of_some _ hS), List.Perm.nil⟩ ?hR
        case hR =>
          intro s' L es ep t hm hS' g'
          obtain ⟨h', g2, d', tk', os'⟩ := s'
          have eg : g2 = s.gens := hm.gens
          have ed : d' = s.drawn := hm.drawn
          have eo : os' = s.os := hm.os
          subst eg; subst ed; subst eo
          show wpAny _ _ _ _ _ _
          refine wpAny_pure ?_
          show wpAny _ _ (ret Value.none) _ _ _
          refine wpAny_pure ⟨rfl, h', tk', L, es, ep, t, rfl, hS', g', fun b o e => ?_⟩
          have lb := Heap.lt_size e
          refine hm.heap b o (fun z => ?_) (Heap.get?_push_of_some _ (Heap.get?_push_of_some _ e))
          rw [sz] at z
          simp only [List.mem_cons, List.not_mem_nil, or_false] at z
          rcases z with z | z
          · exact absurd z (Nat.ne_of_lt lb)
          · exact absurd z (Nat.ne_of_lt (Nat.lt_succ_of_lt lb))
      · cases r₂ with
        | error e => exact hr₂
        | ok fl₂ =>
          cases fl₂ with
          | ret r =>
            obtain ⟨rfl, h', tk, L, es, ep, t, rfl, hS', g', hk'⟩ := hr₂
            repeat (any_goals (first | assumption | wp_step))
            exact h _ _ _ _ _ _ hS' g' hk'
          | _ => exact hr₂.elim
    | _ => exact hr.elim
end
end TfN

/-! data with a Lean type, over the layer -/
namespace L2
open PySem PySem.Spec PyProof.Rows PySem.W PySem.SeqAt
/-- what can be read stays: new objects, locks -/
def Le (H H' : Hp) : Prop := ∀ b o, (∀ q u, o ≠ .frz q u) → Rd H b o → Rd H' b o
theorem Le.refl (H : Hp) : Le H H := fun _ _ _ h => h
theorem Le.trans {H H1 H2 : Hp} (a : Le H H1) (b : Le H1 H2) : Le H H2 := fun c o n h => b c o n (a c o n h)
theorem Same.le {H H' : Hp} (s : Same H H') : Le H H' := fun b o _ h => by
  rcases h with h | ⟨q, h⟩
  · exact .inl (s _ _ h)
  · exact .inr ⟨q, s _ _ h⟩
theorem Le.lock {H : Hp} {d : Addr} {u : HO} {od : Obj} (h : H d = some u) (m : Mut (some u)) : Le H (upd H d (.frz od u)) := fun b o n r => by
  by_cases e : b = d
  · subst e
    rcases r with r | ⟨q, r⟩
    · rw [h] at r
      have e := Option.some.inj r
      subst e
      exact .inr ⟨od, upd_same⟩
    · rw [h] at r
      have e := Option.some.inj r
      subst e
      exact False.elim m
  · rcases r with r | ⟨q, r⟩
    · exact .inl (by rw [upd_ne e]; exact r)
    · exact .inr ⟨q, by rw [upd_ne e]; exact r⟩
/-- the lock is taken off -/
theorem Same.unlock {H H' : Hp} {d : Addr} {u : HO} {od : Obj} (h : H d = some u) (s : Same (upd H d (.frz od u)) H') : Same H (upd H' d u) := fun b o e => by
  by_cases c : b = d
  · subst c
    rw [upd_same, ← e, h]
  · rw [upd_ne c]
    exact s _ _ (by rw [upd_ne c]; exact e)
theorem Le.sql {K : PySem.W.Frag} {H H' : Hp} (l : Le H H') {a : Addr} {xs : List V} (h : SqL K H a xs) : SqL K H' a xs := by
  rcases h with h | h
  · exact .inl (l _ _ (by intro q u z; cases z) h)
  · exact .inr h
theorem Le.sqt {K : PySem.W.Frag} {H H' : Hp} (l : Le H H') {a : Addr} {xs : List V} (h : SqT K H a xs) : SqT K H' a xs := by
  rcases h with h | h
  · exact .inl (l _ _ (by intro q u z; cases z) h)
  · exact .inr h
theorem Le.dk {H H' : Hp} (l : Le H H') {a : Addr} {kvs : List (Key × V)} (h : Rd H a (.dK kvs)) : Rd H' a (.dK kvs) := l _ _ (by intro q u z; cases z) h
theorem Le.ins {H H' : Hp} (l : Le H H') {a C dx : Addr} {fs : List (Str × V)} (h : Rd H a (.ins C dx fs)) : Rd H' a (.ins C dx fs) := l _ _ (by intro q u z; cases z) h
mutual
theorem Dp.le {K : PySem.W.Frag} {H H' : Hp} (l : Le H H') : ∀ {v : V} {d : PyData}, Dp K H v d → Dp K H' v d
  | _, _, .non => .non
  | _, _, .bl b => .bl b
  | _, _, .int i => .int i
  | _, _, .str z => .str z
  | _, _, .lst h r => .lst (l.sql h) (DpAll.le l r)
  | _, _, .tup h r => .tup (l.sqt h) (DpAll.le l r)
theorem DpAll.le {K : PySem.W.Frag} {H H' : Hp} (l : Le H H') : ∀ {xs : List V} {ds : List PyData}, DpAll K H xs ds → DpAll K H' xs ds
  | _, _, .nil => .nil
  | _, _, .cons h r => .cons (Dp.le l h) (DpAll.le l r)
end
/-- v stands for x -/
def Dt {α : Type} [DecidableEq α] [Datum α] (K : PySem.W.Frag) (H : Hp) (v : V) (x : α) : Prop := Dp K H v (Datum.toD x)
section
variable {α β : Type} [DecidableEq α] [Datum α] [DecidableEq β] [Datum β] {K : PySem.W.Frag} {H : Hp}
theorem Dt.le {H' : Hp} {v : V} {x : α} (h : Dt K H v x) (l : Le H H') : Dt K H' v x := Dp.le l h
/-- item by item -/
abbrev Dts (K : PySem.W.Frag) (H : Hp) (vs : List V) (xs : List α) : Prop := Paired (Dt K H) vs xs
theorem Dts.le {H' : Hp} {vs : List V} {xs : List α} (h : Dts K H vs xs) (l : Le H H') : Dts K H' vs xs := Paired.mapP h fun _ _ d => Dt.le d l
theorem Dts.all : ∀ {vs : List V} {xs : List α}, Dts K H vs xs → DpAll K H vs (xs.map Datum.toD)
  | _, _, .nil => .nil
  | _, _, .cons h r => .cons h (Dts.all r)
theorem Dts.of_all : ∀ {vs : List V} {xs : List α}, DpAll K H vs (xs.map Datum.toD) → Dts K H vs xs
  | [], [], _ => .nil
  | [], _ :: _, h => by cases h
  | _ :: _, [], h => by cases h
  | _ :: _, _ :: _, .cons h r => .cons h (Dts.of_all r)
theorem dt_list {a : Addr} {vs : List V} {xs : List α} (h : SqL K H a vs) (r : Dts K H vs xs) : Dt K H (.ref a) xs := .lst h r.all
theorem dt_tup {a : Addr} {vs : List V} {xs : List α} (h : SqT K H a vs) (r : Dts K H vs xs) : Dt K H (.ref a) (Tup.mk xs) := .tup h r.all
theorem dt_pair {a : Addr} {v u : V} {x : α} {y : β} (h : SqT K H a [v, u]) (r : Dt K H v x) (q : Dt K H u y) : Dt K H (.ref a) (x, y) := .tup h (.cons r (.cons q .nil))
theorem dt_str {z : Str} : Dt K H (.str z) z := .str z
theorem dt_int {i : Int} : Dt K H (.int i) i := .int i
theorem dts_strs : ∀ zs : List Str, Dts K H (zs.map V.str) zs
  | [] => .nil
  | z :: zs => .cons dt_str (dts_strs zs)
theorem Dt.str {v : V} {z : Str} (h : Dt K H v z) : v = .str z := by
  have h' : Dp K H v (.str z) := h
  cases h'
  rfl
theorem Dt.pair {v : V} {p : α × β} (h : Dt K H v p) : ∃ a u w, v = .ref a ∧ SqT K H a [u, w] ∧ Dt K H u p.1 ∧ Dt K H w p.2 := by
  have h' : Dp K H v (.tuple [Datum.toD p.1, Datum.toD p.2]) := h
  cases h' with
  | tup h r =>
    cases r with
    | cons h1 r =>
      cases r with
      | cons h2 r =>
        cases r
        exact ⟨_, _, _, rfl, h, h1, h2⟩
theorem Dt.list {v : V} {xs : List α} (h : Dt K H v xs) : ∃ a vs, v = .ref a ∧ SqL K H a vs ∧ Dts K H vs xs := by
  have h' : Dp K H v (.list (xs.map Datum.toD)) := h
  cases h' with
  | lst hs rs => exact ⟨_, _, rfl, hs, .of_all rs⟩
theorem Dt.tup {v : V} {xs : Tup α} (h : Dt K H v xs) : ∃ a vs, v = .ref a ∧ SqT K H a vs ∧ Dts K H vs xs.items := by
  have h' : Dp K H v (.tuple (xs.items.map Datum.toD)) := h
  cases h' with
  | tup hs rs => exact ⟨_, _, rfl, hs, .of_all rs⟩
theorem Dts.strs : ∀ {vs : List V} {zs : List Str}, Dts K H vs zs → vs = zs.map V.str
  | _, _, .nil => rfl
  | _, _, .cons h r => by rw [Dt.str h, Dts.strs r, List.map_cons]
theorem Dts.at : ∀ {vs : List V} {xs : List α}, Dts K H vs xs → ∀ {i : Nat} {v : V}, vs[i]? = some v → ∃ x, xs[i]? = some x ∧ Dt K H v x := fun r => paired_get r
theorem Dts.length {vs : List V} {xs : List α} (r : Dts K H vs xs) : vs.length = xs.length := Paired.length r
theorem Dts.append : ∀ {vs us : List V} {xs ys : List α}, Dts K H vs xs → Dts K H us ys → Dts K H (vs ++ us) (xs ++ ys)
  | _, _, _, _, .nil, q => q
  | _, _, _, _, .cons h r, q => .cons h (Dts.append r q)
end
/-! ### == and != of plain data, in -/
section
variable {X : Cx}
def rEqP (K : PySem.W.Frag) (neg : Bool) : R2 := fun x y H Q => ∃ d e, Dp K H x d ∧ Dp K H y e ∧ d.plain = true ∧ e.plain = true ∧ min d.depth e.depth ≤ 60 ∧ Q (.bl (if neg then !PyData.eqv d e else PyData.eqv d e)) H
theorem op_eqP (hu : X.A.units + 64 < cLine) : OpR X (compareOp .Eq) (rEqP X.K false) := by
  intro pins s σ H x y v u Q I rx ry h
  obtain ⟨d, e, hd, he, pd, pe, hm, q⟩ := h
  obtain ⟨as, r1⟩ := Dp.reads I d x v hd rx
  obtain ⟨bs, r2⟩ := Dp.reads I e y u he ry
  exact eq_plain r1 r2 pd pe (by omega) ⟨.bl _, H, I, rfl, q⟩
theorem op_neP (hu : X.A.units + 64 < cLine) : OpR X (compareOp .NotEq) (rEqP X.K true) := by
  intro pins s σ H x y v u Q I rx ry h
  obtain ⟨d, e, hd, he, pd, pe, hm, q⟩ := h
  obtain ⟨as, r1⟩ := Dp.reads I d x v hd rx
  obtain ⟨bs, r2⟩ := Dp.reads I e y u he ry
  exact ne_plain r1 r2 pd pe (by omega) ⟨.bl _, H, I, rfl, q⟩
section
variable {α : Type} [DecidableEq α] [Datum α] {K : PySem.W.Frag} {H : Hp} {x y : V} {a b : α} {Q : VK}
theorem eq_t (ha : Dt K H x a) (hb : Dt K H y b) (q : Q (.bl (decide (a = b))) H) (hz : Datum.depth α ≤ 60 := by decide) : rEqP K false x y H Q :=
  ⟨_, _, ha, hb, Datum.plain a, Datum.plain b, Nat.le_trans (Nat.min_le_left _ _) (Nat.le_trans (Datum.depth_le a) hz), by rw [if_neg Bool.false_ne_true, Datum.eqv]; exact q⟩
theorem ne_t (ha : Dt K H x a) (hb : Dt K H y b) (q : Q (.bl (!decide (a = b))) H) (hz : Datum.depth α ≤ 60 := by decide) : rEqP K true x y H Q :=
  ⟨_, _, ha, hb, Datum.plain a, Datum.plain b, Nat.le_trans (Nat.min_le_left _ _) (Nat.le_trans (Datum.depth_le a) hz), by rw [if_pos rfl, Datum.eqv]; exact q⟩
end
/-- x in c, c a list or a tuple of data -/
def rInP (K : PySem.W.Frag) (neg : Bool) : R2 := fun x y H Q => ∃ d ds, Dp K H x d ∧ (Dp K H y (.list ds) ∨ Dp K H y (.tuple ds)) ∧ d.plain = true ∧ PyData.plainAll ds = true ∧ d.depth ≤ 60 ∧ Q (.bl (if neg then !ds.any (fun e => PyData.eqv e d) else ds.any fun e => PyData.eqv e d)) H
theorem op_inP (hu : X.A.units + 64 < cLine) : OpR X (compareOp .In) (rInP X.K false) := by
  intro pins s σ H x y v u Q I rx ry h
  obtain ⟨d, ds, hd, he, pd, pe, hm, q⟩ := h
  obtain ⟨as, r1⟩ := Dp.reads I d x v hd rx
  rcases he with he | he
  · obtain ⟨bs, r2⟩ := Dp.reads I _ y u he ry
    exact in_list_data r2 r1 pe pd (by omega) ⟨.bl _, H, I, rfl, q⟩
  · obtain ⟨bs, r2⟩ := Dp.reads I _ y u he ry
    exact in_tuple_data r2 r1 pe pd (by omega) ⟨.bl _, H, I, rfl, q⟩
theorem op_notInP (hu : X.A.units + 64 < cLine) : OpR X (compareOp .NotIn) (rInP X.K true) := by
  intro pins s σ H x y v u Q I rx ry h
  obtain ⟨d, ds, hd, he, pd, pe, hm, q⟩ := h
  obtain ⟨as, r1⟩ := Dp.reads I d x v hd rx
  rcases he with he | he
  · obtain ⟨bs, r2⟩ := Dp.reads I _ y u he ry
    exact notIn_list_data r2 r1 pe pd (by omega) ⟨.bl _, H, I, rfl, q⟩
  · obtain ⟨bs, r2⟩ := Dp.reads I _ y u he ry
    exact notIn_tuple_data r2 r1 pe pd (by omega) ⟨.bl _, H, I, rfl, q⟩
end
section
variable {α : Type} [DecidableEq α] [Datum α]
theorem any_eqv (xs : List α) (a : α) : (xs.map Datum.toD).any (fun e => PyData.eqv e (Datum.toD a)) = decide (a ∈ xs) := by
  rw [List.any_map]
  by_cases h : a ∈ xs
  · rw [decide_eq_true h]
    exact List.any_eq_true.mpr ⟨a, h, by show PyData.eqv (Datum.toD a) (Datum.toD a) = true; rw [Datum.eqv]; exact decide_eq_true rfl⟩
  · rw [decide_eq_false h]
    refine List.any_eq_false.mpr fun y hy e => h ?_
    have e' : PyData.eqv (Datum.toD y) (Datum.toD a) = true := e
    rw [Datum.eqv] at e'
    rw [← of_decide_eq_true e']
    exact hy
variable {K : PySem.W.Frag} {H : Hp} {x y : V} {a : α} {xs : List α} {Q : VK}
theorem in_t (ha : Dt K H x a) (hb : Dt K H y xs ∨ Dt K H y (Tup.mk xs)) (q : Q (.bl (decide (a ∈ xs))) H) (hz : Datum.depth α ≤ 60 := by decide) : rInP K false x y H Q :=
  ⟨_, _, ha, hb, Datum.plain a, plainAll_map xs, Nat.le_trans (Datum.depth_le a) hz, by rw [if_neg Bool.false_ne_true, any_eqv]; exact q⟩
theorem notIn_t (ha : Dt K H x a) (hb : Dt K H y xs ∨ Dt K H y (Tup.mk xs)) (q : Q (.bl (!decide (a ∈ xs))) H) (hz : Datum.depth α ≤ 60 := by decide) : rInP K true x y H Q :=
  ⟨_, _, ha, hb, Datum.plain a, plainAll_map xs, Nat.le_trans (Datum.depth_le a) hz, by rw [if_pos rfl, any_eqv]; exact q⟩
end
/-! ### dicts from texts to data: ==, != -/
section
variable {α : Type} [DecidableEq α] [Datum α]
/-- the dict at a: its pairs, in order -/
def Dk (K : PySem.W.Frag) (H : Hp) (a : Addr) (xs : List (Str × α)) : Prop := ∃ kvs : List (Key × V), Rd H a (.dK kvs) ∧ Paired (fun kv x => kv.1 = Sum.inr x.1 ∧ Dt K H kv.2 x.2) kvs xs
theorem Dk.le {K : PySem.W.Frag} {H H' : Hp} {a : Addr} {xs : List (Str × α)} (h : Dk K H a xs) (l : Le H H') : Dk K H' a xs := by
  obtain ⟨kvs, h1, h2⟩ := h
  exact ⟨kvs, l.dk h1, Paired.mapP h2 fun _ _ z => ⟨z.1, Dt.le z.2 l⟩⟩
def look (xs : List (Str × α)) (k : Str) : Option α := (xs.find? fun p => decide (p.1 = k)).map (·.2)
theorem look_val {K : PySem.W.Frag} {H : Hp} {k : Str} : ∀ {kvs : List (Key × V)} {xs : List (Str × α)}, Paired (fun kv x => kv.1 = Sum.inr x.1 ∧ Dt K H kv.2 x.2) kvs xs →
    (look xs k = none ∧ valV kvs (Sum.inr k) = none) ∨ ∃ x v, look xs k = some x ∧ valV kvs (Sum.inr k) = some v ∧ Dt K H v x
  | _, _, .nil => .inl ⟨rfl, rfl⟩
  | kv :: kvs, p :: xs, .cons h r => by
    obtain ⟨h1, h2⟩ := h
    by_cases c : p.1 = k
    · refine .inr ⟨p.2, kv.2, ?_, valV_pos (by rw [h1, c]), h2⟩
      unfold look
      rw [List.find?_cons_of_pos (by exact decide_eq_true c)]
      rfl
    · have e1 : look (p :: xs) k = look xs k := by
        unfold look
        rw [List.find?_cons_of_neg (by rw [decide_eq_true_eq]; exact c)]
      have e2 : valV (kv :: kvs) (Sum.inr k) = valV kvs (Sum.inr k) := valV_neg (by rw [h1]; exact fun z => c (Sum.inr.inj z))
      rw [e1, e2]
      exact look_val r
/-- the same keys with the same values -/
def sameD (xs ys : List (Str × α)) : Bool := xs.length == ys.length && xs.all fun p => decide (look ys p.1 = some p.2)
section
variable {X : Cx} {pins : List (Addr × Obj)} {σ : St} {H : Hp} {s : Shared}
theorem hits_t {A : Around} (hu : A.units + 64 < cLine) (hz : Datum.depth α ≤ 60) (I : Inv X pins σ H s) {ls : List (Key × V)} {vb : List (Key × Value)} {ys : List (Str × α)} (rb : KV ls vb) (pb : Paired (fun kv x => kv.1 = Sum.inr x.1 ∧ Dt X.K H kv.2 x.2) ls ys) :
    ∀ {ks : List (Key × V)} {va : List (Key × Value)} {xs : List (Str × α)}, KV ks va → Paired (fun kv x => kv.1 = Sum.inr x.1 ∧ Dt X.K H kv.2 x.2) ks xs → KeqHits A s vb va (xs.all fun p => decide (look ys p.1 = some p.2)) := by
  intro ks va xs ra pa
  unfold KV at ra
  induction ra generalizing xs with
  | nil => cases pa; exact .nil
  | @cons kv q ks va h t ih =>
    cases pa with
    | @cons _ p _ xs h2 t2 =>
      obtain ⟨e1, r1⟩ := h
      obtain ⟨e2, d1⟩ := h2
      obtain ⟨key, v⟩ := q
      have ek : key = Sum.inr p.1 := by rw [← e2, e1]
      subst ek
      have rr := rb.val (Sum.inr p.1)
      rcases look_val (k := p.1) pb with ⟨l1, l2⟩ | ⟨x, u, l1, l2, d2⟩
      · rw [l2] at rr
        have z : valueAt vb (Sum.inr p.1) = none := by
          cases hv : valueAt vb (Sum.inr p.1) with
          | none => rfl
          | some _ => rw [hv] at rr; exact rr.elim
        have e : ((p :: xs).all fun p => decide (look ys p.1 = some p.2)) = false := by
          rw [List.all_cons, l1]
          rfl
        rw [e]
        exact .miss z
      · rw [l2] at rr
        obtain ⟨y, hy, ry⟩ := rr.some_of
        obtain ⟨as, q1⟩ := Dp.reads I _ kv.2 v d1 r1
        obtain ⟨bs, q2⟩ := Dp.reads I _ u y d2 ry
        have ea : SeqAt.EqAt A s v y (PyData.eqv (Datum.toD p.2) (Datum.toD x)) := eqAt_plain _ _ A s v y as bs q1 q2 (Datum.plain _) (Datum.plain _) (by
          have := Datum.depth_le p.2
          omega)
        rw [Datum.eqv] at ea
        have e : ((p :: xs).all fun p => decide (look ys p.1 = some p.2)) = (decide (p.2 = x) && xs.all fun p => decide (look ys p.1 = some p.2)) := by
          rw [List.all_cons, l1]
          congr 1
          exact decide_eq_decide.mpr ⟨fun z => (Option.some.inj z).symm, fun z => by rw [z]⟩
        rw [e]
        exact .hit hy ea (ih t2)
end
section
variable {X : Cx}
def rEqK (K : PySem.W.Frag) (α : Type) [DecidableEq α] [Datum α] (neg : Bool) : R2 := fun x y H Q => ∃ (a b : Addr) (xs ys : List (Str × α)), x = .ref a ∧ y = .ref b ∧ Dk K H a xs ∧ Dk K H b ys ∧ Q (.bl (if neg then !sameD xs ys else sameD xs ys)) H
theorem op_eqK (hu : X.A.units + 70 < cLine) (hz : Datum.depth α ≤ 60 := by decide) : OpR X (compareOp .Eq) (rEqK X.K α false) := by
  intro pins s σ H x y v u Q I rx ry h
  obtain ⟨a, b, xs, ys, rfl, rfl, ⟨ks, ha, pa⟩, ⟨ls, hb, pb⟩, q⟩ := h
  obtain rfl : v = Value.ref a := rx
  obtain rfl : u = Value.ref b := ry
  obtain ⟨_, ya, va, ra, da⟩ := dk_rd I.hok ha
  obtain ⟨_, yb, vb, rb, db⟩ := dk_rd I.hok hb
  have l1 : va.length = xs.length := by rw [← ra.length]; exact Paired.length pa
  have l2 : vb.length = ys.length := by rw [← rb.length]; exact Paired.length pb
  refine PySem.W.keq_eq (knd := mixKind X.prog X.w) ya yb da db (by omega) (fun _ => hits_t (A := X.A.in1) (by simp only [Around.in1_units]; omega) hz I rb pb ra pa) ⟨.bl _, H, I, ?_, q⟩
  rw [l1, l2]
  rfl
theorem op_neK (hu : X.A.units + 70 < cLine) (hz : Datum.depth α ≤ 60 := by decide) : OpR X (compareOp .NotEq) (rEqK X.K α true) := by
  intro pins s σ H x y v u Q I rx ry h
  obtain ⟨a, b, xs, ys, rfl, rfl, ⟨ks, ha, pa⟩, ⟨ls, hb, pb⟩, q⟩ := h
  obtain rfl : v = Value.ref a := rx
  obtain rfl : u = Value.ref b := ry
  obtain ⟨_, ya, va, ra, da⟩ := dk_rd I.hok ha
  obtain ⟨_, yb, vb, rb, db⟩ := dk_rd I.hok hb
  have l1 : va.length = xs.length := by rw [← ra.length]; exact Paired.length pa
  have l2 : vb.length = ys.length := by rw [← rb.length]; exact Paired.length pb
  refine PySem.W.keq_ne (knd := mixKind X.prog X.w) ya yb da db (by omega) (fun _ => hits_t (A := X.A.in1) (by simp only [Around.in1_units]; omega) hz I rb pb ra pa) ⟨.bl _, H, I, ?_, q⟩
  rw [l1, l2]
  rfl
end
end
end L2

/-! sorted(l), sorted(set(l)) of data with a Lean type -/
namespace L2
open PySem PySem.Spec PyProof.Rows PySem.W PySem.SeqAt TfN
/-- an order in which unlike ones are told apart -/
class OrdD (α : Type) [DecidableEq α] extends DatumOrd α where
  anti : ∀ a b : α, lt a b = false → lt b a = false → a = b
instance : OrdD Int where
  anti a b h k := by
    have h' := of_decide_eq_false h
    have k' := of_decide_eq_false k
    omega
instance : OrdD Str where
  anti a b h k := by
    have h' : ¬ a.cps.toList < b.cps.toList := of_decide_eq_false h
    have k' : ¬ b.cps.toList < a.cps.toList := of_decide_eq_false k
    exact str_ext (List.le_antisymm (List.not_lt.mp k') (List.not_lt.mp h'))
section
variable {α β γ : Type} [DecidableEq α] [OrdD α] [DecidableEq β] [OrdD β] [DecidableEq γ] [OrdD γ]
instance : OrdD (α × β) where
  anti p q h k := by
    have h' : (if p.1 = q.1 then DatumOrd.lt p.2 q.2 else DatumOrd.lt p.1 q.1) = false := h
    have k' : (if q.1 = p.1 then DatumOrd.lt q.2 p.2 else DatumOrd.lt q.1 p.1) = false := k
    by_cases e : p.1 = q.1
    · rw [if_pos e] at h'
      rw [if_pos e.symm] at k'
      exact Prod.ext e (OrdD.anti _ _ h' k')
    · rw [if_neg e] at h'
      rw [if_neg fun z => e z.symm] at k'
      exact absurd (OrdD.anti _ _ h' k') e
theorem listLt_anti : ∀ xs ys : List α, listLt xs ys = false → listLt ys xs = false → xs = ys
  | [], [], _, _ => rfl
  | [], _ :: _, h, _ => by simp [listLt] at h
  | _ :: _, [], _, h => by simp [listLt] at h
  | x :: xs, y :: ys, h, k => by
    simp only [listLt] at h k
    by_cases e : x = y
    · rw [if_pos e] at h
      rw [if_pos e.symm] at k
      rw [e, listLt_anti xs ys h k]
    · rw [if_neg e] at h
      rw [if_neg fun z => e z.symm] at k
      exact absurd (OrdD.anti _ _ h k) e
instance : OrdD (Tup α) where
  anti t u h k := by
    cases t
    cases u
    exact congrArg Tup.mk (listLt_anti _ _ h k)
/-- not above -/
def leO (a b : α) : Bool := !DatumOrd.lt b a
theorem leO_data (a b : α) : leO a b = dataLe false (Datum.toD (α := α)) a b := by
  rw [dataLe_eq]
  show (!DatumOrd.lt b a) = !dataLt (Datum.toD b) (Datum.toD a)
  rw [DatumOrd.lt_eq]
theorem leO_total : TotalLe (leO (α := α)) := by
  have e : (leO (α := α)) = dataLe false (Datum.toD (α := α)) := funext fun a => funext fun b => leO_data a b
  rw [e]
  exact sortLe_total _ _ _
theorem leO_anti {a b : α} (h : leO a b = true) (k : leO b a = true) : a = b := by
  unfold leO at h k
  rw [Bool.not_eq_true'] at h k
  exact OrdD.anti _ _ k h
theorem leO_trans {a b c : α} (h : leO a b = true) (k : leO b c = true) : leO a c = true := leO_total.trans _ _ _ h k
/-- sorted lists of the same items are one -/
theorem ord_one : ∀ {l l' : List α}, l.Perm l' → l.Pairwise (fun a b => leO a b = true) → l'.Pairwise (fun a b => leO a b = true) → l = l'
  | [], l', p, _, _ => (List.nil_perm.mp p).symm
  | x :: l, [], p, _, _ => by have := p.length_eq; simp at this
  | x :: l, y :: l', p, h, h' => by
    obtain ⟨h1, h2⟩ := List.pairwise_cons.mp h
    obtain ⟨k1, k2⟩ := List.pairwise_cons.mp h'
    have e : x = y := by
      rcases List.mem_cons.mp (p.mem_iff.mp (List.mem_cons_self (a := x) (l := l))) with e | m
      · exact e
      · rcases List.mem_cons.mp (p.mem_iff.mpr (List.mem_cons_self (a := y) (l := l'))) with e | m'
        · exact e.symm
        · exact leO_anti (h1 y m') (k1 x m)
    subst e
    rw [ord_one (List.Perm.cons_inv p) h2 k2]
/-- sorted(xs) -/
def sortO (xs : List α) : List α := xs.mergeSort leO
theorem sortO_perm (xs : List α) : (sortO xs).Perm xs := List.mergeSort_perm _ _
theorem sortO_pw (xs : List α) : (sortO xs).Pairwise (fun a b => leO a b = true) := sort_pairwise leO_total xs
theorem mem_sortO {x : α} {xs : List α} : x ∈ sortO xs ↔ x ∈ xs := (sortO_perm xs).mem_iff
theorem sortO_congr {xs ys : List α} (p : xs.Perm ys) : sortO xs = sortO ys := ord_one ((sortO_perm xs).trans (p.trans (sortO_perm ys).symm)) (sortO_pw xs) (sortO_pw ys)
theorem sortO_self {xs : List α} (h : xs.Pairwise (fun a b => leO a b = true)) : sortO xs = xs := ord_one (sortO_perm xs) (sortO_pw xs) h
/-- each once, in the order of first meeting -/
def onceO (xs : List α) : List α := xs.foldl (fun L x => if x ∈ L then L else L ++ [x]) []
theorem onceO_snoc (xs : List α) (x : α) : onceO (xs ++ [x]) = if x ∈ onceO xs then onceO xs else onceO xs ++ [x] := by
  unfold onceO
  rw [List.foldl_append]
  rfl
theorem onceO_len (xs : List α) : (onceO xs).length ≤ xs.length := by
  have gen : ∀ (ys L : List α), (ys.foldl (fun L x => if x ∈ L then L else L ++ [x]) L).length ≤ L.length + ys.length := by
    intro ys
    induction ys with
    | nil => intro L; exact Nat.le_refl _
    | cons y ys ih =>
      intro L
      refine Nat.le_trans (ih _) ?_
      rw [List.length_cons]
      show (if y ∈ L then L else L ++ [y]).length + _ ≤ _
      split
      · omega
      · rw [List.length_append, List.length_singleton]; omega
  exact Nat.le_trans (gen xs []) (by simp)
theorem mem_onceO {z : α} {xs : List α} : z ∈ onceO xs ↔ z ∈ xs := by
  have gen : ∀ (ys L : List α), z ∈ ys.foldl (fun L x => if x ∈ L then L else L ++ [x]) L ↔ z ∈ L ∨ z ∈ ys := by
    intro ys
    induction ys with
    | nil => intro L; simp
    | cons y ys ih =>
      intro L
      rw [List.foldl_cons, ih]
      split
      · rename_i hy
        rw [List.mem_cons]
        constructor
        · rintro (h | h)
          · exact .inl h
          · exact .inr (.inr h)
        · rintro (h | rfl | h)
          · exact .inl h
          · exact .inl hy
          · exact .inr h
      · rw [List.mem_append, List.mem_singleton, List.mem_cons, or_assoc]
  rw [onceO, gen]
  simp
theorem nodup_onceO (xs : List α) : (onceO xs).Nodup := by
  have gen : ∀ (ys L : List α), L.Nodup → (ys.foldl (fun L x => if x ∈ L then L else L ++ [x]) L).Nodup := by
    intro ys
    induction ys with
    | nil => intro L h; exact h
    | cons y ys ih =>
      intro L h
      refine ih _ ?_
      show (if y ∈ L then L else L ++ [y]).Nodup
      split
      · exact h
      · rename_i hy
        exact List.nodup_append.mpr ⟨h, List.nodup_cons.mpr ⟨by simp, List.nodup_nil⟩, fun a ha b hb e => hy (by rw [← List.mem_singleton.mp hb, ← e]; exact ha)⟩
  exact gen xs [] List.nodup_nil
/-- sorted(set(xs)) -/
def setO (xs : List α) : List α := sortO (onceO xs)
theorem mem_setO {z : α} {xs : List α} : z ∈ setO xs ↔ z ∈ xs := mem_sortO.trans mem_onceO
theorem nodup_setO (xs : List α) : (setO xs).Nodup := (sortO_perm _).nodup_iff.mpr (nodup_onceO xs)
theorem setO_pw (xs : List α) : (setO xs).Pairwise (fun a b => leO a b = true) := sortO_pw _
theorem setO_len (xs : List α) : (setO xs).length ≤ xs.length := by rw [setO, (sortO_perm _).length_eq]; exact onceO_len xs
theorem setO_is {xs ys : List α} (nd : ys.Nodup) (m : ∀ z, z ∈ ys ↔ z ∈ xs) (pw : ys.Pairwise (fun a b => leO a b = true)) : ys = setO xs :=
  ord_one ((List.perm_ext_iff_of_nodup nd (nodup_setO xs)).mpr fun z => (m z).trans mem_setO.symm) pw (setO_pw xs)
theorem setO_congr {xs ys : List α} (h : ∀ z, z ∈ xs ↔ z ∈ ys) : setO xs = setO ys := setO_is (nodup_setO xs) (fun z => mem_setO.trans (h z)) (setO_pw xs)
theorem setO_self {xs : List α} (nd : xs.Nodup) (pw : xs.Pairwise (fun a b => leO a b = true)) : setO xs = xs := (setO_is nd (fun _ => Iff.rfl) pw).symm
theorem setO_setO (xs : List α) : setO (setO xs) = setO xs := setO_self (nodup_setO xs) (setO_pw xs)
end
theorem leO_str (a b : Str) : leO a b = leS a b := by
  rw [Bool.eq_iff_iff, leS_iff]
  unfold leO
  show (!decide (b.cps.toList < a.cps.toList)) = true ↔ _
  rw [Bool.not_eq_true', decide_eq_false_iff_not, List.not_lt]
theorem onceO_str (zs : List Str) : onceO zs = firsts zs := rfl
theorem setO_str (zs : List Str) : setO zs = canon zs := (setO_is (nodup_canon zs) (fun _ => mem_canon) ((canon_pw zs).imp fun h => (leO_str _ _).trans h)).symm
/-! ### sorted(l) -/
section
variable {X : Cx} {α : Type} [DecidableEq α] [OrdD α]
/-- all are tuples with an item, or none is a tuple -/
class Srt (α : Type) [DecidableEq α] [Datum α] : Prop where
  ok : (∀ a : α, ∃ x r, Datum.toD a = .tuple (x :: r)) ∨ ∀ a : α, ∀ xs, Datum.toD a ≠ .tuple xs
instance : Srt Str := ⟨.inr fun a xs z => by cases z⟩
instance : Srt Int := ⟨.inr fun a xs z => by cases z⟩
instance {α β : Type} [DecidableEq α] [Datum α] [DecidableEq β] [Datum β] : Srt (α × β) := ⟨.inl fun a => ⟨_, _, rfl⟩⟩
theorem srt_all [Srt α] (xs : List α) : Sortable (xs.map Datum.toD) := by
  rcases Srt.ok (α := α) with h | h
  · exact .tuples h
  · exact .others fun b => ⟨DatumOrd.notNone b, h b⟩
def rSortA (K : PySem.W.Frag) (α : Type) [DecidableEq α] [OrdD α] : List V → Hp → VK → Prop := fun vs H Q => ∃ (a : Addr) (bs : List (V × α)), vs = [.ref a] ∧ SqL K H a (bs.map (·.1)) ∧ (∀ b ∈ bs, Dt K H b.1 b.2) ∧ bs.length ≤ 1000 ∧
  ∀ (cs : List (V × α)) (p : Addr), cs.Perm bs → cs.map (·.2) = sortO (bs.map (·.2)) → H p = none → Q (.ref p) (upd H p (.lst (cs.map (·.1))))
theorem small1k {n : Nat} (h : n ≤ 1000) : n ≤ sizeLine := Nat.le_trans h (by decide)
theorem each_rel : ∀ {bs : List (V × α)} {us : List Value}, Vals (bs.map (·.1)) us → EachIs (fun v (b : V × α) => RelV b.1 v) us bs
  | [], _, .nil => .nil
  | _ :: _, _, .cons h r => .cons h (each_rel r)
theorem rel_each : ∀ {bs : List (V × α)} {us : List Value}, EachIs (fun v (b : V × α) => RelV b.1 v) us bs → Vals (bs.map (·.1)) us
  | [], _, .nil => .nil
  | _ :: _, _, .cons h r => .cons h (rel_each r)
theorem cr_sortA [Srt α] (hu : X.A.units + 70 < cLine) (hz : Datum.depth α ≤ 60 := by decide) : CallR X (.builtin "sorted") (rSortA X.K α) := by
  intro pins s σ H vs us Q I r h
  obtain ⟨a, bs, rfl, hs, hd, hl, q⟩ := h
  obtain ⟨its, rv, pl, hz'⟩ := I.list hs
  rw [Vals.ref1 r]
  have e1 := each_rel rv
  have hal : AllAlike (bs.map fun b => Datum.toD b.2) := AllAlike.of fun b b' => DatumOrd.alike b.2 b'.2
  have hk : Sortable (bs.map fun b => Datum.toD b.2) := by
    have z := srt_all (bs.map (·.2))
    rw [List.map_map] at z
    exact z
  have er : EachIs (fun v (b : V × α) => ∃ as, Reads s.heap v (Datum.toD b.2) as) its bs := (each_mem e1).mono fun v b ⟨h1, h2⟩ => Dp.reads I _ b.1 v (hd b h2) h1
  refine sorted_data (enc := fun b : V × α => Datum.toD b.2) pl.isList e1 er hal hk (small1k hl) (fun b hb => by
    have := Datum.depth_le b.2
    omega) fun out hlo eo => ?_
  obtain ⟨ep, he'⟩ := PyProof.Rows.sortedAll_at s.heap its (List.toArray out)
  have pm : (bs.mergeSort (dataLe false fun b : V × α => Datum.toD b.2)).Perm bs := List.mergeSort_perm _ _
  have key : (bs.mergeSort (dataLe false fun b : V × α => Datum.toD b.2)).map (·.2) = sortO (bs.map (·.2)) := sort_maps (fun b : V × α => b.2) fun x _ y _ => (leO_data x.2 y.2).symm
  have vv := rel_each eo
  have hlen : ((bs.mergeSort (dataLe false fun b : V × α => Datum.toD b.2)).map (·.1)).length ≤ sizeLine := by rw [List.length_map, pm.length_eq]; exact small1k hl
  exact ⟨.ref _, upd H (s.heap.objs.size + 1) (.lst ((bs.mergeSort (dataLe false fun b : V × α => Datum.toD b.2)).map (·.1))), I.laid (t' := s.toks) (fun _ _ => PyProof.Rows.sortedAll_old) (Nat.le_succ _) ⟨hlen, out, ep, vv, by simpa using he'⟩, rfl, q _ _ pm key (I.hok.fresh (Nat.le_succ _))⟩
end
/-! ### set(l), sorted(the set) -/
/-- data that are keys -/
class DKey (α : Type) [DecidableEq α] [Datum α] where
  nk : α → NestedKey
  dat : ∀ x, (nk x).data = Datum.toD x
  dep : ∀ x, (nk x).depth ≤ Datum.depth α
instance : DKey Str := ⟨.text, fun _ => rfl, fun _ => Nat.le_refl _⟩
instance : DKey Int := ⟨.num, fun _ => rfl, fun _ => Nat.le_refl _⟩
instance {α β : Type} [DecidableEq α] [Datum α] [DKey α] [DecidableEq β] [Datum β] [DKey β] : DKey (α × β) where
  nk p := .tup [DKey.nk p.1, DKey.nk p.2]
  dat p := by
    simp only [NestedKey.data, NestedKey.datas, DKey.dat]
    rfl
  dep p := by
    simp only [NestedKey.depth, NestedKey.depthAll]
    have h1 := DKey.dep p.1
    have h2 := DKey.dep p.2
    show _ ≤ max (Datum.depth α) (Datum.depth β) + 1
    omega
mutual
theorem key_reads {h : Heap} : ∀ (k : NestedKey) (v : Value) (as : List Addr), Reads h v k.data as → NestedIs h k v
  | .none, v, as, r => by
    simp only [NestedKey.data] at r
    cases r
    exact .none
  | .num i, v, as, r => by
    simp only [NestedKey.data] at r
    cases r
    exact .int _ _
  | .text x, v, as, r => by
    simp only [NestedKey.data] at r
    cases r
    exact .text _ _
  | .tup ks, v, as, r => by
    simp only [NestedKey.data] at r
    cases r with
    | tuple h1 h2 h3 h4 => exact .tup h1 h2 h3 (keys_reads ks _ _ h4)
theorem keys_reads {h : Heap} : ∀ (ks : List NestedKey) (vs : List Value) (as : List Addr), ReadsAll h vs (NestedKey.datas ks) as → NestedAll h ks vs
  | [], v, as, r => by
    simp only [NestedKey.datas] at r
    cases r
    exact .nil
  | k :: ks, v, as, r => by
    simp only [NestedKey.datas] at r
    cases r with
    | cons h1 h2 => exact .cons (key_reads k _ _ h1) (keys_reads ks _ _ h2)
end
theorem nk_inj {α : Type} [DecidableEq α] [Datum α] [DKey α] {x y : α} (h : DKey.nk x = DKey.nk y) : x = y := by
  have e : Datum.toD x = Datum.toD y := by rw [← DKey.dat, ← DKey.dat, h]
  have z : PyData.eqv (Datum.toD x) (Datum.toD y) = true := by
    rw [← e, Datum.eqv]
    exact decide_eq_true rfl
  rw [Datum.eqv] at z
  exact of_decide_eq_true z
/-- all of a set of tuples but the tuples -/
def Kset (w : World) (h : Heap) (a : Addr) (L : List (Addr × NestedKey)) : Prop := ∃ (M : List (Addr × NestedKey)) (es : Array (Int × Value)) (ep : Nat) (t : SetTable), M.Perm L ∧ (∃ o, h.get? a = some o ∧ o.ExactSet ∧ o.data = .set es ep t) ∧ es.toList = M.map (fun q => (q.2.hash w, Value.ref q.1)) ∧ TabOk t (M.map fun q => q.2.hash w) ∧
  (w.params.followText "set-order" = true ∨ t.led = true) ∧ M.length * 5 < t.mask * 3 ∧ M.length < 64
theorem Kset.of {w : World} {h : Heap} {a : Addr} {L M : List (Addr × NestedKey)} {es : Array (Int × Value)} {ep : Nat} {t : SetTable} (R : Ks w h a M es ep t) (p : M.Perm L) : Kset w h a L := ⟨M, es, ep, t, p, R.obj, R.ent, R.tab, R.led, R.room, R.few⟩
/-- a set of tuples, tracked -/
def SetN (w : World) (a : Addr) (L : List (Addr × NestedKey)) : HO := .ext fun h => Kset w h a L
theorem setN_new {P : Program} {w : World} {H : Hp} {h : Heap} {a : Addr} {L : List (Addr × NestedKey)} (R : Kset w h a L) : ObjOk P w H h a (SetN w a L) := by
  have ⟨M, es, ep, t, p, ⟨o, ho, r⟩, r2⟩ := R
  exact ⟨R, ⟨o, ho⟩, fun h1 h2 z k => by
    obtain ⟨M, es, ep, t, p, ⟨o, ho, r⟩, r2⟩ := z
    exact ⟨M, es, ep, t, p, ⟨o, k o ho, r⟩, r2⟩⟩
section
variable {X : Cx} {α : Type} [DecidableEq α] [OrdD α] [DKey α]
theorem Dt.tk {pins : List (Addr × Obj)} {σ : St} {H : Hp} {s : Shared} {a : Addr} {x : α} (I : Inv X pins σ H s) (h : Dt X.K H (.ref a) x) (hz : Datum.depth α ≤ 8) : Tk s.heap (DKey.nk x) a := by
  obtain ⟨as, r⟩ := Dp.reads I _ (.ref a) (.ref a) h rfl
  rw [← DKey.dat] at r
  exact ⟨key_reads _ _ _ r, Nat.le_trans (DKey.dep x) hz⟩
abbrev nkz (z : Addr × α) : Addr × NestedKey := (z.1, DKey.nk z.2)
def rSetN (K : PySem.W.Frag) (w : World) (α : Type) [DecidableEq α] [OrdD α] [DKey α] : List V → Hp → VK → Prop := fun vs H Q => ∃ (l : Addr) (zs : List (Addr × α)), vs = [.ref l] ∧ SqL K H l (zs.map fun z => .ref z.1) ∧ (∀ z ∈ zs, Dt K H (.ref z.1) z.2) ∧ zs.length ≤ 60 ∧ ∀ p o, H p = none → o = SetN w p (firstsK (zs.map nkz)) → Q (.ref p) (upd H p o)
theorem vals_refz : ∀ {zs : List (Addr × α)} {us : List Value}, Vals (zs.map fun z => V.ref z.1) us → us = (zs.map nkz).map fun z => Value.ref z.1
  | [], _, .nil => rfl
  | z :: zs, _, .cons h r => by
    cases h
    rw [vals_refz r]
    rfl
theorem cr_setN (hc : X.calm = true) (hu : X.A.units + 20 < cLine) (hz : Datum.depth α ≤ 8 := by decide) : CallR X (.type "set") (rSetN X.K X.w α) := by
  intro pins s σ H vs us Q I r h
  obtain ⟨l, zs, rfl, hl, hd, hn, q⟩ := h
  rw [Vals.ref1 r]
  obtain ⟨its, rv, pl, _⟩ := I.list hl
  refine ks_list (zs.map nkz) (I.ok.hd hc) pl.isList (by simpa using vals_refz rv) (fun z hm => ?_) (by rw [List.length_map]; omega) (by omega) fun h' tk L es ep t R p k => ?_
  · obtain ⟨y, my, rfl⟩ := List.mem_map.mp hm
    exact Dt.tk I (hd y my) hz
  · exact ⟨.ref s.heap.objs.size, _, I.laid (t' := tk) k (Nat.le_refl _) (setN_new (Kset.of R p)), rfl, q _ _ (I.hok.fresh (Nat.le_refl _)) rfl⟩
theorem perm_back {α β : Type} (f : α → β) : ∀ (vs : List β) (L : List α), vs.Perm (L.map f) → ∃ M : List α, M.Perm L ∧ vs = M.map f
  | [], L, p => by
    have e : L.map f = [] := List.nil_perm.mp p
    exact ⟨[], by rw [List.map_eq_nil_iff.mp e], rfl⟩
  | v :: vs, L, p => by
    obtain ⟨x, mx, ex⟩ := List.mem_map.mp (p.mem_iff.mp (List.mem_cons_self (a := v) (l := vs)))
    obtain ⟨A, B, eL⟩ := List.append_of_mem mx
    subst eL ex
    have p2 : vs.Perm ((A ++ B).map f) := by
      refine List.Perm.cons_inv (a := f x) (p.trans ?_)
      rw [List.map_append, List.map_append, List.map_cons]
      exact List.perm_middle
    obtain ⟨M, h1, h2⟩ := perm_back f vs (A ++ B) p2
    exact ⟨x :: M, (h1.cons x).trans List.perm_middle.symm, by rw [List.map_cons, h2]⟩
/-- sorted(the set of zs): tuples of zs, one for each datum -/
def rSortN (K : PySem.W.Frag) (w : World) (α : Type) [DecidableEq α] [OrdD α] [DKey α] : List V → Hp → VK → Prop := fun vs H Q => ∃ (a : Addr) (zs : List (Addr × α)) (o : HO), vs = [.ref a] ∧ H a = some o ∧ o = SetN w a (firstsK (zs.map nkz)) ∧ (∀ z ∈ zs, Dt K H (.ref z.1) z.2) ∧ zs.length ≤ 60 ∧
  ∀ (cs : List (Addr × α)) (p : Addr), (∀ c ∈ cs, c ∈ zs) → cs.map (·.2) = setO (zs.map (·.2)) → H p = none → Q (.ref p) (upd H p (.lst (cs.map fun c => .ref c.1)))
theorem cr_sortN [Srt α] (hc : X.calm = true) (hu : X.A.units + 70 < cLine) (hz : Datum.depth α ≤ 8 := by decide) : CallR X (.builtin "sorted") (rSortN X.K X.w α) := by
  intro pins s σ H vs us Q I r h
  obtain ⟨a, zs, oS, rfl, ha, rfl, hd, hn, q⟩ := h
  obtain ⟨M, es, ep, t, pM, ⟨o, ho, hex, hdat⟩, ent, tab, led, room, few⟩ : Kset X.w s.heap a (firstsK (zs.map nkz)) := (I.hok a _ ha).1
  rw [Vals.ref1 r]
  -- the members, as data
  have back : ∀ L : List (Addr × NestedKey), (∀ z ∈ L, z ∈ zs.map nkz) → ∃ N : List (Addr × α), N.map nkz = L ∧ ∀ c ∈ N, c ∈ zs := by
    intro L
    induction L with
    | nil => exact fun _ => ⟨[], rfl, fun c hc => by cases hc⟩
    | cons z L ih =>
      intro hL
      obtain ⟨N, e, m⟩ := ih fun y hy => hL y (List.mem_cons_of_mem _ hy)
      obtain ⟨c, mc, ec⟩ := List.mem_map.mp (hL z List.mem_cons_self)
      refine ⟨c :: N, by rw [List.map_cons, e, ec], fun d hd' => ?_⟩
      rcases List.mem_cons.mp hd' with rfl | hd'
      · exact mc
      · exact m d hd'
  have size : es.size = M.length := by
    have z := congrArg List.length ent
    rw [Array.length_toList, List.length_map] at z
    exact z
  have fit : t.fits es.size = true := fits_of tab (by rw [List.length_map]; exact size) (by rw [size]; omega)
  refine Calls.call_function_entry kind_sorted plain_sorted entry_sorted (args_sorted1 _) ?_
  unfold Builtin.«sorted»
  refine wpAny_bind (m := checkCount "sorted" 1 1 _) (wpAny_pure ?_)
  refine wpAny_bind (collect_set (A := X.A.in1) (I.ok.hd hc) ⟨o, ho, hex.1, hdat⟩ fit (by rw [size]; unfold scanBound; omega) tab.ris led fun s1 vs k1 hz1 g1 o1 pm => ?_)
  have pv : vs.Perm (M.map fun z => Value.ref z.1) := by
    rw [ent, List.map_map] at pm
    exact pm
  obtain ⟨M1, p1, e1⟩ := perm_back _ vs M pv
  obtain ⟨N, eN, mN⟩ := back M1 fun z hm => firstsK_sub z (pM.mem_iff.mp (p1.mem_iff.mp hm))
  have evs : vs = N.map fun c => Value.ref c.1 := by
    rw [e1, ← eN, List.map_map]
    rfl
  have nl : N.length = M.length := by
    have z := congrArg List.length eN
    rw [List.length_map] at z
    rw [z, p1.length_eq]
  have vl : vs.length ≤ sizeLine := by rw [evs, List.length_map, nl, sizeLine_eq]; omega
  refine wpAny_bind (wpAny_newList ?_ vl)
  have oL : (s1.heap.push (seqObj "list" vs.toArray 0)).get? s1.heap.objs.size = some (seqObj "list" vs.toArray 0) := Heap.get?_push_size _ rfl
  -- they read as data
  have rd : ∀ c ∈ N, ∃ as, Reads s.heap (.ref c.1) (Datum.toD c.2) as := fun c hc' => Dp.reads I _ (.ref c.1) (.ref c.1) (hd c (mN c hc')) rfl
  have keep : ∀ b ob, s.heap.get? b = some ob → (sortingHeap (s1.heap.push (seqObj "list" vs.toArray 0)) s1.heap.objs.size vs).get? b = some ob := fun b ob e => by
    have e2 := k1 b ob e
    exact sortingHeap_old (Nat.ne_of_lt (Heap.lt_size e2)) (Heap.get?_push_of_some _ e2)
  have each : ∀ N' : List (Addr × α), (∀ c ∈ N', c ∈ N) → EachIs (fun v (c : Addr × α) => v = Value.ref c.1 ∧ ∃ as, Reads (sortingHeap (s1.heap.push (seqObj "list" vs.toArray 0)) s1.heap.objs.size vs) v (Datum.toD c.2) as) (N'.map fun c => Value.ref c.1) N' := by
    intro N'
    induction N' with
    | nil => exact fun _ => .nil
    | cons c N' ih =>
      intro hN
      obtain ⟨as, r1⟩ := rd c (hN c List.mem_cons_self)
      exact .cons ⟨rfl, as, PyProof.Rows.Reads.keeps keep r1⟩ (ih fun d hd' => hN d (List.mem_cons_of_mem _ hd'))
  have ea := each N fun _ h => h
  rw [← evs] at ea
  have hal : AllAlike (N.map fun c => Datum.toD c.2) := AllAlike.of fun b b' => DatumOrd.alike b.2 b'.2
  have hk : Sortable (N.map fun c => Datum.toD c.2) := by
    have z := srt_all (N.map (·.2))
    rw [List.map_map] at z
    exact z
  have er := ea.mono fun _ _ h => h.2
  have eref := ea.mono fun _ _ h => h.1
  refine wpAny_bind (wpAny_holding (wpAny_call_entry slot_list_sort ⟨_, oL, rfl⟩ entry_list_sort
    (list_sort_vals (s := { s1 with heap := s1.heap.push (seqObj "list" vs.toArray 0) }) (κ := dataKind (sortingHeap (s1.heap.push (seqObj "list" vs.toArray 0)) s1.heap.objs.size vs) (N.map fun c => Datum.toD c.2)) oL
      (SortsAt.data (s := { s1 with heap := sortingHeap (s1.heap.push (seqObj "list" vs.toArray 0)) s1.heap.objs.size vs }) (each_map (R := fun v d => ∃ as, Reads (sortingHeap (s1.heap.push (seqObj "list" vs.toArray 0)) s1.heap.objs.size vs) v d as) (fun c : Addr × α => Datum.toD c.2) er) hal hk (fun d hd' => by
        obtain ⟨c, _, rfl⟩ := List.mem_map.mp hd'
        have := Datum.depth_le c.2
        simp only [Around.in1_units]
        omega)) vl ⟨.none, rfl, ?_⟩) (args_list_sort _)))
  have out := sortVals_data (enc := fun c : Addr × α => Datum.toD c.2) false eref er hal
  have eout : sortVals (dataKind (sortingHeap (s1.heap.push (seqObj "list" vs.toArray 0)) s1.heap.objs.size vs) (N.map fun c => Datum.toD c.2)) false vs vs = (N.mergeSort (dataLe false fun c : Addr × α => Datum.toD c.2)).map fun c => Value.ref c.1 := by
    have gen : ∀ {us : List Value} {cs : List (Addr × α)}, EachIs (fun v (c : Addr × α) => v = Value.ref c.1) us cs → us = cs.map fun c => Value.ref c.1 := by
      intro us cs h
      induction h with
      | nil => rfl
      | cons h _ ih => rw [h, ih]; rfl
    exact gen out
  rw [eout]
  have pN : (N.mergeSort (dataLe false fun c : Addr × α => Datum.toD c.2)).Perm N := List.mergeSort_perm _ _
  have key : (N.mergeSort (dataLe false fun c : Addr × α => Datum.toD c.2)).map (·.2) = sortO (N.map (·.2)) := sort_maps (fun c : Addr × α => c.2) fun x _ y _ => (leO_data x.2 y.2).symm
  generalize N.mergeSort (dataLe false fun c : Addr × α => Datum.toD c.2) = cs at pN key
  obtain ⟨c1, hc1⟩ := sortedHeap_at (vs := vs) (out := (cs.map fun c => Value.ref c.1).toArray) oL
  have oldb : ∀ b u, s.heap.get? b = some u → (sortedHeap (s1.heap.push (seqObj "list" vs.toArray 0)) s1.heap.objs.size vs (cs.map fun c => Value.ref c.1).toArray).get? b = some u := fun b u e => by
    have z := k1 b u e
    have lt := Heap.lt_size z
    rw [sortedHeap_old (Nat.ne_of_lt lt) (by rw [size_push']; exact Nat.lt_succ_of_lt lt)]
    exact Heap.get?_push_of_some _ z
  have hnone : H s1.heap.objs.size = none := I.hok.fresh hz1
  have hlen : (cs.map fun c => V.ref c.1).length ≤ sizeLine := by rw [List.length_map, pN.length_eq, nl, sizeLine_eq]; omega
  have vv : Vals (cs.map fun c => V.ref c.1) (cs.map fun c => Value.ref c.1) := by
    have gen : ∀ cs : List (Addr × α), Vals (cs.map fun c => V.ref c.1) (cs.map fun c => Value.ref c.1) := by
      intro cs
      induction cs with
      | nil => exact .nil
      | cons c cs ih => exact .cons rfl ih
    exact gen cs
  have J : Inv X pins σ (upd H s1.heap.objs.size (.lst (cs.map fun c => V.ref c.1))) { s1 with heap := sortedHeap (s1.heap.push (seqObj "list" vs.toArray 0)) s1.heap.objs.size vs (cs.map fun c => Value.ref c.1).toArray } := by
    have J0 : Inv X pins σ (upd H s1.heap.objs.size (.lst (cs.map fun c => V.ref c.1))) { s with heap := sortedHeap (s1.heap.push (seqObj "list" vs.toArray 0)) s1.heap.objs.size vs (cs.map fun c => Value.ref c.1).toArray, gens := s1.gens, drawn := s1.drawn, toks := s1.toks } :=
      I.call (ch := []) (Un.laid oldb hz1 hnone) (I.hok.laid oldb hz1 ⟨hlen, cs.map fun c => Value.ref c.1, c1, vv, hc1⟩) (by rw [g1]; exact I.bare) (fun _ z => nomatch z)
    have e : ({ s1 with heap := sortedHeap (s1.heap.push (seqObj "list" vs.toArray 0)) s1.heap.objs.size vs (cs.map fun c => Value.ref c.1).toArray } : Shared) = { s with heap := sortedHeap (s1.heap.push (seqObj "list" vs.toArray 0)) s1.heap.objs.size vs (cs.map fun c => Value.ref c.1).toArray, gens := s1.gens, drawn := s1.drawn, toks := s1.toks } := by
      cases s1
      cases s
      cases o1
      rfl
    rw [e]
    exact J0
  refine wpAny_pure ⟨_, rfl, .ref s1.heap.objs.size, _, J, rfl, q cs _ (fun c hc' => mN c (pN.mem_iff.mp hc')) ?_ hnone⟩
  -- each once
  have ndN : (N.map (·.2)).Nodup := by
    have z : (M1.map (·.2)).Nodup := ((p1.trans pM).map (·.2)).nodup_iff.mpr (firstsK_nodup _)
    rw [← eN, List.map_map] at z
    have z2 : ((N.map (·.2)).map DKey.nk).Nodup := by
      rw [List.map_map]
      exact z
    exact List.Pairwise.of_map DKey.nk (fun _ _ hne e => hne (congrArg _ e)) z2
  have mem : ∀ x, x ∈ N.map (·.2) ↔ x ∈ zs.map (·.2) := fun x => by
    constructor
    · intro hx
      obtain ⟨c, hc', rfl⟩ := List.mem_map.mp hx
      exact List.mem_map.mpr ⟨c, mN c hc', rfl⟩
    · intro hx
      have hx2 : DKey.nk x ∈ (firstsK (zs.map nkz)).map (·.2) := firstsK_keys.mpr (by
        rw [List.map_map]
        obtain ⟨c, hc', rfl⟩ := List.mem_map.mp hx
        exact List.mem_map.mpr ⟨c, hc', rfl⟩)
      have hx3 : DKey.nk x ∈ M1.map (·.2) := ((p1.trans pM).map (·.2)).mem_iff.mpr hx2
      rw [← eN, List.map_map] at hx3
      obtain ⟨c, hc', e⟩ := List.mem_map.mp hx3
      have e' : DKey.nk c.2 = DKey.nk x := e
      exact List.mem_map.mpr ⟨c, hc', nk_inj e'⟩
  rw [key]
  exact setO_is ((sortO_perm _).nodup_iff.mpr ndN) (fun z => mem_sortO.trans (mem z)) (sortO_pw _)
end
end L2

/-! dict comprehensions for keys of any kind (HandS.DictComp has ints and texts) -/
namespace TfG2
open PySem PySem.Spec PyProof.Rows L2
/-- a kind of dict: the empty one, and what d[y] = z makes of a heap -/
structure Kd where
  e0 : HO
  put : Hp → Addr → V → V → Hp → Prop
/-- .. as the machine has it, with room for u units -/
structure KdOk (k : Kd) : Prop where
  new : ∀ {P : Program} {w : World} {H : Hp} (h : Heap), sysModules < h.objs.size → ObjOk P w H (h.push { cls := .type "dict", data := .dict #[] }) h.objs.size k.e0
  set : ∀ {Y : Cx} {pins : List (Addr × Obj)} {σ : L2.St} {H H' : Hp} {s : Shared} {E : Value → Shared → Prop} {d : Addr} {y z : V} {u r : Value} {Q : Unit → Shared → Prop}, Y.A.units + 1 < cLine → Inv Y pins σ H s → k.put H d y z H' → RelV y u → RelV z r →
    (∀ s', Inv Y pins σ H' s' → Q () s') → wpAny (model Y.prog Y.w) Y.A (dictSet d u r) Q E s
/-- keys: tuples of ints and texts -/
def kT : Kd := ⟨.dT [], fun H d y z H' => ∃ kvs k b, y = .ref b ∧ H d = some (.dT kvs) ∧ H b = some (.tup (k.map kV)) ∧ kvs.length < sizeLine ∧ H' = upd H d (.dT (putK kvs k z))⟩
theorem kT_ok : KdOk kT where
  new h hb := dt_empty h hb
  set := fun {Y pins σ H H' s E d y z u r Q} hu I g ry rz q => by
    obtain ⟨kvs, k, b, rfl, hd, hb, hl, rfl⟩ := g
    obtain rfl : u = Value.ref b := ry
    obtain ⟨z1, hs, xs, rel, dd⟩ := dt_of I.hok hd
    have l1 : xs.length ≤ sizeLine := by rw [← Paired.length rel]; exact z1
    have l2 : (putK kvs k z).length ≤ sizeLine := by have := length_putK kvs k z; omega
    refine wpAny_dictSet_heap (hsz := l1) (show Y.A.units < cLine by omega) (key_of I.hok hb) dd fun h' dd' sb => q _ ?_
    obtain ⟨o, es, ep, h1, h2, h3, h4, _, h5⟩ := dd'
    refine d_write I (by rw [hd]; exact True.intro) sb ⟨o, h1⟩ ⟨l2, hs, _, (rel.put k hb rz).keeps fun c ys ec => ?_, o, es, ep, h1, h2, h3, h4, h5⟩
    rw [upd_ne (ne_of ec hd (fun z => nomatch z))]
    exact ec
/-- {y: z for target in iter if ..}: D the new dict -/
def tDg (k : Kd) (wi : TI) (g : TG) (tt : TT) (tk tv : TE) (vs : List Nat) : TE := fun σ H Q => wi σ H fun J H1 => ∀ D, H1 D = none → ∃ W : Nat → Nat → Hp → Prop, (∃ m, W 0 m (upd H1 D k.e0)) ∧ ∀ i m H, W i m H →
  (J.stop i H ∧ Q (.ref D) H) ∨ (J.go i H ∧ ∃ Nx : Hp → Prop, (∀ H', Nx H' → ∃ m', m' < m ∧ W (i + 1) m' H') ∧ ∀ x H', J.yld i H x H' → g x (wipe σ vs) H' fun σ2 H2 => wipe σ2 vs = wipe σ vs ∧ tt σ2 H2 fun b H3 =>
    if b = true then tk σ2 H3 fun y H4 => tv σ2 H4 fun z H5 => ∃ H6, k.put H5 D y z H6 ∧ Nx H6 else Nx H3)
section
variable {X : Cx} {kx vx tg iter : Expr} {ifs : List Expr} {scope : Scope} {own : List (Str × Nat)} {pos : Pos} {wi : TI} {g : TG} {tt : TT} {tk tv : TE} {k : Kd}
/-- the block of the comprehension -/
abbrev Blk (X : Cx) (scope : Scope) (s : Shared) (H : Hp) (fp : List Addr) : Cx := X.blk s H scope (compEnvC scope (cellsFrom (s.heap.objs.size + 1) scope.names (cloFrom X.env.cells scope.names [])) s.heap.objs.size X.env) fp
theorem blk_fp {s : Shared} {H H' : Hp} {fp : List Addr} {σ' : L2.St} {s' : Shared} (I : Inv (Blk X scope s H fp) [] σ' H' s') (n : ∀ b ∈ fp, H' b = none) : ∀ b ∈ fp, FpOk (Blk X scope s H fp) [] H' b := fun b hb =>
  ⟨n b hb, (I.ok.exf b hb).1, I.ok.exfs b hb, .inl hb, fun x c e => (I.ok.exf b hb).2 x c e, fun p hp => absurd (show p ∈ ([] : List (Addr × Obj)) ++ [] from hp) (by simp)⟩
/-- one item is taken -/
theorem turn_go {J : It} {fp : List Addr} {it D : Addr} {tn : Nat → Heap → Prop} {s0 s : Shared} {H0 H : Hp} {σ : L2.St} {i : Nat} {Nx : Hp → Prop} {E : Value → Shared → Prop} {G : Shared → Prop} (ok : KdOk k) (hu : X.A.units + 1 < cLine) (hc : X.calm = true)
    (T : Turn X.prog X.w X.K tg J fp it tn) (pg : PG (Blk X scope s0 H0 fp) tg g) (pt : PTs (Blk X scope s0 H0 fp) ifs tt) (pk : PE (Blk X scope s0 H0 fp) kx tk) (pv : PE (Blk X scope s0 H0 fp) vx tv)
    (I : Inv (Blk X scope s0 H0 fp) [] (wipe σ (own.map (·.2))) H s) (st : tn i s.heap) (nf : ∀ b ∈ fp, H b = none) (go : J.go i H)
    (step : ∀ x H', J.yld i H x H' → g x (wipe σ (own.map (·.2))) H' fun σ2 H2 => wipe σ2 (own.map (·.2)) = wipe σ (own.map (·.2)) ∧ tt σ2 H2 fun b H3 => if b = true then tk σ2 H3 fun y H4 => tv σ2 H4 fun z H5 => ∃ H6, k.put H5 D y z H6 ∧ Nx H6 else Nx H3)
    (fin : ∀ s' H', Inv (Blk X scope s0 H0 fp) [] (wipe σ (own.map (·.2))) H' s' → tn (i + 1) s'.heap → (∀ b ∈ fp, H' b = none) → Nx H' → G s') :
    wpAny (model X.prog X.w) X.A (pyNext (.ref it)) (fun r s₁ => ∃ v, r = some v ∧ wpAny (model X.prog X.w) X.A (letOwnedTupleGo tg (.ref it) v) (fun _ s₂ => wpAny (model X.prog X.w) X.A (assign tg (Blk X scope s0 H0 fp).env v) (fun _ s₃ =>
      wpAny (model X.prog X.w) X.A (forIn ifs true fun c r => if r = true then do let ok ← isTrue c (Blk X scope s0 H0 fp).env (eval c (Blk X scope s0 H0 fp).env); pure (ForInStep.yield ok) else pure (ForInStep.yield r)) (fun b s₄ =>
        if b = true then wpAny (model X.prog X.w) X.A (eval kx (Blk X scope s0 H0 fp).env) (fun y s₅ => wpAny (model X.prog X.w) X.A (eval vx (Blk X scope s0 H0 fp).env) (fun z s₆ => wpAny (model X.prog X.w) X.A (dictSet D y z) (fun _ s₇ => G s₇) E s₆) E s₅) E s₄ else G s₄) E s₃) E s₂) E s₁) E s := by
  refine thnF (T.item (Blk X scope s0 H0 fp) rfl rfl rfl hc i [] s _ H (fun _ _ => False) I (blk_fp I nf) st go) fun r s1 ⟨u, e, h1⟩ => ⟨u, e, ?_⟩
  refine thnF h1 fun _ s2 ⟨x, H2, I2, rx, y2, st2, n2⟩ => ?_
  have P2 := I2.pinned (blk_fp I2 n2) (T.obj _ _ st2)
  refine thnF (pg.run _ s2 _ H2 x u _ P2 rx (step x H2 y2)) fun _ s3 ⟨σ3, H3, I3, w3, q3⟩ => ?_
  refine thnF (pt.run _ s3 σ3 H3 _ I3 q3) fun b s4 ⟨H4, I4, q4⟩ => ?_
  have leave : ∀ {s' : Shared} {H' : Hp}, Inv (Blk X scope s0 H0 fp) ([] ++ pinsAt fp s2.heap) σ3 H' s' → Nx H' → G s' := fun {s' H'} I' nx => by
    have pin : ∀ b ∈ fp, ∀ o, s2.heap.get? b = some o → s'.heap.get? b = some o ∧ H' b = none := fun b hb o e =>
      have z := I'.pin (b, o) (List.mem_append_right _ (List.mem_append_right _ (mem_pinsAt hb e)))
      ⟨z.1, z.2.1⟩
    refine fin s' H' ((I'.unpinned (pins := [])).weak (by rw [← w3, wipe_length]) fun j v e => ?_) (T.keep _ _ _ st2 fun b hb o e => (pin b hb o e).1) (fun b hb => ?_) nx
    · rw [← w3] at e
      exact (wipe_some e).1
    · obtain ⟨o, e, _⟩ := T.obj _ _ st2 b hb
      exact (pin b hb o e).2
  cases b with
  | false =>
    rw [if_neg Bool.false_ne_true] at q4 ⊢
    exact leave I4 q4
  | true =>
    rw [if_pos rfl] at q4 ⊢
    refine thnF (pk.run _ s4 σ3 H4 _ I4 q4) fun _ s5 ⟨y, H5, I5, r5, q5⟩ => ?_
    refine thnF (pv.run _ s5 σ3 H5 _ I5 q5) fun _ s6 ⟨z, H6, I6, r6, H7, q6, nx⟩ => ?_
    exact ok.set (Y := Blk X scope s0 H0 fp) hu I6 q6 r5 r6 fun s7 I7 => leave I7 nx
theorem pe_dg (ok : KdOk k) (hu : X.A.units + 1 < cLine) (hc : X.calm = true) (hN : X.N.Nodup) (hi : PI X tg iter wi) (bo : BlkOk X.N X.env.scope scope own)
    (hg : ∀ (s : Shared) (H : Hp) (C : Addr) (cl : List (Str × Addr)) (fp : List Addr), PG (X.blk s H scope (compEnvC scope cl C X.env) fp) tg g)
    (ht : ∀ (s : Shared) (H : Hp) (C : Addr) (cl : List (Str × Addr)) (fp : List Addr), PTs (X.blk s H scope (compEnvC scope cl C X.env) fp) ifs tt)
    (hk : ∀ (s : Shared) (H : Hp) (C : Addr) (cl : List (Str × Addr)) (fp : List Addr), PE (X.blk s H scope (compEnvC scope cl C X.env) fp) kx tk)
    (hv : ∀ (s : Shared) (H : Hp) (C : Addr) (cl : List (Str × Addr)) (fp : List Addr), PE (X.blk s H scope (compEnvC scope cl C X.env) fp) vx tv)
    (hs : ∀ x, foldedSetIterable iter X.env x = pure x := by intro _; rfl) : PE X (.DictComp kx vx [⟨tg, iter, ifs, 0⟩] scope pos) (tDg k wi g tt tk tv (own.map (·.2))) := by
  refine ⟨fun pins s σ H Q I h => ?_⟩
  rw [arm_eval_DictComp]
  have cells : ∀ y ∈ scope.names, y.2 = .free → ∃ c, X.env.cells.lookup y.1 = some c := fun y hy e => (bo.free y hy e).elim (fun z => I.ok.has _ (.inl z)) fun z => I.ok.has _ (.inr z)
  refine wpAny_comprehension_free (use := none) rfl hs (closure_ok cells) bo.kind (fun y hy e => by rw [bo.uniq y hy, e]) (thn (hi.run pins s σ H _ I h) fun _ s1 hx => thn hx fun _ s2 h2 => ?_)
  obtain ⟨it, fp, tn, J, H2, rfl, I2, T, st2, f2, q⟩ := h2
  refine wpAny_newObj_type (newEnv_comp ?_)
  obtain ⟨W, ⟨m0, w0⟩, turn⟩ := q s2.heap.objs.size (I2.hok.fresh (Nat.le_refl _))
  have I3 : Inv X pins σ (upd H2 s2.heap.objs.size k.e0) { s2 with heap := s2.heap.push { cls := .type "dict", data := .dict #[] } } := I2.laid (t' := s2.toks) (fun b o e => Heap.get?_push_of_some _ e) (Nat.le_refl _) (ok.new s2.heap I2.big)
  have low : ∀ b ∈ fp, b < s2.heap.objs.size := fun b hb => let ⟨_, e, _⟩ := T.obj _ _ st2 b hb; Heap.lt_size e
  have f3 : ∀ b ∈ fp, FpOk X pins (upd H2 s2.heap.objs.size k.e0) b ∧ b < (s2.heap.push { cls := .type "dict", data := .dict #[] }).objs.size := fun b hb =>
    ⟨⟨by rw [upd_ne (Nat.ne_of_lt (low b hb))]; exact (f2 b hb).1, (f2 b hb).2⟩, by rw [Heap.size_push]; exact Nat.lt_succ_of_lt (low b hb)⟩
  have st3 : tn 0 (s2.heap.push { cls := .type "dict", data := .dict #[] }) := T.keep _ _ _ st2 fun b _ o e => Heap.get?_push_of_some _ e
  generalize s2.heap.objs.size = D at w0 turn I3 f3 ⊢
  generalize upd H2 D k.e0 = H3 at w0 I3 f3
  generalize hs3 : ({ s2 with heap := s2.heap.push { cls := .type "dict", data := .dict #[] } } : Shared) = s3 at I3 f3 st3 ⊢
  have I4 := block_start (fp := fp) I3 bo hN (by rw [← hs3]; exact f3)
  have st4 : tn 0 (pushCells (s3.heap.push { cls := .type "dict", data := .dict #[] }) scope.names) := T.keep _ _ _ (by rw [← hs3]; exact st3) fun b _ o e => pushCells_keeps _ _ _ _ (Heap.get?_push_of_some _ e)
  have loop : codeAny (model X.prog X.w) X.A (.compLoop (.DictComp kx vx [⟨tg, iter, ifs, 0⟩] scope pos) 0 (.ref it) (.ref D) (Blk X scope s3 H3 fp).env) (compPost (model X.prog X.w) X.A X.xe none (EP X pins σ Q) (.ref D) s3.heap.objs.size) { s3 with heap := pushCells (s3.heap.push { cls := .type "dict", data := .dict #[] }) scope.names } := by
    refine compLoop_anyD (fun n s' => ∃ i H', Inv (Blk X scope s3 H3 fp) [] (wipe σ (own.map (·.2))) H' s' ∧ tn i s'.heap ∧ (∀ b ∈ fp, H' b = none) ∧ W i n H') ?_ m0 ⟨0, H3, I4, st4, fun b hb => (f3 b hb).1.1, w0⟩
    rintro n s5 ⟨i, H5, I5, st5, n5, w5⟩
    rcases turn i n H5 w5 with ⟨stop, qq⟩ | ⟨go, Nx, hNx, step⟩
    · refine thnF (T.done (Blk X scope s3 H3 fp) rfl rfl rfl hc i [] s5 _ H5 (fun _ _ => False) I5 (blk_fp I5 n5) st5 stop) fun r s6 ⟨er, I6⟩ => ?_
      subst er
      have I7 : Inv X pins σ H5 s6 := I3.call' (ch := fp) I6.os I6.base I6.hok I6.bare fun b hb => ⟨(f3 b hb).1.2.2.2.1, (f3 b hb).1.2.1, (f3 b hb).1.2.2.2.2.1, (f3 b hb).1.2.2.2.2.2⟩
      have nC : H5 s3.heap.objs.size = none := I6.free
      obtain ⟨m, hn, _⟩ := I6.loc
      obtain ⟨c0, c1, c2, c3, c4, c5⟩ := I3.fpOk (Nat.le_refl _) nC
      exact ⟨m, hn, fun h'' sb => ⟨.ref D, H5, I7.turned (t' := s6.toks) (fun b o hb e => (sb.2 b hb).trans e) c0 c1 c3 c4 c5, rfl, qq⟩⟩
    · refine wpAny_mono (turn_go (G := fun s' => ∃ m, m < n ∧ ∃ i H', Inv (Blk X scope s3 H3 fp) [] (wipe σ (own.map (·.2))) H' s' ∧ tn i s'.heap ∧ (∀ b ∈ fp, H' b = none) ∧ W i m H') ok hu hc T (hg ..) (ht ..) (hk ..) (hv ..) I5 st5 n5 go step fun s' H' I' st' n' nx => ?_) (fun r s6 ⟨v, er, z⟩ => ?_) fun _ _ z => z
      · obtain ⟨m', hm, w'⟩ := hNx H' nx
        exact ⟨m', hm, i + 1, H', I', st', n', w'⟩
      · subst er
        exact z
  exact codeAny_compStart_dict loop (T.self X.A 0 _ _ _ st4 loop)
end
end TfG2

/-! defs by their names; what stays while lists change and dicts are locked; tuples that are tracked -/
namespace L2
open PySem PySem.Spec PyProof.Rows PySem.W PySem.SeqAt
/-- a def that does not raise, by its name -/
def CdN (P : Program) (w : World) (K : PySem.W.Frag) (mg : Str → Option Value) (base : Heap) (k : Nat) (x : Str) (ps : List Str) (sp : Sp) : Prop := ∃ (f : Addr) (fd : FuncData), FnOk P w K mg base CX0 k f fd ps sp ∧ Binds K fd ps [] ∧ mg x = some (.ref f) ∧ PySem.W.keepIn K (.ref f) = true
theorem CdN.imp {P : Program} {w : World} {K : PySem.W.Frag} {mg : Str → Option Value} {base : Heap} {k : Nat} {x : Str} {ps : List Str} {sp sp' : Sp} (h : CdN P w K mg base k x ps sp) (i : ∀ vs H Q E, sp' vs H Q E → sp vs H Q E) : CdN P w K mg base k x ps sp' := by
  obtain ⟨f, fd, G, r⟩ := h
  exact ⟨f, fd, G.imp i, r⟩
theorem pe_cdn {X : Cx} {k : Nat} {x : Str} {ps : List Str} {sp : Sp} {e : Expr} {es : List Expr} {t : TA} {p pos : Pos} (F : CdN X.prog X.w X.K X.mg X.base k x ps sp) (hr : Room k X.A) (ha : PA X (e :: es) t) (hg : Gl X x := by rfl) (hdb : (x == ("__debug__" : Str)) = false := by decide)
    (he : starEach (e :: es) X.env = (false, eval e X.env) :: starEach es X.env := by rfl) (hpl : (backTo pos (starEach es X.env)).any (·.1) = false := by rfl) : PE X (.Call (.Name x p) (e :: es) [] pos) (tCall sp [] E0 t) := by
  obtain ⟨f, fd, G, b, g, kp⟩ := F
  exact pe_call G hr hg g kp b .nil pass0 ha hdb he hpl
/-- a method that does not raise, of the class at C -/
def MtN (P : Program) (w : World) (K : PySem.W.Frag) (mg : Str → Option Value) (base : Heap) (k : Nat) (C : Addr) (m : Str) (ps : List Str) (sp : Sp) : Prop := ∃ (f : Addr) (fd : FuncData), FnOk P w K mg base CX0 k f fd ps sp ∧ Binds K fd ps [] ∧ Meth K C m f
/-- a property -/
def PpN (P : Program) (w : World) (K : PySem.W.Frag) (mg : Str → Option Value) (base : Heap) (k : Nat) (C : Addr) (m : Str) (sp : Sp) : Prop := ∃ (p f : Addr) (fd : FuncData), FnOk P w K mg base CX0 k f fd ["self"] sp ∧ Binds K fd ["self"] [] ∧ PropOf K C m p f
/-- a special method -/
def OwN (P : Program) (w : World) (K : PySem.W.Frag) (mg : Str → Option Value) (base : Heap) (k : Nat) (C : Addr) (m : Str) (sp : Sp) : Prop := ∃ f : Addr, FnR P w K mg base CX0 k f sp ∧ OwnM K C m f
/-- a class method of the class at C -/
def CmN (P : Program) (w : World) (K : PySem.W.Frag) (mg : Str → Option Value) (base : Heap) (k : Nat) (C : Addr) (m : Str) (sp : Sp) : Prop := ∃ (mc : Value) (p g : Addr), ClX.CRead K C mc ∧ ClX.CMet K C mc m p g ∧ FnR P w K mg base CX0 k g sp
section
variable {X : Cx} {k : Nat} {C : Addr} {m : Str} {ps : List Str} {sp : Sp} {o e : Expr} {es : List Expr} {ta : TE} {t : TA} {apos pos : Pos}
theorem pe_mtn {pl : Sem Bool} (c : Cls X.K C) (F : MtN X.prog X.w X.K X.mg X.base k C m ps sp) (hr : Room k X.A) (he : PE X o ta) (ha : PA X (e :: es) t)
    (hst : starEach (e :: es) X.env = (false, eval e X.env) :: starEach es X.env := by rfl) (hpl : (backTo pos (starEach es X.env)).any (·.1) = false := by rfl)
    (ht : eval (.Call (.Attribute o m apos) (e :: es) [] pos) X.env = (do
      let ov ← eval o X.env
      standAt apos.atName
      let (f, first) ← holding [ov] (getMethod ov m pl)
      callWith pos f first (backTo pos (starEach (e :: es) X.env)) (backToKw pos (keywordEach [] X.env))) := by rfl) : PE X (.Call (.Attribute o m apos) (e :: es) [] pos) (tMeth C m sp [] E0 ta t) := by
  obtain ⟨f, fd, G, b, M⟩ := F
  exact pe_meth he c M G hr b .nil pass0 ha hst hpl ht
theorem pe_ppn (c : Cls X.K C) (F : PpN X.prog X.w X.K X.mg X.base k C m sp) (hr : Room (k + 1) X.A) (he : PE X o ta) (hab : attributeBase o m X.env (eval o X.env) = eval o X.env := by rfl) : PE X (.Attribute o m pos) (tProp C sp [] E0 ta) := by
  obtain ⟨p, f, fd, G, b, M⟩ := F
  exact pe_prop he c M G hr b .nil pass0 hab
end
/-! ### what stays -/
/-- tuples and instances -/
def Stays (o : HO) : Prop := (∃ xs, o = .tup xs) ∨ ∃ C dx fs, o = .ins C dx fs
/-- tuples and instances stay, and dicts can be read as before -/
structure Kq (H H' : Hp) : Prop where
  st : ∀ b o, Stays o → H b = some o → H' b = some o
  dk : ∀ b kvs, Rd H b (.dK kvs) → Rd H' b (.dK kvs)
theorem Kq.refl (H : Hp) : Kq H H := ⟨fun _ _ _ h => h, fun _ _ h => h⟩
theorem Kq.trans {H H1 H2 : Hp} (a : Kq H H1) (b : Kq H1 H2) : Kq H H2 := ⟨fun c o n h => b.st c o n (a.st c o n h), fun c o h => b.dk c o (a.dk c o h)⟩
theorem Same.kq {H H' : Hp} (s : Same H H') : Kq H H' := ⟨fun b o _ h => s b o h, fun b o h => s.le.dk h⟩
theorem Kq.lock {H : Hp} {d : Addr} {kvs : List (Key × V)} {od : Obj} (h : H d = some (.dK kvs)) : Kq H (upd H d (.frz od (.dK kvs))) := by
  refine ⟨fun b o s e => ?_, fun b ks r => (Le.lock h trivial).dk r⟩
  rw [upd_ne]
  · exact e
  · rintro rfl
    rw [h] at e
    cases e
    rcases s with ⟨xs, z⟩ | ⟨_, _, _, z⟩ <;> cases z
theorem Kq.unlock {H : Hp} {d : Addr} {kvs : List (Key × V)} {od : Obj} (h : H d = some (.frz od (.dK kvs))) : Kq H (upd H d (.dK kvs)) := by
  refine ⟨fun b o s e => ?_, fun b ks r => ?_⟩
  · rw [upd_ne]
    · exact e
    · rintro rfl
      rw [h] at e
      cases e
      rcases s with ⟨xs, z⟩ | ⟨_, _, _, z⟩ <;> cases z
  · by_cases c : b = d
    · subst c
      rcases r with r | ⟨q, r⟩
      · rw [h] at r; cases r
      · rw [h] at r
        cases r
        exact .inl upd_same
    · rcases r with r | ⟨q, r⟩
      · exact .inl (by rw [upd_ne c]; exact r)
      · exact .inr ⟨q, by rw [upd_ne c]; exact r⟩
/-- a list may change -/
theorem Kq.lst {H : Hp} {d : Addr} {xs : List V} {o : HO} (h : H d = some (.lst xs)) : Kq H (upd H d o) := by
  refine ⟨fun b u s e => ?_, fun b ks r => ?_⟩
  · rw [upd_ne]
    · exact e
    · rintro rfl
      rw [h] at e
      cases e
      rcases s with ⟨xs, z⟩ | ⟨_, _, _, z⟩ <;> cases z
  · have c : b ≠ d := by
      rintro rfl
      rcases r with r | ⟨q, r⟩ <;> (rw [h] at r; cases r)
    rcases r with r | ⟨q, r⟩
    · exact .inl (by rw [upd_ne c]; exact r)
    · exact .inr ⟨q, by rw [upd_ne c]; exact r⟩
theorem Nr.kq {d : Addr} {H H' : Hp} (n : Nr d H H') (h : Dice H d) : Kq H H' := by
  obtain ⟨a, b, c, _, e⟩ := h
  refine ⟨fun x u s z => n x u (fun q => ?_) z, fun x ks r => ?_⟩
  · subst q
    rw [e] at z
    cases z
    rcases s with ⟨xs, z⟩ | ⟨_, _, _, z⟩ <;> cases z
  · have ne : x ≠ d := by
      rintro rfl
      rcases r with r | ⟨q, r⟩ <;> (rw [e] at r; cases r)
    rcases r with r | ⟨q, r⟩
    · exact .inl (n _ _ ne r)
    · exact .inr ⟨q, n _ _ ne r⟩
/-- what a dict holds may change, where nobody looks: d was not there before -/
theorem Kq.new {H0 H : Hp} {d : Addr} {o : HO} (k : Kq H0 H) (h : H0 d = none) : Kq H0 (upd H d o) := by
  refine ⟨fun b u s e => ?_, fun b ks r => ?_⟩
  · rw [upd_ne (ne_of_none e h)]
    exact k.st b u s e
  · have ne : b ≠ d := by
      rintro rfl
      rcases r with r | ⟨q, r⟩ <;> (rw [h] at r; cases r)
    rcases k.dk b ks r with r | ⟨q, r⟩
    · exact .inl (by rw [upd_ne ne]; exact r)
    · exact .inr ⟨q, by rw [upd_ne ne]; exact r⟩
theorem Kq.tup {H H' : Hp} (k : Kq H H') {a : Addr} {xs : List V} (h : H a = some (.tup xs)) : H' a = some (.tup xs) := k.st _ _ (.inl ⟨_, rfl⟩) h
theorem Kq.ins {H H' : Hp} (k : Kq H H') {a C dx : Addr} {fs : List (Str × V)} (h : H a = some (.ins C dx fs)) : H' a = some (.ins C dx fs) := k.st _ _ (.inr ⟨_, _, _, rfl⟩) h
/-! ### data of tracked tuples -/
mutual
inductive Tr (H : Hp) : V → PyData → Prop
  | non : Tr H .non .none
  | bl (b : Bool) : Tr H (.bl b) (.bool b)
  | int (i : Int) : Tr H (.int i) (.int i)
  | str (x : Str) : Tr H (.str x) (.str x)
  | tup {a : Addr} {xs : List V} {ds : List PyData} : H a = some (.tup xs) → TrAll H xs ds → Tr H (.ref a) (.tuple ds)
inductive TrAll (H : Hp) : List V → List PyData → Prop
  | nil : TrAll H [] []
  | cons {v : V} {vs : List V} {d : PyData} {ds : List PyData} : Tr H v d → TrAll H vs ds → TrAll H (v :: vs) (d :: ds)
end
/-- tuples stay -/
def Kt (H H' : Hp) : Prop := ∀ b xs, H b = some (.tup xs) → H' b = some (.tup xs)
theorem Kt.trans {H H1 H2 : Hp} (a : Kt H H1) (b : Kt H1 H2) : Kt H H2 := fun c xs h => b c xs (a c xs h)
theorem Kq.kt {H H' : Hp} (k : Kq H H') : Kt H H' := fun _ _ h => k.tup h
/-- a dict may change -/
theorem kt_dk {H : Hp} {d : Addr} {kvs : List (Key × V)} {o : HO} (h : H d = some (.dK kvs)) : Kt H (upd H d o) := fun b xs e => by
  rw [upd_ne]
  · exact e
  · rintro rfl
    rw [h] at e
    cases e
mutual
theorem Tr.kt {H H' : Hp} (k : Kt H H') : ∀ {v : V} {d : PyData}, Tr H v d → Tr H' v d
  | _, _, .non => .non
  | _, _, .bl b => .bl b
  | _, _, .int i => .int i
  | _, _, .str z => .str z
  | _, _, .tup h r => .tup (k _ _ h) (TrAll.kt k r)
theorem TrAll.kt {H H' : Hp} (k : Kt H H') : ∀ {xs : List V} {ds : List PyData}, TrAll H xs ds → TrAll H' xs ds
  | _, _, .nil => .nil
  | _, _, .cons h r => .cons (Tr.kt k h) (TrAll.kt k r)
end
mutual
theorem Tr.kq {H H' : Hp} (k : Kq H H') : ∀ {v : V} {d : PyData}, Tr H v d → Tr H' v d
  | _, _, .non => .non
  | _, _, .bl b => .bl b
  | _, _, .int i => .int i
  | _, _, .str z => .str z
  | _, _, .tup h r => .tup (k.tup h) (TrAll.kq k r)
theorem TrAll.kq {H H' : Hp} (k : Kq H H') : ∀ {xs : List V} {ds : List PyData}, TrAll H xs ds → TrAll H' xs ds
  | _, _, .nil => .nil
  | _, _, .cons h r => .cons (Tr.kq k h) (TrAll.kq k r)
end
mutual
theorem Tr.dp {K : PySem.W.Frag} {H : Hp} : ∀ {v : V} {d : PyData}, Tr H v d → Dp K H v d
  | _, _, .non => .non
  | _, _, .bl b => .bl b
  | _, _, .int i => .int i
  | _, _, .str z => .str z
  | _, _, .tup h r => .tup (tup_of h) (TrAll.dp r)
theorem TrAll.dp {K : PySem.W.Frag} {H : Hp} : ∀ {xs : List V} {ds : List PyData}, TrAll H xs ds → DpAll K H xs ds
  | _, _, .nil => .nil
  | _, _, .cons h r => .cons (Tr.dp h) (TrAll.dp r)
end
/-- v, of tracked tuples, stands for x -/
def Tt {α : Type} [DecidableEq α] [Datum α] (H : Hp) (v : V) (x : α) : Prop := Tr H v (Datum.toD x)
abbrev Tts {α : Type} [DecidableEq α] [Datum α] (H : Hp) (vs : List V) (xs : List α) : Prop := Paired (Tt H) vs xs
section
variable {α β : Type} [DecidableEq α] [Datum α] [DecidableEq β] [Datum β] {K : PySem.W.Frag} {H H' : Hp}
theorem Tt.dt {v : V} {x : α} (h : Tt H v x) : Dt K H v x := Tr.dp h
theorem Tt.kq {v : V} {x : α} (h : Tt H v x) (k : Kq H H') : Tt H' v x := Tr.kq k h
theorem Tt.kt {v : V} {x : α} (h : Tt H v x) (k : Kt H H') : Tt H' v x := Tr.kt k h
theorem Tts.kq {vs : List V} {xs : List α} (h : Tts H vs xs) (k : Kq H H') : Tts H' vs xs := Paired.mapP h fun _ _ d => Tt.kq d k
theorem Tts.dts {vs : List V} {xs : List α} (h : Tts H vs xs) : Dts K H vs xs := Paired.mapP h fun _ _ d => Tt.dt d
theorem Tts.all : ∀ {vs : List V} {xs : List α}, Tts H vs xs → TrAll H vs (xs.map Datum.toD)
  | _, _, .nil => .nil
  | _, _, .cons h r => .cons h (Tts.all r)
theorem Tts.of_all : ∀ {vs : List V} {xs : List α}, TrAll H vs (xs.map Datum.toD) → Tts H vs xs
  | [], [], _ => .nil
  | [], _ :: _, h => by cases h
  | _ :: _, [], h => by cases h
  | _ :: _, _ :: _, .cons h r => .cons h (Tts.of_all r)
theorem tt_tup {a : Addr} {vs : List V} {xs : List α} (h : H a = some (.tup vs)) (r : Tts H vs xs) : Tt H (.ref a) (Tup.mk xs) := .tup h r.all
theorem tt_pair {a : Addr} {v u : V} {x : α} {y : β} (h : H a = some (.tup [v, u])) (r : Tt H v x) (q : Tt H u y) : Tt H (.ref a) (x, y) := .tup h (.cons r (.cons q .nil))
theorem tt_str {z : Str} : Tt H (.str z) z := .str z
theorem tts_strs : ∀ zs : List Str, Tts H (zs.map V.str) zs
  | [] => .nil
  | z :: zs => .cons tt_str (tts_strs zs)
theorem Tt.str {v : V} {z : Str} (h : Tt H v z) : v = .str z := by
  have h' : Tr H v (.str z) := h
  cases h'
  rfl
theorem Tt.pair {v : V} {p : α × β} (h : Tt H v p) : ∃ a u w, v = .ref a ∧ H a = some (.tup [u, w]) ∧ Tt H u p.1 ∧ Tt H w p.2 := by
  have h' : Tr H v (.tuple [Datum.toD p.1, Datum.toD p.2]) := h
  cases h' with
  | tup h r =>
    cases r with
    | cons h1 r =>
      cases r with
      | cons h2 r =>
        cases r
        exact ⟨_, _, _, rfl, h, h1, h2⟩
theorem Tt.tup {v : V} {xs : Tup α} (h : Tt H v xs) : ∃ a vs, v = .ref a ∧ H a = some (.tup vs) ∧ Tts H vs xs.items := by
  have h' : Tr H v (.tuple (xs.items.map Datum.toD)) := h
  cases h' with
  | tup hs rs => exact ⟨_, _, rfl, hs, .of_all rs⟩
theorem Tts.strs : ∀ {vs : List V} {zs : List Str}, Tts H vs zs → vs = zs.map V.str
  | _, _, .nil => rfl
  | _, _, .cons h r => by rw [Tt.str h, Tts.strs r, List.map_cons]
theorem Tts.length {vs : List V} {xs : List α} (r : Tts H vs xs) : vs.length = xs.length := Paired.length r
theorem Tts.append : ∀ {vs us : List V} {xs ys : List α}, Tts H vs xs → Tts H us ys → Tts H (vs ++ us) (xs ++ ys)
  | _, _, _, _, .nil, q => q
  | _, _, _, _, .cons h r, q => .cons h (Tts.append r q)
theorem Tts.at {vs : List V} {xs : List α} (r : Tts H vs xs) {i : Nat} {v : V} (e : vs[i]? = some v) : ∃ x, xs[i]? = some x ∧ Tt H v x := paired_get r e
/-- the pairs of a text and a text, by their tuples -/
theorem Tts.refs {β : Type} [DecidableEq β] [Datum β] : ∀ {vs : List V} {xs : List (α × β)}, Tts H vs xs → ∃ zs : List (Addr × (α × β)), vs = zs.map (fun z => V.ref z.1) ∧ xs = zs.map (·.2) ∧ ∀ z ∈ zs, Tt H (.ref z.1) z.2
  | _, _, .nil => ⟨[], rfl, rfl, fun z hz => by cases hz⟩
  | _, _, .cons (b := x) h r => by
    obtain ⟨zs, e1, e2, e3⟩ := Tts.refs r
    obtain ⟨a, u, w, rfl, _⟩ := Tt.pair h
    refine ⟨(a, x) :: zs, by rw [e1]; rfl, by rw [e2]; rfl, fun z hz => ?_⟩
    rcases List.mem_cons.mp hz with rfl | hz
    · exact h
    · exact e3 z hz
theorem tts_of {zs : List (Addr × α)} (h : ∀ z ∈ zs, Tt H (.ref z.1) z.2) : Tts H (zs.map fun z => V.ref z.1) (zs.map (·.2)) := by
  induction zs with
  | nil => exact .nil
  | cons z zs ih => exact .cons (h z List.mem_cons_self) (ih fun y hy => h y (List.mem_cons_of_mem _ hy))
end
/-- tracked plain data -/
def Pd (H : Hp) (x : V) : Prop := ∃ d : PyData, Tr H x d ∧ d.plain = true ∧ d.depth ≤ 40
theorem Pd.kq {H H' : Hp} {x : V} (h : Pd H x) (k : Kq H H') : Pd H' x := by
  obtain ⟨d, h1, h2⟩ := h
  exact ⟨d, Tr.kq k h1, h2⟩
theorem Tt.pd {α : Type} [DecidableEq α] [Datum α] {H : Hp} {v : V} {x : α} (h : Tt H v x) (hz : Datum.depth α ≤ 40 := by decide) : Pd H v := ⟨_, h, Datum.plain x, Nat.le_trans (Datum.depth_le x) hz⟩
theorem pd_str {H : Hp} {z : Str} : Pd H (.str z) := (tt_str (z := z)).pd
theorem pd_all {H : Hp} : ∀ {xs : List V}, (∀ x ∈ xs, Pd H x) → ∃ ds, TrAll H xs ds ∧ PyData.plainAll ds = true ∧ ds.length = xs.length
  | [], _ => ⟨[], .nil, rfl, rfl⟩
  | x :: xs, h => by
    obtain ⟨ds, h1, h2, h3⟩ := pd_all (xs := xs) fun y hy => h y (List.mem_cons_of_mem _ hy)
    obtain ⟨d, k1, k2, _⟩ := h x List.mem_cons_self
    exact ⟨d :: ds, .cons k1 h1, by rw [PyData.plainAll, k2, h2]; rfl, by rw [List.length_cons, List.length_cons, h3]⟩
theorem eqv_nil (ds : List PyData) : PyData.eqv (.list ds) (.list []) = ds.isEmpty := by
  cases ds <;> simp [PyData.eqv, PyData.eqvAll]
/-- l != [], l == [] -/
theorem cmp_nil {K : PySem.W.Frag} {H : Hp} {p : Addr} {xs : List V} {R : VK} (neg : Bool) (hp : SqL K H p xs) (hx : ∀ x ∈ xs, Pd H x) (h : ∀ H', Same H H' → R (.bl (if neg then !xs.isEmpty else xs.isEmpty)) H') :
    0 ≤ sizeLine ∧ ∀ t, H t = none → rEqP K neg (.ref p) (.ref t) (upd H t (.lst [])) R := by
  refine ⟨Nat.zero_le _, fun t nt => ?_⟩
  obtain ⟨ds, h1, h2, h3⟩ := pd_all hx
  have s := same_new (o := .lst []) nt
  refine ⟨.list ds, .list [], .lst (s.sql hp) (DpAll.le s.le h1.dp), .lst (lst_of upd_same) .nil, by simp only [PyData.plain]; exact h2, rfl, ?_, ?_⟩
  · refine Nat.le_trans (Nat.min_le_right _ _) ?_
    decide
  · rw [eqv_nil]
    have e : ds.isEmpty = xs.isEmpty := by
      cases ds <;> cases xs <;> simp at h3 <;> rfl
    rw [e]
    exact h _ s
/-- a comprehension whose target is of any form: behind it the slots are τ a -/
theorem lc_ong {α : Type} {J : It} {n : Nat} {G : Hp → Prop} {xs : List α} {h : α → V} (w : Walk J n G (YAt (xs.map h))) (hn : n = xs.length) {g : TG} {tt : TT} {te : TE} {vs : List Nat} {σ : St} {H1 : Hp} {D : Addr} {Qd : Hp → Prop} (τ : α → St) (keep : α → Bool) (F : α → V) (nD : H1 D = none)
    (hG : ∀ H, Same H1 H → G H) (hlen : xs.length < 100000)
    (hg : ∀ a ∈ xs, ∀ H, Same H1 H → ∀ R : St → Hp → Prop, R (τ a) H → g (h a) (wipe σ vs) H R) (hτ : ∀ a ∈ xs, wipe (τ a) vs = wipe σ vs)
    (ht : ∀ a ∈ xs, ∀ H, Same H1 H → TTo tt (τ a) H (keep a))
    (he : ∀ a ∈ xs, keep a = true → ∀ H, Same H1 H → TEo te (τ a) H (F a))
    (hd : ∀ H, Same H1 H → H D = some (.lst ((xs.filter keep).map F)) → Qd H) :
    ∃ W : Nat → Nat → Hp → Prop, (∃ m, W 0 m (upd H1 D (.lst []))) ∧ ∀ j m H, W j m H →
      (J.stop j H ∧ Qd H) ∨ (J.go j H ∧ ∃ Nx : Hp → Prop, (∀ H', Nx H' → ∃ m', m' < m ∧ W (j + 1) m' H') ∧ ∀ x H', J.yld j H x H' → g x (wipe σ vs) H' fun σ2 H2 => wipe σ2 vs = wipe σ vs ∧ tt σ2 H2 fun b H3 =>
        if b = true then te σ2 H3 fun y H4 => ∃ acc, H4 D = some (.lst acc) ∧ acc.length < sizeLine ∧ Nx (upd H4 D (.lst (acc ++ [y]))) else Nx H3) := by
  subst hn
  refine lc_it w (fun j H => Same H1 H ∧ H D = some (.lst (((xs.take j).filter keep).map F))) ⟨same_new nD, by rw [upd_same]; rfl⟩ (fun j H _ p => hG H p.1) (fun j x H H' hj p y => ?_) fun H p => hd H p.1 (by rw [p.2, List.take_length])
  obtain ⟨s, eD⟩ := p
  obtain ⟨rfl, ex⟩ := y
  rw [List.getElem?_map, List.getElem?_eq_getElem hj] at ex
  have ex' : h xs[j] = x := Option.some.inj ex
  subst ex'
  have mem : xs[j] ∈ xs := List.getElem_mem hj
  have tk : xs.take (j + 1) = xs.take j ++ [xs[j]] := by rw [List.take_add_one, List.getElem?_eq_getElem hj]; rfl
  refine hg _ mem H' s _ ⟨hτ _ mem, ht _ mem H' s _ fun H3 s3 => ?_⟩
  cases hk : keep xs[j] with
  | false =>
    refine iteF ⟨s.trans s3, ?_⟩
    rw [s3 _ _ eD, tk, List.filter_append, List.filter_cons_of_neg (by rw [hk]; exact Bool.false_ne_true), List.filter_nil, List.append_nil]
  | true =>
    refine iteT (he _ mem hk H3 (s.trans s3) _ fun H4 s4 => ⟨_, s4 _ _ (s3 _ _ eD), ?_, ?_, ?_⟩)
    · have l1 := List.length_filter_le keep (xs.take j)
      rw [List.length_map]
      rw [List.length_take] at l1
      exact Nat.lt_of_le_of_lt (show _ ≤ 100000 by omega) (by decide)
    · exact (s.trans (s3.trans s4)).mut nD
    · rw [upd_same, tk, List.filter_append, List.filter_cons_of_pos hk, List.filter_nil, List.map_append]
      rfl
/-- the ways of an expression meet again -/
theorem pe_mid {X : Cx} {e : Expr} {t : TE} (h : PE X e t) : PE X e (fun σ H Q => ∃ J : VK, t σ H J ∧ ∀ v H', J v H' → Q v H') :=
  ⟨fun pins s σ H Q I ⟨J, h1, h2⟩ => thn (h.run pins s σ H J I h1) fun u s1 ⟨v, H', I', r, q⟩ => ⟨v, H', I', r, h2 v H' q⟩⟩
theorem walk_keysY {d : Addr} {o : Obj} {kvs : List (Key × V)} : Walk (Itk d o kvs) kvs.length (fun H => H d = some (.frz o (.dK kvs))) (YAt (kvs.map fun kv => kV kv.1)) :=
  walk_keys.mono (fun _ h => h) fun i H x H' hi _ ⟨e, k, v, h1, h2⟩ => ⟨e, by rw [List.getElem?_map, h1, h2]; rfl⟩
end L2

/-! mixed(dice, items): the items in a drawn order -/
namespace Tf
open PySem PySem.Spec PyProof.Rows L2
abbrev sMixed : Stmt := top 34
theorem scMixed : FnScope ["_law_dice_here", "_law_items", "_law_left", "_law_found"] ["_law_dice_here", "_law_items"] (defScope sMixed) := ⟨rfl, rfl, rfl, by decide +kernel, rfl, by decide +kernel, by decide +kernel⟩
def spMix (K : PySem.W.Frag) : Sp := fun vs H Q _ => ∃ (d l : Addr) (zs : List V), vs = [.ref d, .ref l] ∧ Dice H d ∧ (SqL K H l zs ∨ SqT K H l zs) ∧ (∀ z ∈ zs, Pd H z) ∧ zs.length < 1000 ∧
  ∀ (ys : List V) (p : Addr) (H' : Hp), ys.Perm zs → Nr d H H' → Dice H' d → H p = none → H' p = some (.lst ys) → Q (.ref p) H'
theorem perm_erase {α : Type} : ∀ (l : List α) (i : Nat) (y : α), l[i]? = some y → (y :: l.eraseIdx i).Perm l
  | [], i, y, h => by simp at h
  | x :: l, 0, y, h => by
    have e : x = y := Option.some.inj h
    subst e
    exact List.Perm.refl _
  | x :: l, i + 1, y, h => by
    have ih := perm_erase l i y h
    show (y :: x :: l.eraseIdx i).Perm (x :: l)
    exact (List.Perm.swap x y _).trans (ih.cons x)
theorem era_map {α β : Type} (f : α → β) : ∀ (xs : List α) (j : Nat), (xs.map f).eraseIdx j = (xs.eraseIdx j).map f
  | [], _ => rfl
  | _ :: _, 0 => rfl
  | x :: xs, j + 1 => by
    show f x :: (xs.map f).eraseIdx j = f x :: (xs.eraseIdx j).map f
    rw [era_map f xs j]
section
variable {P : Program} {w : World} {K : PySem.W.Frag} {mg : Str → Option Value} {base : Heap}
theorem ok_mix {f fR : Addr} {fd fdR : FuncData} {k : Nat} (F : Fun K "_law_mixed" "_law_mixed" sMixed f fd) (FR : Fun K "_law_roll" "_law_roll" sRoll fR fdR) (bR : Binds K fdR ["_law_dice_here", "_law_upto"] []) (gR : mg "_law_roll" = some (.ref fR)) (mi : mg "int" = none) (ml : mg "len" = none) (mL : mg "list" = none) : FnOk P w K mg base CX0 (k + 2) f fd ["_law_dice_here", "_law_items"] (spMix K) := by
  have GR : FnOk P w K mg base CX0 (k + 1) fR fdR ["_law_dice_here", "_law_upto"] spRoll := ok_roll FR mi
  refine F.ok scMixed (fun vs H Q E h => ?_) (fun cdv A outer s H vs Q E hr h => ?_)
  · obtain ⟨d, l, zs, rfl, _⟩ := h
    rfl
  · obtain ⟨d, l, zs, rfl, hd, hl, nz, z1, q⟩ := h
    have hu : (A.deeper (envOfC "_law_mixed" (defScope sMixed) s.heap.objs.size f cdv)).units + 64 < cLine := by have := hr.un; omega
    refine ⟨_, pss_cons (ps_par (i := 2) (j := 3) (by rfl) scMixed.nd rfl rfl (by decide) rfl rfl (pa_cons (pe_callTy call_list_of (by rfl) mL (by decide +kernel) (pa_cons (pv 1) pa_nil)) (pa_cons (pe_lst pa_nil) pa_nil)) (by rfl))
      (pss_cons (ps_while PassesOwn.never (pt_cmpR (op_neP hu) (pv 2) (pe_lst pa_nil) (nomark _))
        (pss_one (ps_expr (pe_bm PySem.F.plainAttrs_list PySem.F.slot_list_append PySem.F.type_list_append mt_append (pv 3)
          (pa_cons (pe_bm PySem.F.plainAttrs_list PySem.F.slot_list_pop PySem.F.type_list_pop mt_popAt (pv 2) (pa_cons (pe_call GR hr (by rfl) gR FR.kp bR .nil pass0 (pa_cons (pv 0) (pa_cons (pe_callB call_len_seq (by rfl) ml PySem.boot_len (pa_cons (pv 2) pa_nil)) pa_nil))) pa_nil)) pa_nil)))))
      (pss_one (ps_ret (pv 3)))), ?_⟩
    refine ⟨.ref l, rfl, l, zs, rfl, hl, fun pl npl => ⟨Nat.zero_le _, fun pf npf => ⟨_, _, rfl, ?_⟩⟩⟩
    have s1 : Same H (upd H pl (.lst zs)) := same_new npl
    have nf1 : H pf = none := s1.free npf
    have npp : pl ≠ pf := fun e => by rw [← e, upd_same] at npf; cases npf
    obtain ⟨a0, b0, c0, ha0, hd0⟩ := hd
    have ndl : pl ≠ d := (ne_of_none hd0 npl).symm
    have ndf : pf ≠ d := (ne_of_none hd0 nf1).symm
    refine ⟨fun m σ H3 => ∃ ls fs : List V, m = ls.length ∧ σ = [some (.ref d), some (.ref l), some (.ref pl), some (.ref pf)] ∧ (fs ++ ls).Perm zs ∧ (∀ b o, b ≠ d → H b = some o → H3 b = some o) ∧ Dice H3 d ∧ H3 pl = some (.lst ls) ∧ H3 pf = some (.lst fs),
      ⟨zs.length, zs, [], rfl, rfl, List.Perm.refl _, ?_, ?_, ?_, ?_⟩, ?_⟩
    · intro b o nb e
      rw [upd_ne (ne_of_none e nf1), upd_ne (ne_of_none e npl)]
      exact e
    · refine ⟨a0, b0, c0, ha0, ?_⟩
      rw [upd_ne ndf.symm, upd_ne ndl.symm]
      exact hd0
    · rw [upd_ne npp, upd_same]
    · rw [upd_same]
    · rintro m σ H3 ⟨ls, fs, rfl, rfl, pm, kp, dc, el, ef⟩
      have kq3 : Kq H H3 := (show Nr d H H3 from kp).kq ⟨a0, b0, c0, ha0, hd0⟩
      have nls : ∀ z ∈ ls, Pd H3 z := fun z hz => (nz z (pm.mem_iff.mp (List.mem_append_right _ hz))).kq kq3
      have lenp := pm.length_eq
      rw [List.length_append] at lenp
      refine ⟨.ref pl, rfl, cmp_nil true (lst_of el) nls fun H4 st => ?_⟩
      have dc2 : Dice H4 d := dc.same st
      have el2 := st _ _ el
      have ef2 := st _ _ ef
      have kp2 : ∀ b o, b ≠ d → H b = some o → H4 b = some o := fun b o nb e => st _ _ (kp b o nb e)
      cases ls with
      | nil =>
        refine ⟨false, rfl, ?_⟩
        refine ⟨.ref pf, rfl, q fs pf H4 (by simpa using pm) kp2 dc2 nf1 ef2⟩
      | cons z ls =>
        have lz : (z :: ls).length = ls.length + 1 := rfl
        refine ⟨true, rfl, fun σ' H' => ∃ ls' fs' : List V, ls'.length < (z :: ls).length ∧ σ' = [some (.ref d), some (.ref l), some (.ref pl), some (.ref pf)] ∧ (fs' ++ ls').Perm zs ∧ (∀ b o, b ≠ d → H b = some o → H' b = some o) ∧ Dice H' d ∧ H' pl = some (.lst ls') ∧ H' pf = some (.lst fs'), fun σ' H' ⟨ls', fs', h1, h2, h3⟩ => ⟨ls'.length, h1, ls', fs', rfl, h2, h3⟩, ?_⟩
        refine ⟨.ref pf, rfl, .inl ⟨rfl, _, lst_of ef2⟩, .ref pl, rfl, .inl ⟨rfl, _, lst_of el2⟩, .ref d, rfl, .ref pl, rfl, pl, _, rfl, .inl (lst_of el2), d, _, rfl, dc2, ?_, ?_, fun r H5 r0 r1 nr dc5 => ?_⟩
        · rw [lz]; omega
        · rw [lz]
          have : (z :: ls).length = ls.length + 1 := rfl
          omega
        · rw [lz] at r1
          have el5 := nr pl _ ndl el2
          have ef5 := nr pf _ ndf ef2
          have hi : r.toNat < (z :: ls).length := by show r.toNat < ls.length + 1; omega
          have gi : (z :: ls)[r.toNat]? = some (z :: ls)[r.toNat] := List.getElem?_eq_getElem hi
          have pe := perm_erase (z :: ls) r.toNat _ (List.getElem?_eq_getElem hi)
          refine ⟨pl, _, r, r.toNat, _, rfl, rfl, el5, by omega, by omega, ?_, gi, ?_⟩
          · exact PySem.seqIndex_of r0 (by rw [lz]; exact r1)
          · refine ⟨pf, _, _, rfl, rfl, by rw [upd_ne npp.symm]; exact ef5, ?_, ?_⟩
            · exact small1000 (by omega)
            · refine ⟨(z :: ls).eraseIdx r.toNat, fs ++ [(z :: ls)[r.toNat]], ?_, rfl, ?_, ?_, ?_, ?_, ?_⟩
              · have := pe.length_eq
                rw [List.length_cons] at this
                omega
              · rw [List.append_assoc]
                exact (pe.append_left fs).trans pm
              · intro b o nb e
                have nbp : b ≠ pl := fun z => by rw [z, npl] at e; cases e
                have nbf : b ≠ pf := fun z => by rw [z, nf1] at e; cases e
                rw [upd_ne nbf, upd_ne nbp]
                exact nr b o nb (kp2 b o nb e)
              · obtain ⟨a5, b5, c5, h5, e5⟩ := dc5
                exact ⟨a5, b5, c5, h5, by rw [upd_ne ndf.symm, upd_ne ndl.symm]; exact e5⟩
              · rw [upd_ne npp, upd_same]
              · rw [upd_same]
end
end Tf

/-! the law's draws: words, languages -/
namespace L2
open PySem PySem.Spec PyProof.Rows
theorem cut_to (xs : List V) (c : Nat) : cutV xs none (some (c : Int)) = xs.take c := by
  unfold cutV
  rw [HT.sIx_none, HT.sIx_nat, List.drop_zero, Nat.sub_zero]
  rcases Nat.le_total c xs.length with h | h
  · rw [Nat.min_eq_left h]
  · rw [Nat.min_eq_right h, List.take_of_length_le h, List.take_of_length_le (Nat.le_refl _)]
theorem cut_from (xs : List V) (c : Nat) : cutV xs (some (c : Int)) none = xs.drop c := by
  unfold cutV
  rw [HT.sIx_none, HT.sIx_nat]
  rcases Nat.le_total c xs.length with h | h
  · rw [Nat.min_eq_left h, List.take_of_length_le]
    rw [List.length_drop]
    exact Nat.le_refl _
  · rw [Nat.min_eq_right h, Nat.sub_self, List.take_zero, List.drop_eq_nil_of_le h]
theorem cut_in (xs : List V) {a b : Nat} (h : b ≤ xs.length) (k : a ≤ b) : cutV xs (some (a : Int)) (some (b : Int)) = (xs.drop a).take (b - a) := by
  unfold cutV
  rw [HT.sIx_nat, HT.sIx_nat, Nat.min_eq_left h, Nat.min_eq_left (Nat.le_trans k h)]
end L2
namespace Tf
open PySem PySem.Spec PyProof.Rows L2 PySem.W
abbrev sWords : Stmt := top 35
abbrev sLg : Stmt := top 36
theorem scWords : FnScope ["_law_dice_here", "_law_upto", "_law_some"] ["_law_dice_here", "_law_upto"] (defScope sWords) := ⟨rfl, rfl, rfl, by decide +kernel, rfl, by decide +kernel, by decide +kernel⟩
theorem scLg : FnScope ["_law_dice_here", "_law_marks", "_law_sorts", "_law_names", "_law_total"] ["_law_dice_here", "_law_marks", "_law_sorts"] (defScope sLg) := ⟨rfl, rfl, rfl, by decide +kernel, rfl, by decide +kernel, by decide +kernel⟩
def words : List Str := ["a", "aa", "ab", "abc", "b", "ba", "by", "c", "language", "new", "of", "self", "x", "y", "z", "zzzzzzzz"]
theorem words_nd : words.Nodup := by decide +kernel
theorem words_ok : ∀ z ∈ words, nameB z = true := by decide +kernel
theorem words_len : words.length = 16 := rfl
/-- so many different words -/
def spWords : Sp := fun vs H Q _ => ∃ (d : Addr) (n : Nat), vs = [.ref d, .int n] ∧ Dice H d ∧ n ≤ 16 ∧
  ∀ (zs : List Str) (p : Addr) (H' : Hp), zs.Nodup → (∀ z ∈ zs, z ∈ words) → zs.length = n → Nr d H H' → Dice H' d → H p = none → H' p = some (.lst (zs.map V.str)) → Q (.ref p) H'
/-- a plain language with at most m marks and s kinds -/
structure PLg (m s : Nat) (ms ks : List Str) : Prop where
  wm : ∀ z ∈ ms, z ∈ words
  wk : ∀ z ∈ ks, z ∈ words
  cm : canon ms = ms
  ck : canon ks = ks
  lm : ms.length ≤ m
  l1 : 1 ≤ ks.length
  lk : ks.length ≤ s
  off : ∀ z ∈ ks, z ∉ ms
def spLg : Sp := fun vs H Q _ => ∃ (d : Addr) (m s : Nat), vs = [.ref d, .int m, .int s] ∧ Dice H d ∧ 1 ≤ s ∧ m + s ≤ 16 ∧
  ∀ (p pm pk : Addr) (ms ks : List Str) (H' : Hp), Nr d H H' → Dice H' d → H p = none → H pm = none → H pk = none → H' p = some (.tup [.ref pm, .ref pk]) → H' pm = some (.tup (ms.map V.str)) → H' pk = some (.tup (ks.map V.str)) → PLg m s ms ks → Q (.ref p) H'
theorem strs_back {ys : List V} {zs : List Str} (p : ys.Perm (zs.map V.str)) : ∃ us : List Str, ys = us.map V.str ∧ us.Perm zs := by
  obtain ⟨M, h1, h2⟩ := L2.perm_back V.str ys zs p
  exact ⟨M, h2, h1⟩
theorem dice_ne {H : Hp} {d p : Addr} (h : Dice H d) (n : H p = none) : d ≠ p := by
  obtain ⟨_, _, _, _, e⟩ := h
  exact ne_of_none e n
theorem nr_free {H H' : Hp} {d p : Addr} (n : Nr d H H') (h : Dice H' d) (e : H' p = none) : H p = none := by
  have q : p ≠ d := (dice_ne h e).symm
  cases c : H p with
  | none => rfl
  | some o =>
    rw [n p o q c] at e
    cases e
section
variable {P : Program} {w : World} {K : PySem.W.Frag} {mg : Str → Option Value} {base : Heap}
theorem ok_words {f : Addr} {fd : FuncData} {k : Nat} (F : Fun K "_law_words" "_law_words" sWords f fd) (GM : CdN P w K mg base k "_law_mixed" ["_law_dice_here", "_law_items"] (spMix K)) : FnOk P w K mg base CX0 (k + 1) f fd ["_law_dice_here", "_law_upto"] spWords := by
  refine F.ok scWords (fun vs H Q E h => ?_) (fun cdv A outer s H vs Q E hr h => ?_)
  · obtain ⟨d, n, rfl, _⟩ := h
    rfl
  · obtain ⟨d, n, rfl, hd, hn, q⟩ := h
    refine ⟨_, pss_cons (ps_set (i := 2) scWords.nd rfl (.inl rfl) (pe_lst (pa_cons pe_str (pa_cons pe_str (pa_cons pe_str (pa_cons pe_str (pa_cons pe_str (pa_cons pe_str (pa_cons pe_str (pa_cons pe_str (pa_cons pe_str (pa_cons pe_str (pa_cons pe_str (pa_cons pe_str (pa_cons pe_str (pa_cons pe_str (pa_cons pe_str (pa_cons pe_str pa_nil)))))))))))))))))) (pss_one (ps_ret (pe_slice sl_list (pe_cdn GM hr (pa_cons (pv 0) (pa_cons (pv 2) pa_nil))) po_none (po_some (pv 1))))), ?_⟩
    refine ⟨(by show 16 ≤ sizeLine; decide), fun l0 n0 => ?_⟩
    have s0 : Same H (upd H l0 (.lst (words.map V.str))) := same_new n0
    refine ⟨.ref d, rfl, .ref l0, rfl, d, l0, words.map V.str, rfl, hd.same s0, .inl (lst_of upd_same), fun z hz => ?_, by decide, fun ys p0 H1 pm nr1 dc1 np0 ep0 => ?_⟩
    · obtain ⟨y, _, rfl⟩ := List.mem_map.mp hz
      exact pd_str
    obtain ⟨us, rfl, pu⟩ := strs_back pm
    have nrA : Nr d H H1 := s0.nr.trans nr1
    refine ⟨.int n, rfl, n, rfl, p0, _, rfl, lst_of ep0, fun p1 n1 => ?_⟩
    rw [cut_to, ← List.map_take]
    have s1 := same_new (o := .lst ((us.take n).map V.str)) n1
    refine q (us.take n) p1 _ ((pu.nodup_iff.mpr words_nd).sublist (List.take_sublist _ _)) (fun z hz => pu.mem_iff.mp (List.mem_of_mem_take hz)) ?_ (nrA.trans s1.nr) (dc1.same s1) (nr_free nrA dc1 n1) upd_same
    rw [List.length_take, pu.length_eq, words_len]
    omega
theorem ok_lg {f : Addr} {fd : FuncData} {k : Nat} (F : Fun K "_law_language" "_law_language" sLg f fd) (GW : CdN P w K mg base k "_law_words" ["_law_dice_here", "_law_upto"] spWords) (GR : CdN P w K mg base k "_law_roll" ["_law_dice_here", "_law_upto"] spRoll) (mT : mg "tuple" = none) (mS : mg "sorted" = none) : FnOk P w K mg base CX0 (k + 1) f fd ["_law_dice_here", "_law_marks", "_law_sorts"] spLg := by
  refine F.ok scLg (fun vs H Q E h => ?_) (fun cdv A outer s H vs Q E hr h => ?_)
  · obtain ⟨d, m, n, rfl, _⟩ := h
    rfl
  · obtain ⟨d, m, n, rfl, hd, n1, mn, q⟩ := h
    refine ⟨_, pss_cons (ps_par (i := 3) (j := 4) (by rfl) scLg.nd rfl rfl (by decide) rfl rfl (pa_cons (pe_cdn GW hr (pa_cons (pv 0) (pa_cons (pe_op op_add (pv 1) (pv 2)) pa_nil))) (pa_cons (pe_cdn GR hr (pa_cons (pv 0) (pa_cons (pe_op op_add (pv 1) pe_int) pa_nil))) pa_nil)) (by rfl))
      (pss_one (ps_ret (pe_tup (pa_cons (pe_callTy call_tuple_of (by rfl) mT (by decide +kernel) (pa_cons (pe_callB cr_sortedS (by rfl) mS (by decide +kernel) (pa_cons (pe_slice sl_list (pv 3) po_none (po_some (pv 4))) pa_nil)) pa_nil)) (pa_cons (pe_callTy call_tuple_of (by rfl) mT (by decide +kernel) (pa_cons (pe_callB cr_sortedS (by rfl) mS (by decide +kernel) (pa_cons (pe_slice sl_list (pv 3) (po_some (pv 1)) (po_some (pe_op op_add (pe_op op_add (pv 1) pe_int) (pe_cdn GR hr (pa_cons (pv 0) (pa_cons (pv 2) pa_nil)))))) pa_nil)) pa_nil)) pa_nil))))), ?_⟩
    refine ⟨.ref d, rfl, .int m, rfl, .int n, rfl, m, n, rfl, rfl, d, m + n, (by rw [Int.natCast_add] <;> rfl), hd, mn, fun zs p0 H1 nd mz lz nr1 dc1 np0 e0 => ?_⟩
    have d0 : d ≠ p0 := dice_ne hd np0
    refine ⟨.ref d, rfl, .int m, rfl, m, 1, rfl, rfl, d, (m : Int) + 1, rfl, dc1, by omega, by omega, fun r H2 r0 r1 nr2 dc2 => ⟨_, _, rfl, ?_⟩⟩
    obtain ⟨c, rfl⟩ : ∃ c : Nat, r = (c : Int) := ⟨r.toNat, by omega⟩
    have e2 := nr2 _ _ d0.symm e0
    have nrA : Nr d H H2 := nr1.trans nr2
    refine ⟨.ref p0, rfl, .int c, rfl, c, rfl, p0, _, rfl, lst_of e2, fun p2 n2 => ?_⟩
    rw [cut_to, ← List.map_take]
    have e3 : (upd H2 p2 (.lst ((zs.take c).map V.str))) p2 = some (.lst ((zs.take c).map V.str)) := upd_same
    have s3 : Same H2 (upd H2 p2 (.lst ((zs.take c).map V.str))) := same_new n2
    generalize upd H2 p2 (.lst ((zs.take c).map V.str)) = H3 at *
    refine ⟨p2, zs.take c, rfl, lst_of e3, by rw [List.length_take]; omega, fun ms p3 pm sm n4 => ?_⟩
    have e4 : (upd H3 p3 (.lst (ms.map V.str))) p3 = some (.lst (ms.map V.str)) := upd_same
    have s4 : Same H3 (upd H3 p3 (.lst (ms.map V.str))) := same_new n4
    generalize upd H3 p3 (.lst (ms.map V.str)) = H4 at *
    refine ⟨p3, _, rfl, .inl ⟨lst_of e4, fun p4 n5 => ?_⟩⟩
    have f4 : H p4 = none := nr_free nrA dc2 ((s3.trans s4).free n5)
    have e5 : (upd H4 p4 (.tup (ms.map V.str))) p4 = some (.tup (ms.map V.str)) := upd_same
    have s5 : Same H4 (upd H4 p4 (.tup (ms.map V.str))) := same_new n5
    generalize upd H4 p4 (.tup (ms.map V.str)) = H5 at *
    have S5 : Same H2 H5 := s3.trans (s4.trans s5)
    refine ⟨.ref p0, rfl, .int m, rfl, m, rfl, .int m, rfl, m, 1, rfl, rfl, .ref d, rfl, .int n, rfl, d, n, rfl, dc2.same S5, by omega, by omega, fun r H6 r0 r1 nr6 dc6 => ⟨(m : Int) + 1, r, rfl, rfl, _, rfl, p0, _, rfl, lst_of (nr6 _ _ d0.symm (S5 _ _ e2)), fun p7 n7 => ?_⟩⟩
    obtain ⟨g, rfl⟩ : ∃ g : Nat, r = (g : Int) := ⟨r.toNat, by omega⟩
    have d4 : d ≠ p4 := dice_ne hd f4
    have e6 := nr6 _ _ d4.symm e5
    have nrB : Nr d H H6 := nrA.trans (S5.nr.trans nr6)
    rw [show (m : Int) + 1 + (g : Int) = ((m + (1 + g) : Nat) : Int) by omega, cut_in _ (by rw [List.length_map, lz]; omega) (by omega), Nat.add_sub_cancel_left, ← List.map_drop, ← List.map_take]
    have e7 : (upd H6 p7 (.lst (((zs.drop m).take (1 + g)).map V.str))) p7 = some (.lst (((zs.drop m).take (1 + g)).map V.str)) := upd_same
    have s7 : Same H6 (upd H6 p7 (.lst (((zs.drop m).take (1 + g)).map V.str))) := same_new n7
    generalize upd H6 p7 (.lst (((zs.drop m).take (1 + g)).map V.str)) = H7 at *
    refine ⟨p7, (zs.drop m).take (1 + g), rfl, lst_of e7, by rw [List.length_take]; omega, fun ks p8 pk sk n8 => ?_⟩
    have e8 : (upd H7 p8 (.lst (ks.map V.str))) p8 = some (.lst (ks.map V.str)) := upd_same
    have s8 : Same H7 (upd H7 p8 (.lst (ks.map V.str))) := same_new n8
    generalize upd H7 p8 (.lst (ks.map V.str)) = H8 at *
    refine ⟨p8, _, rfl, .inl ⟨lst_of e8, fun p9 n9 => ?_⟩⟩
    have f9 : H p9 = none := nr_free nrB dc6 ((s7.trans s8).free n9)
    have e9 : (upd H8 p9 (.tup (ks.map V.str))) p9 = some (.tup (ks.map V.str)) := upd_same
    have s9 : Same H8 (upd H8 p9 (.tup (ks.map V.str))) := same_new n9
    generalize upd H8 p9 (.tup (ks.map V.str)) = H9 at *
    refine ⟨by show 2 ≤ sizeLine; decide, fun pa na => ?_⟩
    have fa : H pa = none := nr_free nrB dc6 ((s7.trans (s8.trans s9)).free na)
    have ea : (upd H9 pa (.tup [.ref p4, .ref p9])) pa = some (.tup [.ref p4, .ref p9]) := upd_same
    have sa : Same H9 (upd H9 pa (.tup [.ref p4, .ref p9])) := same_new na
    generalize upd H9 pa (.tup [.ref p4, .ref p9]) = Ha at *
    have SA : Same H6 Ha := s7.trans (s8.trans (s9.trans sa))
    have inm : ∀ z ∈ ms, z ∈ zs.take c := fun z hz => pm.mem_iff.mp hz
    have ink : ∀ z ∈ ks, z ∈ zs.drop m := fun z hz => List.mem_of_mem_take (pk.mem_iff.mp hz)
    refine q pa p4 p9 ms ks Ha (nrB.trans SA.nr) (dc6.same SA) fa f4 f9 ea (SA _ _ e6) (sa _ _ e9) ⟨fun z hz => mz z (List.mem_of_mem_take (inm z hz)), fun z hz => mz z (List.mem_of_mem_drop (ink z hz)), canon_self (pm.nodup_iff.mpr (nd.sublist (List.take_sublist _ _))) (sortedS_pw sm), canon_self (pk.nodup_iff.mpr ((nd.sublist (List.drop_sublist _ _)).sublist (List.take_sublist _ _))) (sortedS_pw sk), ?_, ?_, ?_, ?_⟩
    · rw [pm.length_eq, List.length_take]
      omega
    · rw [pk.length_eq, List.length_take, List.length_drop, lz]
      omega
    · rw [pk.length_eq, List.length_take]
      omega
    · intro z hk hm
      have nd2 : (zs.take m ++ zs.drop m).Nodup := by rw [List.take_append_drop]; exact nd
      have hm2 : z ∈ zs.take m := by
        have z1 := inm z hm
        rw [show zs.take c = (zs.take m).take c by rw [List.take_take, Nat.min_eq_left (by omega)]] at z1
        exact List.mem_of_mem_take z1
      exact (List.nodup_append.mp nd2).2.2 z hm2 z (ink z hk) rfl
end
end Tf

/-! the law's draws: links -/
namespace Tf
open PySem PySem.Spec PyProof.Rows L2 PySem.W
abbrev sLk : Stmt := top 37
theorem scLk : FnScope ["_law_dice_here", "_law_language_here", "_law_names", "_law_at", "_law_way", "_law_sorts", "_law_found", "_law_far", "_law_turn"] ["_law_dice_here", "_law_language_here", "_law_names", "_law_at", "_law_way"] (defScope sLk) := ⟨rfl, rfl, rfl, by decide +kernel, rfl, by decide +kernel, by decide +kernel⟩
def spLk : Sp := fun vs H Q _ => ∃ (d pg pk l : Addr) (v0 : V) (ks zs : List Str) (at_ way : Nat), vs = [.ref d, .ref pg, .ref l, .int at_, .int way] ∧ Dice H d ∧ H pg = some (.tup [v0, .ref pk]) ∧ H pk = some (.tup (ks.map V.str)) ∧ H l = some (.lst (zs.map V.str)) ∧ d ≠ l ∧ 1 ≤ ks.length ∧ ks.length ≤ 60 ∧ at_ < zs.length ∧ zs.length ≤ 60 ∧ way < 4 ∧
  ∀ (p : Addr) (ls : List (Str × Str)) (H' : Hp), Nr d H H' → Dice H' d → H p = none → Tt H' (.ref p) (Tup.mk ls) → setO ls = ls → ls.length ≤ 4 → (∀ e ∈ ls, e.1 ∈ ks ∧ e.2 ∈ zs) → Q (.ref p) H'
/-- the links found so far -/
structure Fnd (H0 H : Hp) (d pf : Addr) (ks zs : List Str) (ws : List (Addr × (Str × Str))) : Prop where
  kp : ∀ b o, b ≠ d → b ≠ pf → H0 b = some o → H b = some o
  dc : Dice H d
  at_ : H pf = some (.lst (ws.map fun z => .ref z.1))
  tt : ∀ z ∈ ws, Tt H (.ref z.1) z.2
  mem : ∀ z ∈ ws, z.2.1 ∈ ks ∧ z.2.2 ∈ zs
theorem Fnd.same {H0 H H' : Hp} {d pf : Addr} {ks zs : List Str} {ws : List (Addr × (Str × Str))} (f : Fnd H0 H d pf ks zs ws) (s : Same H H') : Fnd H0 H' d pf ks zs ws := ⟨fun b o h1 h2 e => s _ _ (f.kp b o h1 h2 e), f.dc.same s, s _ _ f.at_, fun z hz => (f.tt z hz).kq s.kq, f.mem⟩
theorem Fnd.nr {H0 H H' : Hp} {d pf : Addr} {ks zs : List Str} {ws : List (Addr × (Str × Str))} (f : Fnd H0 H d pf ks zs ws) (n : Nr d H H') (dc : Dice H' d) (ne : d ≠ pf) : Fnd H0 H' d pf ks zs ws := ⟨fun b o h1 h2 e => n _ _ h1 (f.kp b o h1 h2 e), dc, n _ _ ne.symm f.at_, fun z hz => (f.tt z hz).kq (n.kq f.dc), f.mem⟩
theorem Fnd.add {H0 H : Hp} {d pf t : Addr} {ks zs : List Str} {ws : List (Addr × (Str × Str))} {x y : Str} (f : Fnd H0 H d pf ks zs ws) (ne : d ≠ pf) (ht : H t = some (.tup [.str x, .str y])) (hx : x ∈ ks) (hy : y ∈ zs) : Fnd H0 (upd H pf (.lst ((ws.map fun z => V.ref z.1) ++ [.ref t]))) d pf ks zs (ws ++ [(t, (x, y))]) := by
  have kq : Kq H (upd H pf (.lst ((ws.map fun z => V.ref z.1) ++ [.ref t]))) := Kq.lst f.at_
  refine ⟨fun b o h1 h2 e => by rw [upd_ne h2]; exact f.kp b o h1 h2 e, ?_, by rw [upd_same, List.map_append]; rfl, fun z hz => ?_, fun z hz => ?_⟩
  · obtain ⟨a, b, c, h, e⟩ := f.dc
    exact ⟨a, b, c, h, by rw [upd_ne ne]; exact e⟩
  · rcases List.mem_append.mp hz with hz | hz
    · exact (f.tt z hz).kq kq
    · rw [List.mem_singleton.mp hz]
      exact tt_pair (kq.tup ht) tt_str tt_str
  · rcases List.mem_append.mp hz with hz | hz
    · exact f.mem z hz
    · rw [List.mem_singleton.mp hz]
      exact ⟨hx, hy⟩
theorem pd_strs {H : Hp} (zs : List Str) : ∀ x ∈ zs.map V.str, Pd H x := fun x hx => by
  obtain ⟨z, _, rfl⟩ := List.mem_map.mp hx
  exact pd_str
section
variable {P : Program} {w : World} {K : PySem.W.Frag} {mg : Str → Option Value} {base : Heap}
theorem ok_lk {f : Addr} {fd : FuncData} {k : Nat} (F : Fun K "_law_links" "_law_links" sLk f fd) (GP : CdN P w K mg base k "_law_pick" ["_law_dice_here", "_law_items"] (spPick K)) (GR : CdN P w K mg base k "_law_roll" ["_law_dice_here", "_law_upto"] spRoll)
    (mT : mg "tuple" = none) (mS : mg "sorted" = none) (mR : mg "range" = none) (mL : mg "list" = none) (mI : mg "int" = none) (mN : mg "len" = none) (mE : mg "set" = none) : FnOk P w K mg base CX0 (k + 1) f fd ["_law_dice_here", "_law_language_here", "_law_names", "_law_at", "_law_way"] spLk := by
  refine F.ok scLk (fun vs H Q E h => ?_) (fun cdv A outer s H vs Q E hr h => ?_)
  · obtain ⟨d, pg, pk, l, v0, ks, zs, at_, way, rfl, _⟩ := h
    rfl
  · obtain ⟨d, pg, pk, l, v0, ks, zs, at_, way, rfl, hd, hg, hk, hl, ndl, k1, k2, z1, z2, w4, q⟩ := h
    have hu : (A.deeper (envOfC "_law_links" (defScope sLk) s.heap.objs.size f cdv)).units + 70 < cLine := by have := hr.un; omega
    have hu64 : (A.deeper (envOfC "_law_links" (defScope sLk) s.heap.objs.size f cdv)).units + 64 < cLine := by omega
    have hu20 : (A.deeper (envOfC "_law_links" (defScope sLk) s.heap.objs.size f cdv)).units + 20 < cLine := by omega
    refine ⟨_, pss_cons (ps_par (i := 5) (j := 6) (by rfl) scLk.nd rfl rfl (by decide) rfl rfl (pa_cons (pe_ix ix_tup (pv 1) pe_int (fun _ _ => rfl)) (pa_cons (pe_lst pa_nil) pa_nil)) (by rfl))
      (pss_cons (ps_mid (ps_set (i := 7) scLk.nd rfl (.inl rfl) (pe_ifExp (pt_cmpR op_eq (pv 4) pe_int (nomark _)) (pe_slice sl_list (pv 2) (po_some (pe_op op_add (pv 3) pe_int)) po_none) (pv 2))))
      (pss_cons (ps_for PassesOwn.never rfl (pi_range1 rfl mR (pa_cons (pe_cdn GR hr (pa_cons (pv 0) (pa_cons (pe_mid (pe_ifExp (pt_cmpR op_eq (pv 4) pe_int (nomark _)) pe_int pe_int)) pa_nil))) pa_nil)) (pg_name (i := 8) scLk.nd rfl (.inl rfl))
        (pss_one (ps_if (pt_cmpR (op_neP hu64) (pv 7) (pe_lst pa_nil) (nomark _))
          (pss_one (ps_expr (pe_bm PySem.F.plainAttrs_list PySem.F.slot_list_append PySem.F.type_list_append mt_append (pv 6) (pa_cons (pe_tup (pa_cons (pe_cdn GP hr (pa_cons (pv 0) (pa_cons (pe_callTy call_list_of (by rfl) mL (by decide +kernel) (pa_cons (pv 5) pa_nil)) pa_nil))) (pa_cons (pe_cdn GP hr (pa_cons (pv 0) (pa_cons (pv 7) pa_nil))) pa_nil))) pa_nil)))) pss_nil)))
      (pss_cons (ps_mid (ps_if (pt_cmpR op_eq (pv 4) pe_int (nomark _)) (pss_one (ps_expr (pe_bm PySem.F.plainAttrs_list PySem.F.slot_list_append PySem.F.type_list_append mt_append (pv 6) (pa_cons (pe_tup (pa_cons (pe_ix ix_tup (pv 5) pe_int (fun _ _ => rfl)) (pa_cons (pe_ix ix_list (pv 2) (pe_op op_modN (pe_callTy call_int1 (by rfl) mI (by decide +kernel) (pa_cons (pe_op op_add (pv 3) pe_int) pa_nil)) (pe_callB call_len_seq (by rfl) mN PySem.boot_len (pa_cons (pv 2) pa_nil))) (fun _ _ => rfl)) pa_nil))) pa_nil)))) pss_nil))
      (pss_one (ps_ret (pe_callTy call_tuple_of (by rfl) mT (by decide +kernel) (pa_cons (pe_callB (cr_sortN (α := Str × Str) rfl hu) (by rfl) mS (by decide +kernel) (pa_cons (pe_callTy (cr_setN (α := Str × Str) rfl hu20) (by rfl) mE (by decide +kernel) (pa_cons (pv 6) pa_nil)) pa_nil)) pa_nil))))))), ?_⟩
    refine ⟨.ref pg, rfl, pg, _, 1, .ref pk, rfl, rfl, tup_of hg, rfl, Nat.zero_le _, fun pf nf => ⟨_, _, rfl, ?_⟩⟩
    have e1 : (upd H pf (.lst [])) pf = some (.lst []) := upd_same
    have s1 : Same H (upd H pf (.lst [])) := same_new nf
    generalize upd H pf (.lst []) = H1 at *
    have dc1 := hd.same s1
    have ndf : d ≠ pf := dice_ne hd nf
    have nfl : l ≠ pf := ne_of_none hl nf
    have npk : pk ≠ pf := ne_of_none hk nf
    have hdk : pk ≠ d := by
      obtain ⟨_, _, _, _, e⟩ := hd
      exact ne_of hk e (fun z => nomatch z)
    -- far
    refine ⟨fun σ H2 => ∃ (fa : Addr) (fz : List Str), σ = [some (.ref d), some (.ref pg), some (.ref l), some (.int at_), some (.int way), some (.ref pk), some (.ref pf), some (.ref fa), none] ∧ Same H1 H2 ∧ H2 fa = some (.lst (fz.map V.str)) ∧ fa ≠ d ∧ fa ≠ pf ∧ (∀ z ∈ fz, z ∈ zs) ∧ fz.length ≤ 60, ?_, ?_⟩
    · refine ⟨_, rfl, rfl, _, rfl, ite2 (fun c => ?_) (fun c => ?_)⟩
      · refine ⟨.ref l, rfl, _, rfl, at_, 1, rfl, rfl, _, rfl, l, _, rfl, lst_of (s1 _ _ hl), fun p np => ?_⟩
        rw [show (at_ : Int) + 1 = ((at_ + 1 : Nat) : Int) by omega, cut_from, ← List.map_drop]
        have s2 := same_new (o := .lst ((zs.drop (at_ + 1)).map V.str)) np
        exact ⟨p, zs.drop (at_ + 1), rfl, s2, upd_same, (dice_ne dc1 np).symm, (ne_of_none e1 np).symm, fun z hz => List.mem_of_mem_drop hz, by rw [List.length_drop]; omega⟩
      · exact ⟨.ref l, rfl, l, zs, rfl, Same.refl _, s1 _ _ hl, ndl.symm, nfl, fun z hz => hz, z2⟩
    rintro σ H2 ⟨fa, fz, rfl, s2, e2, nfd, nff, mf, lf⟩
    have dc2 := dc1.same s2
    -- the draws
    have start : Fnd H2 H2 d pf ks zs [] := ⟨fun _ _ _ _ e => e, dc2, s2 _ _ e1, fun z hz => (by cases hz), fun z hz => (by cases hz)⟩
    refine ⟨.ref d, rfl, fun v H' => H2 = H' ∧ ∃ m : Int, v = .int m ∧ 1 ≤ m ∧ m ≤ 4, ⟨_, rfl, rfl, _, rfl, ite2 (fun c => ⟨rfl, 2, rfl, by decide, by decide⟩) (fun c => ⟨rfl, 4, rfl, by decide, by decide⟩)⟩, ?_⟩
    rintro v H'' ⟨e'', m, rfl, m1, m4⟩
    subst e''
    refine ⟨d, m, rfl, dc2, by omega, by omega, fun r H3 r0 r1 nr3 dc3 => ?_⟩
    refine ⟨r, rfl, by omega, by omega, for_range (n := r.toNat) (fun i σ H' => ∃ (o8 : Option V) (ws : List (Addr × (Str × Str))), σ = [some (.ref d), some (.ref pg), some (.ref l), some (.int at_), some (.int way), some (.ref pk), some (.ref pf), some (.ref fa), o8] ∧ Fnd H2 H' d pf ks zs ws ∧ ws.length ≤ i) ⟨_, [], rfl, start.nr nr3 dc3 ndf, Nat.le_refl _⟩ ?_ ?_⟩
    · rintro i σ H4 hi ⟨o8, ws, rfl, fn, lw⟩
      have ef := fn.kp fa _ nfd nff e2
      refine ⟨.ref fa, rfl, cmp_nil true (lst_of ef) (pd_strs fz) fun H5 s5 => ?_⟩
      have fn5 := fn.same s5
      cases fz with
      | nil => exact ⟨false, rfl, iteF ⟨_, ws, rfl, fn5, Nat.le_succ_of_le lw⟩⟩
      | cons y0 fz =>
        refine ⟨true, rfl, iteT ?_⟩
        refine ⟨.ref pf, rfl, .inl ⟨rfl, _, lst_of fn5.at_⟩, .ref d, rfl, .ref pk, rfl, pk, _, rfl, .inr (tup_of (s5 _ _ (fn.kp pk _ hdk npk (s2 _ _ (s1 _ _ hk))))), fun l6 n6 => ?_⟩
        have e6 : (upd H5 l6 (.lst (ks.map V.str))) l6 = some (.lst (ks.map V.str)) := upd_same
        have s6 : Same H5 (upd H5 l6 (.lst (ks.map V.str))) := same_new n6
        generalize upd H5 l6 (.lst (ks.map V.str)) = H6 at *
        have fn6 := fn5.same s6
        refine ⟨d, l6, _, rfl, fn6.dc, e6, dice_ne fn5.dc n6, fun z => ?_, by rw [List.length_map]; omega, fun x H7 hx nr7 dc7 => ?_⟩
        · rw [List.map_eq_nil_iff] at z
          rw [z] at k1
          simp at k1
        obtain ⟨x', mx, rfl⟩ := List.mem_map.mp hx
        have fn7 := fn6.nr nr7 dc7 ndf
        refine ⟨.ref d, rfl, .ref fa, rfl, d, fa, _, rfl, dc7, fn7.kp fa _ nfd nff e2, nfd.symm, List.cons_ne_nil _ _, by rw [List.length_map]; omega, fun y H8 hy nr8 dc8 => ?_⟩
        obtain ⟨y', my, rfl⟩ := List.mem_map.mp hy
        have fn8 := fn7.nr nr8 dc8 ndf
        refine ⟨by show 2 ≤ sizeLine; decide, fun t nt => ?_⟩
        have e9 : (upd H8 t (.tup [.str x', .str y'])) t = some (.tup [.str x', .str y']) := upd_same
        have s9 : Same H8 (upd H8 t (.tup [.str x', .str y'])) := same_new nt
        generalize upd H8 t (.tup [.str x', .str y']) = H9 at *
        have fn9 := fn8.same s9
        refine ⟨pf, _, _, rfl, rfl, fn9.at_, by rw [List.length_map]; exact small1000 (by omega), ?_⟩
        exact ⟨_, _, rfl, fn9.add ndf e9 mx (mf y' my), by rw [List.length_append, List.length_singleton]; omega⟩
    rintro σ H4 ⟨o8, ws, rfl, fn, lw⟩
    have lw3 : ws.length ≤ 3 := by omega
    -- round
    refine ⟨fun σ H5 => ∃ ws : List (Addr × (Str × Str)), σ = [some (.ref d), some (.ref pg), some (.ref l), some (.int at_), some (.int way), some (.ref pk), some (.ref pf), some (.ref fa), o8] ∧ Fnd H2 H5 d pf ks zs ws ∧ ws.length ≤ 4, ?_, ?_⟩
    · refine ⟨_, rfl, rfl, _, rfl, ite2 (fun c => ?_) (fun c => ⟨ws, rfl, fn, by omega⟩)⟩
      have el := fn.kp l _ ndl.symm nfl (s2 _ _ (s1 _ _ hl))
      have ek := fn.kp pk _ hdk npk (s2 _ _ (s1 _ _ hk))
      have kpos : 0 < ks.length := k1
      have zpos : (0 : Int) < (zs.length : Int) := by omega
      have j0 := Int.fmod_nonneg_of_pos ((at_ : Int) + 1) zpos
      have j1 := Int.fmod_lt_of_pos ((at_ : Int) + 1) zpos
      obtain ⟨j, ej⟩ : ∃ j : Nat, ((at_ : Int) + 1).fmod (zs.length : Int) = (j : Int) := ⟨_, (Int.toNat_of_nonneg j0).symm⟩
      have jl : j < zs.length := by omega
      refine ⟨.ref pf, rfl, .inl ⟨rfl, _, lst_of fn.at_⟩, .ref pk, rfl, pk, _, 0, .str ks[0], rfl, rfl, tup_of ek, at_of (j := 0) rfl (by rw [List.getElem?_map, List.getElem?_eq_getElem kpos]; rfl), ?_⟩
      refine ⟨.ref l, rfl, _, rfl, at_, 1, rfl, rfl, .inl ⟨_, rfl, .ref l, rfl, l, _, rfl, .inl (lst_of el), _, _, rfl, rfl, ?_, ?_⟩⟩
      · rw [List.length_map]
        omega
      refine ⟨l, _, _, .str zs[j], rfl, rfl, lst_of el, at_of (j := j) (by rw [List.length_map]; omega) (by rw [List.getElem?_map, List.getElem?_eq_getElem jl]; rfl), ?_⟩
      refine ⟨by show 2 ≤ sizeLine; decide, fun t nt => ?_⟩
      have e9 : (upd H4 t (.tup [.str ks[0], .str zs[j]])) t = some (.tup [.str ks[0], .str zs[j]]) := upd_same
      have s9 : Same H4 (upd H4 t (.tup [.str ks[0], .str zs[j]])) := same_new nt
      generalize upd H4 t (.tup [.str ks[0], .str zs[j]]) = H9 at *
      have fn9 := fn.same s9
      refine ⟨pf, _, _, rfl, rfl, fn9.at_, by rw [List.length_map]; exact small1000 (by omega), ?_⟩
      exact ⟨_, rfl, fn9.add ndf e9 (List.getElem_mem kpos) (List.getElem_mem jl), by rw [List.length_append, List.length_singleton]; omega⟩
    rintro σ H5 ⟨ws, rfl, fn5, lw4⟩
    refine ⟨.ref pf, rfl, pf, ws, rfl, lst_of fn5.at_, fun z hz => (fn5.tt z hz).dt, by omega, fun p6 o6 n6 h6 => ?_⟩
    have e6 : (upd H5 p6 (o6)) p6 = some (o6) := upd_same
    have s6 : Same H5 (upd H5 p6 (o6)) := same_new n6
    generalize upd H5 p6 (o6) = H6 at *
    have fn6 := fn5.same s6
    refine ⟨p6, ws, o6, rfl, e6, h6, fun z hz => (fn6.tt z hz).dt, by omega, fun cs p7 mc ec n7 => ?_⟩
    have e7 : (upd H6 p7 (.lst (cs.map fun c => .ref c.1))) p7 = some (.lst (cs.map fun c => .ref c.1)) := upd_same
    have s7 : Same H6 (upd H6 p7 (.lst (cs.map fun c => .ref c.1))) := same_new n7
    generalize upd H6 p7 (.lst (cs.map fun c => .ref c.1)) = H7 at *
    have fn7 := fn6.same s7
    refine ⟨p7, _, rfl, .inl ⟨lst_of e7, fun p8 n8 => ?_⟩⟩
    have nrA : Nr d H H7 := fun b o nb e => by
      have h1 : b ≠ pf := ne_of_none e nf
      exact fn7.kp b o nb h1 (s2 _ _ (s1 _ _ e))
    have f8 : H p8 = none := nr_free nrA fn7.dc n8
    have e8 : (upd H7 p8 (.tup (cs.map fun c => .ref c.1))) p8 = some (.tup (cs.map fun c => .ref c.1)) := upd_same
    have s8 : Same H7 (upd H7 p8 (.tup (cs.map fun c => .ref c.1))) := same_new n8
    generalize upd H7 p8 (.tup (cs.map fun c => .ref c.1)) = H8 at *
    have fn8 := fn7.same s8
    refine q p8 (cs.map (·.2)) H8 (nrA.trans s8.nr) fn8.dc f8 (tt_tup e8 (tts_of fun z hz => fn8.tt z (mc z hz))) ?_ ?_ fun e he => ?_
    · rw [ec, setO_setO]
    · rw [ec]
      exact Nat.le_trans (setO_len _) (by rw [List.length_map]; exact lw4)
    · obtain ⟨z, hz, rfl⟩ := List.mem_map.mp he
      exact fn5.mem z (mc z hz)
end
end Tf

/-! the law's draws: stores -/
namespace Tf
open PySem PySem.Spec PyProof.Rows L2 PySem.W
abbrev sSto : Stmt := top 38
abbrev nSto : List Str := ["_law_dice_here", "_law_language_here", "_law_most", "_law_names", "_law_way", "_law_found", "_law_at", "_law_name", "_law_marks", "_law_mark"]
theorem scSto : FnScope nSto ["_law_dice_here", "_law_language_here", "_law_most"] (defScope sSto) := ⟨rfl, rfl, rfl, by decide +kernel, rfl, by decide +kernel, by decide +kernel⟩
/-- marks and links of a thing -/
abbrev Pr := Tup Str × Tup (Str × Str)
/-- the things of a store, in the order of a dict -/
abbrev Ps := List (Str × Pr)
/-- the entries of a dict are these things -/
abbrev PsR (H : Hp) (kvs : List (Key × V)) (ps : Ps) : Prop := Paired (fun kv x => kv.1 = Sum.inr x.1 ∧ Tt H kv.2 x.2) kvs ps
theorem PsR.kq {H H' : Hp} {kvs : List (Key × V)} {ps : Ps} (h : PsR H kvs ps) (k : Kq H H') : PsR H' kvs ps := Paired.mapP h fun _ _ z => ⟨z.1, Tt.kq z.2 k⟩
theorem PsR.kt {H H' : Hp} {kvs : List (Key × V)} {ps : Ps} (h : PsR H kvs ps) (k : Kt H H') : PsR H' kvs ps := Paired.mapP h fun _ _ z => ⟨z.1, Tt.kt z.2 k⟩
theorem PsR.dk {K : PySem.W.Frag} {H : Hp} {kvs : List (Key × V)} {ps : Ps} {d : Addr} (h : PsR H kvs ps) (hd : Rd H d (.dK kvs)) : Dk K H d ps := ⟨kvs, hd, Paired.mapP h fun _ _ z => ⟨z.1, Tt.dt z.2⟩⟩
theorem PsR.append : ∀ {H : Hp} {ks ls : List (Key × V)} {ps qs : Ps}, PsR H ks ps → PsR H ls qs → PsR H (ks ++ ls) (ps ++ qs)
  | _, _, _, _, _, .nil, q => q
  | _, _, _, _, _, .cons h r, q => .cons h (PsR.append r q)
theorem PsR.keys : ∀ {H : Hp} {kvs : List (Key × V)} {ps : Ps}, PsR H kvs ps → kvs.map (·.1) = ps.map fun x => Sum.inr x.1
  | _, _, _, .nil => rfl
  | _, _, _, .cons h r => by rw [List.map_cons, List.map_cons, h.1, PsR.keys r]
theorem PsR.miss {H : Hp} {kvs : List (Key × V)} {ps : Ps} {z : Str} (h : PsR H kvs ps) (n : z ∉ ps.map (·.1)) : valV kvs (Sum.inr z) = none := by
  induction h with
  | nil => rfl
  | @cons kv x kvs ps h r ih =>
    have n1 : ¬ x.1 = z := fun e => n (by rw [← e]; exact List.mem_cons_self)
    rw [valV_neg (by rw [h.1]; exact fun e => n1 (Sum.inr.inj e))]
    exact ih fun m => n (List.mem_cons_of_mem _ m)
theorem PsR.hit {H : Hp} {kvs : List (Key × V)} {ps : Ps} {z : Str} (h : PsR H kvs ps) (m : z ∈ ps.map (·.1)) : ∃ v x, valV kvs (Sum.inr z) = some v ∧ (z, x) ∈ ps ∧ Tt H v x := by
  induction h with
  | nil => cases m
  | @cons kv x kvs ps h r ih =>
    by_cases e : x.1 = z
    · exact ⟨kv.2, x.2, valV_pos (by rw [h.1, e]), by rw [← e]; exact List.mem_cons_self, h.2⟩
    · rw [valV_neg (by rw [h.1]; exact fun q => e (Sum.inr.inj q))]
      rcases List.mem_cons.mp m with c | c
      · exact absurd c.symm e
      · obtain ⟨v, x', h1, h2, h3⟩ := ih c
        exact ⟨v, x', h1, List.mem_cons_of_mem _ h2, h3⟩
/-- a thing's marks and links: each once, ascending, of the language and the things -/
structure PTh (ms ks names : List Str) (p : Pr) : Prop where
  cm : canon p.1.items = p.1.items
  mm : ∀ z ∈ p.1.items, z ∈ ms
  cl : setO p.2.items = p.2.items
  ml : ∀ e ∈ p.2.items, e.1 ∈ ks ∧ e.2 ∈ names
  l1 : p.1.items.length ≤ 60
  l2 : p.2.items.length ≤ 20
/-- a plain store -/
structure PSt (ms ks : List Str) (ps : Ps) : Prop where
  nd : (ps.map (·.1)).Nodup
  wd : ∀ z ∈ ps.map (·.1), nameB z = true
  th : ∀ p ∈ ps, PTh ms ks (ps.map (·.1)) p.2
  len : ps.length ≤ 60
theorem PTh.more {ms ks ns ns' : List Str} {p : Pr} (h : PTh ms ks ns p) (s : ∀ z ∈ ns, z ∈ ns') : PTh ms ks ns' p := ⟨h.cm, h.mm, h.cl, fun e he => ⟨(h.ml e he).1, s _ (h.ml e he).2⟩, h.l1, h.l2⟩
def spSto : Sp := fun vs H Q _ => ∃ (d pg pm pk : Addr) (ms ks : List Str) (most : Nat), vs = [.ref d, .ref pg, .int most] ∧ Dice H d ∧ H pg = some (.tup [.ref pm, .ref pk]) ∧ H pm = some (.tup (ms.map V.str)) ∧ H pk = some (.tup (ks.map V.str)) ∧ canon ms = ms ∧ ms.length ≤ 60 ∧ 1 ≤ ks.length ∧ ks.length ≤ 60 ∧ 1 ≤ most ∧ most ≤ 16 ∧
  ∀ (p : Addr) (kvs : List (Key × V)) (ps : Ps) (H' : Hp), Nr d H H' → Dice H' d → H p = none → H' p = some (.dK kvs) → PsR H' kvs ps → PSt ms ks ps → (∀ z ∈ ps.map (·.1), z ∈ words) → 1 ≤ ps.length → ps.length ≤ most → Q (.ref p) H'
/-- marks of the language, each drawn or left out: the comprehension -/
theorem lc_draw {K : PySem.W.Frag} {a d D : Addr} {zs : List Str} {tt : TT} {te : TE} {i : Nat} {σ : L2.St} {H1 : Hp} {Qd : Hp → Prop} (hd : Dice H1 d) (nD : H1 D = none) (ha : H1 a = some (.tup (zs.map V.str))) (lz : zs.length ≤ 60)
    (ht : ∀ z ∈ zs, ∀ H, Nr d H1 H → Dice H d → ∀ R : Bool → Hp → Prop, (∀ b H', Nr d H H' → Dice H' d → R b H') → tt ((wipe σ [i]).set i (some (.str z))) H R)
    (he : ∀ z H (R : VK), R (.str z) H → te ((wipe σ [i]).set i (some (.str z))) H R)
    (hq : ∀ (H : Hp) (ys : List Str), Nr d H1 H → Dice H d → ys.Sublist zs → H D = some (.lst (ys.map V.str)) → Qd H) :
    ∃ W : Nat → Nat → Hp → Prop, (∃ m, W 0 m (upd H1 D (.lst []))) ∧ ∀ j m H, W j m H →
      ((Itt K a).stop j H ∧ Qd H) ∨ ((Itt K a).go j H ∧ ∃ Nx : Hp → Prop, (∀ H', Nx H' → ∃ m', m' < m ∧ W (j + 1) m' H') ∧ ∀ x H', (Itt K a).yld j H x H' → gName i x (wipe σ [i]) H' fun σ2 H2 => wipe σ2 [i] = wipe σ [i] ∧ tt σ2 H2 fun b H3 =>
        if b = true then te σ2 H3 fun y H4 => ∃ acc, H4 D = some (.lst acc) ∧ acc.length < sizeLine ∧ Nx (upd H4 D (.lst (acc ++ [y]))) else Nx H3) := by
  have dD : d ≠ D := dice_ne hd nD
  have da : a ≠ d := by
    obtain ⟨_, _, _, _, e⟩ := hd
    exact ne_of ha e (fun z => nomatch z)
  refine lc_it (walk_tup (xs := zs.map V.str)) (fun j H => Nr d H1 H ∧ Dice H d ∧ ∃ ys : List Str, ys.Sublist (zs.take j) ∧ H D = some (.lst (ys.map V.str))) ⟨(same_new nD).nr, hd.same (same_new nD), [], List.nil_sublist _, upd_same⟩ (fun j H _ p => tup_of (p.1 a _ da ha)) (fun j x H H' hj p y => ?_) fun H p => ?_
  · obtain ⟨nr, dc, ys, sub, eD⟩ := p
    obtain ⟨rfl, ex⟩ := y
    rw [List.length_map] at hj
    rw [List.getElem?_map, List.getElem?_eq_getElem hj] at ex
    have ex' : V.str zs[j] = x := Option.some.inj ex
    subst ex'
    have tk : zs.take (j + 1) = zs.take j ++ [zs[j]] := by rw [List.take_add_one, List.getElem?_eq_getElem hj]; rfl
    refine ⟨by simp [wipe], ht _ (List.getElem_mem hj) H' nr dc _ fun b H3 n3 dc3 => ?_⟩
    have eD3 := n3 D _ dD.symm eD
    cases b with
    | false => exact iteF ⟨nr.trans n3, dc3, ys, by rw [tk]; exact sub.trans (List.sublist_append_left _ _), eD3⟩
    | true =>
      refine iteT (he _ _ _ ⟨_, eD3, ?_, ?_, ?_, ys ++ [zs[j]], by rw [tk]; exact sub.append (List.Sublist.refl _), by rw [upd_same, List.map_append]; rfl⟩)
      · have := sub.length_le
        rw [List.length_map]
        rw [List.length_take] at this
        exact small1000 (by omega)
      · intro b o nb e
        rw [upd_ne (ne_of_none e nD)]
        exact n3 b o nb (nr b o nb e)
      · obtain ⟨x1, x2, x3, x4, x5⟩ := dc3
        exact ⟨x1, x2, x3, x4, by rw [upd_ne dD]; exact x5⟩
  · obtain ⟨nr, dc, ys, sub, eD⟩ := p
    rw [List.length_map, List.take_length] at sub
    exact hq H ys nr dc sub eD
theorem canon_sub {ms ys : List Str} (c : canon ms = ms) (s : ys.Sublist ms) : canon ys = ys := by
  rw [← c] at s
  exact canon_self ((nodup_canon ms).sublist s) ((canon_pw ms).sublist s)
section
variable {P : Program} {w : World} {K : PySem.W.Frag} {mg : Str → Option Value} {base : Heap}
theorem ok_sto {f : Addr} {fd : FuncData} {k : Nat} (F : Fun K "_law_store" "_law_store" sSto f fd) (GW : CdN P w K mg base k "_law_words" ["_law_dice_here", "_law_upto"] spWords) (GR : CdN P w K mg base k "_law_roll" ["_law_dice_here", "_law_upto"] spRoll) (GL : CdN P w K mg base k "_law_links" ["_law_dice_here", "_law_language_here", "_law_names", "_law_at", "_law_way"] spLk)
    (mT : mg "tuple" = none) (mE : mg "enumerate" = none) : FnOk P w K mg base CX0 (k + 1) f fd ["_law_dice_here", "_law_language_here", "_law_most"] spSto := by
  refine F.ok scSto (fun vs H Q E h => ?_) (fun cdv A outer s H vs Q E hr h => ?_)
  · obtain ⟨d, pg, pm, pk, ms, ks, most, rfl, _⟩ := h
    rfl
  · obtain ⟨d, pg, pm, pk, ms, ks, most, rfl, hd, hg, hm, hk, cms, lms, k1, k2, mo1, mo2, q⟩ := h
    have hu : (A.deeper (envOfC "_law_store" (defScope sSto) s.heap.objs.size f cdv)).units + 1 < cLine := by have := hr.un; omega
    refine ⟨_, pss_cons (ps_par3 (i := 3) (j := 4) (l := 5) (by rfl) scSto.nd rfl rfl rfl (by decide) (by decide) (by decide) rfl rfl rfl (pa_cons (pe_cdn GW hr (pa_cons (pv 0) (pa_cons (pe_op op_add pe_int (pe_cdn GR hr (pa_cons (pv 0) (pa_cons (pv 2) pa_nil)))) pa_nil))) (pa_cons (pe_cdn GR hr (pa_cons (pv 0) (pa_cons pe_int pa_nil))) (pa_cons pe_dnewK pa_nil))) (by rfl))
      (pss_cons (ps_for PassesOwn.never rfl (pi_enum rfl mE (pa_cons (pv 3) pa_nil)) (pg_tup (by rfl) (pgs_cons (pg_name (i := 6) scSto.nd rfl (.inl rfl)) (pgs_cons (pg_name (i := 7) scSto.nd rfl (.inl rfl)) pgs_nil)))
        (pss_cons (ps_setLc (i := 8) (own := [("_law_mark", 9)]) (g := gName 9) (te := tVar 9) (by rfl) scSto.nd rfl (by rfl) (by rfl) (pi_tup (pe_ix ix_tup (pv 1) pe_int (fun _ _ => rfl))) (blkOk_by (own := [("_law_mark", 9)]) (N := nSto) (sc := defScope sSto) (by decide +kernel)) (fun _ _ _ _ _ => pg_name (i := 9) scSto.nd rfl (Or.inl rfl)) (fun _ _ _ _ _ => pts_one (pt_cmpR op_eq (pe_cdn GR hr (pa_cons (pv 0) (pa_cons pe_int pa_nil))) pe_int (nomark _))) (fun _ _ _ _ _ => pv 9))
        (pss_one (ps_dput hu (pv 5) (pv 7) (pe_tup (pa_cons (pe_callTy call_tuple_of (by rfl) mT (by decide +kernel) (pa_cons (pv 8) pa_nil)) (pa_cons (pe_cdn GL hr (pa_cons (pv 0) (pa_cons (pv 1) (pa_cons (pv 3) (pa_cons (pv 6) (pa_cons (pv 4) pa_nil)))))) pa_nil))) rfl))))
      (pss_one (ps_ret (pv 5)))), ?_⟩
    refine ⟨.ref d, rfl, .ref d, rfl, .int most, rfl, d, most, rfl, hd, by omega, by omega, fun r H1 r0 r1 nr1 dc1 => ?_⟩
    obtain ⟨g, rfl⟩ : ∃ g : Nat, r = (g : Int) := ⟨r.toNat, by omega⟩
    refine ⟨1, g, rfl, rfl, d, 1 + g, (by rw [Int.natCast_add] <;> rfl), dc1, by omega, fun zs p0 H2 nd mz lz nr2 dc2 np0 e0 => ?_⟩
    have nrA : Nr d H H2 := nr1.trans nr2
    refine ⟨.ref d, rfl, d, 4, rfl, dc2, by decide, by decide, fun r H3 r0 r1 nr3 dc3 => ?_⟩
    obtain ⟨way, rfl⟩ : ∃ g : Nat, r = (g : Int) := ⟨r.toNat, by omega⟩
    have nrB : Nr d H H3 := nrA.trans nr3
    have d0 : d ≠ p0 := dice_ne dc1 np0
    have e3 := nr3 _ _ d0.symm e0
    intro pf nf
    have nfH : H pf = none := nr_free nrB dc3 nf
    refine ⟨_, _, _, rfl, ?_⟩
    have e4 : (upd H3 pf (.dK [])) pf = some (.dK []) := upd_same
    have s4 : Same H3 (upd H3 pf (.dK [])) := same_new nf
    generalize upd H3 pf (.dK []) = H4 at *
    have ndf : d ≠ pf := dice_ne dc3 nf
    have n0f : p0 ≠ pf := ne_of_none e3 nf
    have dpg : pg ≠ d := by
      obtain ⟨_, _, _, _, e⟩ := hd
      exact ne_of hg e (fun z => nomatch z)
    have dpm : pm ≠ d := by
      obtain ⟨_, _, _, _, e⟩ := hd
      exact ne_of hm e (fun z => nomatch z)
    have dpk : pk ≠ d := by
      obtain ⟨_, _, _, _, e⟩ := hd
      exact ne_of hk e (fun z => nomatch z)
    refine ⟨.ref p0, rfl, p0, _, rfl, lst_of (s4 _ _ e3), for_it (walk_enum (xs := zs.map V.str)) (fun i σ H' => ∃ (o6 o7 o8 : Option V) (kvs : List (Key × V)) (ps : Ps), σ = [some (.ref d), some (.ref pg), some (.int most), some (.ref p0), some (.int way), some (.ref pf), o6, o7, o8, none] ∧ Nr d H H' ∧ Dice H' d ∧ H' p0 = some (.lst (zs.map V.str)) ∧ H' pf = some (.dK kvs) ∧ PsR H' kvs ps ∧ ps.map (·.1) = zs.take i ∧ ∀ p ∈ ps, PTh ms ks zs p.2)
      ⟨none, none, none, [], [], rfl, nrB.trans s4.nr, dc3.same s4, s4 _ _ e3, e4, .nil, rfl, fun p hp => (by cases hp)⟩ (fun i σ H' _ ⟨_, _, _, _, _, _, _, _, e, _⟩ => lst_of e) ?_ ?_⟩
    · rintro i x σ G G' hi ⟨o6, o7, o8, kvs, ps, rfl, nrG, dcG, eG, fG, rG, kG, tG⟩ ⟨t, x1, y, rfl, nt, rfl, ex1, ey⟩
      have ex2 : x1 = .int (i : Nat) := (Option.some.inj ex1).symm
      subst ex2
      have hi' : i < zs.length := by simpa using hi
      have ey : (zs.map V.str)[i]? = some y := ey
      rw [List.getElem?_map, List.getElem?_eq_getElem hi'] at ey
      have ey' : V.str zs[i] = y := Option.some.inj ey
      subst ey'
      have g1 : (upd G t (.tup [.int (i : Nat), .str zs[i]])) t = some (.tup [.int (i : Nat), .str zs[i]]) := upd_same
      have s1 : Same G (upd G t (.tup [.int (i : Nat), .str zs[i]])) := same_new nt
      generalize upd G t (.tup [.int (i : Nat), .str zs[i]]) = G1 at *
      have nrG1 : Nr d H G1 := nrG.trans s1.nr
      have dcG1 := dcG.same s1
      refine ⟨t, _, rfl, tup_of g1, rfl, _, _, rfl, _, _, rfl, rfl, ?_⟩
      refine ⟨.ref pg, rfl, pg, _, 0, .ref pm, rfl, rfl, tup_of (nrG1 _ _ dpg hg), rfl, pm, rfl, ⟨_, tup_of (nrG1 _ _ dpm hm)⟩, fun D nD => lc_draw (d := d) dcG1 nD (nrG1 _ _ dpm hm) lms (fun z _ H' nr' dc' R hR => ?_) (fun z H' R h => ⟨_, rfl, h⟩) fun G2 ys nr2 dc2 sub e2 => ?_⟩
      · exact ⟨.ref d, rfl, d, 2, rfl, dc', by decide, by decide, fun r H'' r0 r1 nr'' dc'' => ⟨rfl, _, rfl, hR _ H'' nr'' dc''⟩⟩
      have f2 : G2 pf = some (.dK kvs) := nr2 _ _ ndf.symm (s1 _ _ fG)
      have r2 : PsR G2 kvs ps := (rG.kq s1.kq).kq (nr2.kq dcG1)
      have nrG2 : Nr d H G2 := nrG1.trans nr2
      refine ⟨.ref D, rfl, D, _, rfl, .inl ⟨lst_of e2, fun pa na => ?_⟩⟩
      have g3 : (upd G2 pa (.tup (ys.map V.str))) pa = some (.tup (ys.map V.str)) := upd_same
      have s3 : Same G2 (upd G2 pa (.tup (ys.map V.str))) := same_new na
      generalize upd G2 pa (.tup (ys.map V.str)) = G3 at *
      have dcG3 := dc2.same s3
      have nrG3 : Nr d H G3 := nrG2.trans s3.nr
      refine ⟨.ref d, rfl, .ref pg, rfl, .ref p0, rfl, .int (i : Nat), rfl, .int way, rfl, d, pg, pk, p0, .ref pm, ks, zs, i, way, rfl, dcG3, nrG3 _ _ dpg hg, nrG3 _ _ dpk hk, s3 _ _ (nr2 _ _ d0.symm (s1 _ _ eG)), d0, k1, k2, hi', by omega, by omega, fun pb ls G4 nr4 dc4 nb tb sl ll ml => ?_⟩
      have kq4 : Kq G3 G4 := nr4.kq dcG3
      refine ⟨by show 2 ≤ sizeLine; decide, fun pc nc => ?_⟩
      have g5 : (upd G4 pc (.tup [.ref pa, .ref pb])) pc = some (.tup [.ref pa, .ref pb]) := upd_same
      have s5 : Same G4 (upd G4 pc (.tup [.ref pa, .ref pb])) := same_new nc
      generalize upd G4 pc (.tup [.ref pa, .ref pb]) = G5 at *
      have kq5 : Kq G2 G5 := (s3.kq.trans kq4).trans s5.kq
      have f5 : G5 pf = some (.dK kvs) := s5 _ _ (nr4 _ _ ndf.symm (s3 _ _ f2))
      have lk := Paired.length rG
      have lp : ps.length = i := by
        have z := congrArg List.length kG
        rw [List.length_map, List.length_take] at z
        omega
      refine ⟨.ref pf, rfl, .str zs[i], rfl, pf, _, rfl, DPut.k (k := Sum.inr zs[i]) f5 (by rw [lk]; exact small1000 (by omega)), ?_⟩
      have miss : valV kvs (Sum.inr zs[i]) = none := rG.miss (by
        rw [kG]
        intro hm'
        obtain ⟨j, hj, e⟩ := List.getElem_of_mem hm'
        rw [List.getElem_take] at e
        rw [List.length_take] at hj
        have e2 := (List.getElem_inj nd).mp e
        omega)
      rw [putK_new _ miss]
      have nrG5 : Nr d H G5 := nrG3.trans (nr4.trans s5.nr)
      have dc5 := dc4.same s5
      have kt6 : Kt G5 (upd G5 pf (.dK (kvs ++ [(Sum.inr zs[i], .ref pc)]))) := kt_dk f5
      have tkn : zs.take (i + 1) = zs.take i ++ [zs[i]] := by rw [List.take_add_one, List.getElem?_eq_getElem hi']; rfl
      refine ⟨_, _, _, kvs ++ [(Sum.inr zs[i], .ref pc)], ps ++ [(zs[i], (Tup.mk ys, Tup.mk ls))], rfl, fun b o nb e => ?_, ?_, ?_, upd_same, ?_, ?_, fun p hp => ?_⟩
      · rw [upd_ne (ne_of_none e nfH)]
        exact nrG5 b o nb e
      · obtain ⟨x1, x2, x3, x4, x5⟩ := dc5
        exact ⟨x1, x2, x3, x4, by rw [upd_ne ndf]; exact x5⟩
      · rw [upd_ne n0f]
        exact s5 _ _ (nr4 _ _ d0.symm (s3 _ _ (nr2 _ _ d0.symm (s1 _ _ eG))))
      · refine PsR.append ((r2.kq kq5).kt kt6) (.cons ⟨rfl, ?_⟩ .nil)
        have ta : Tt G5 (.ref pa) (Tup.mk ys) := tt_tup (s5 _ _ (kq4.tup g3)) (tts_strs ys)
        exact Tt.kt (tt_pair g5 ta (tb.kq s5.kq)) kt6
      · rw [List.map_append, kG, tkn]
        rfl
      · rcases List.mem_append.mp hp with hp | hp
        · exact tG p hp
        · rw [List.mem_singleton.mp hp]
          exact ⟨canon_sub cms sub, fun z hz => sub.subset hz, sl, ml, Nat.le_trans sub.length_le lms, Nat.le_trans ll (by decide)⟩
    · rintro σ G ⟨o6, o7, o8, kvs, ps, rfl, nrG, dcG, eG, fG, rG, kG, tG⟩
      rw [List.length_map, List.take_length] at kG
      have lp : ps.length = zs.length := by
        have z := congrArg List.length kG
        rw [List.length_map] at z
        exact z
      refine ⟨.ref pf, rfl, q pf kvs ps G nrG dcG nfH fG rG ⟨by rw [kG]; exact nd, fun z hz => words_ok z (mz z (by rw [← kG]; exact hz)), fun p hp => by rw [kG]; exact tG p hp, by omega⟩ (fun z hz => mz z (by rw [← kG]; exact hz)) (by omega) (by omega)⟩
end
end Tf

/-! languages, where nothing is refused -/
namespace Tf
open PySem PySem.Spec PyProof.Rows L2
def Nms (zs : List Str) : Prop := ∀ z ∈ zs, nameB z = true
theorem Nms.canon {zs : List Str} (h : Nms zs) : Nms (L2.canon zs) := fun z hz => h z (mem_canon.mp hz)
theorem ty_tup {K : PySem.W.Frag} {H : Hp} {a : Addr} {xs : List V} (h : SqT K H a xs) : TyX K H (.ref a) (.type "tuple") := by
  rcases h with (h | ⟨o, h⟩) | h
  · exact .base (.tup h)
  · exact .fTuple h
  · obtain ⟨o, its, n, h1, h2, h3, h4⟩ := h
    exact .kTuple h1 h2
theorem flat_strs (zs : List Str) : (zs.map V.str).all flatV = true := by
  rw [List.all_map]
  exact List.all_eq_true.mpr fun _ _ => rfl
theorem inV_strs (z : Str) (zs : List Str) : inV (.str z) (zs.map V.str) = decide (z ∈ zs) := by
  unfold inV
  rw [List.any_map]
  by_cases h : z ∈ zs
  · rw [decide_eq_true h]
    exact List.any_eq_true.mpr ⟨z, h, show (z == z) = true by simp⟩
  · rw [decide_eq_false h]
    refine List.any_eq_false.mpr fun y hy e => h ?_
    have e' : (y == z) = true := e
    rw [← beq_iff_eq.mp e']
    exact hy
/-! ### different_names -/
abbrev sDn : Stmt := top 16
theorem scDn : FnScope ["values", "value"] ["values"] (defScope sDn) := ⟨rfl, rfl, rfl, by decide +kernel, rfl, by decide +kernel, by decide +kernel⟩
def spDn (K : PySem.W.Frag) : Sp := fun vs H Q _ => ∃ (a : Addr) (zs : List Str), vs = [.ref a] ∧ SqT K H a (zs.map V.str) ∧ Nms zs ∧ zs.length ≤ 60 ∧ ∀ (p : Addr) (H' : Hp), Same H H' → H p = none → H' p = some (.tup ((canon zs).map V.str)) → Q (.ref p) H'
/-! ### the class -/
abbrev sLang : Stmt := top 18
abbrev sLin : Stmt := inClass sLang 0
abbrev sLof : Stmt := inClass sLang 1
abbrev sLmk : Stmt := inClass sLang 2
abbrev sLki : Stmt := inClass sLang 3
abbrev sLeq : Stmt := inClass sLang 10
theorem scLin : FnScope ["self", "kinds", "marks", "kind"] ["self", "kinds", "marks"] (defScope sLin) := ⟨rfl, rfl, rfl, by decide +kernel, rfl, by decide +kernel, by decide +kernel⟩
theorem scLof : FnScope ["cls", "marks", "kinds"] ["cls", "marks", "kinds"] (defScope sLof) := ⟨rfl, rfl, rfl, by decide +kernel, rfl, by decide +kernel, by decide +kernel⟩
theorem scLmk : FnScope ["self"] ["self"] (defScope sLmk) := ⟨rfl, rfl, rfl, by decide +kernel, rfl, by decide +kernel, by decide +kernel⟩
theorem scLki : FnScope ["self"] ["self"] (defScope sLki) := ⟨rfl, rfl, rfl, by decide +kernel, rfl, by decide +kernel, by decide +kernel⟩
theorem scLeq : FnScope ["self", "other"] ["self", "other"] (defScope sLeq) := ⟨rfl, rfl, rfl, by decide +kernel, rfl, by decide +kernel, by decide +kernel⟩
/-- a language stands at a: its marks and kinds -/
def LangAt (C : Addr) (H : Hp) (a : Addr) (ms ks : List Str) : Prop := ∃ dx fs pm pk, H a = some (.ins C dx fs) ∧ fs.lookup ("own_marks" : Str) = some (.ref pm) ∧ fs.lookup ("own_kinds" : Str) = some (.ref pk) ∧ H pm = some (.tup (ms.map V.str)) ∧ H pk = some (.tup (ks.map V.str)) ∧ fs.map (·.1) = [("own_marks" : Str), "own_kinds"]
theorem LangAt.kq {C : Addr} {H H' : Hp} {a : Addr} {ms ks : List Str} (h : LangAt C H a ms ks) (k : Kq H H') : LangAt C H' a ms ks := by
  obtain ⟨dx, fs, pm, pk, h1, h2, h3, h4, h5, h6⟩ := h
  exact ⟨dx, fs, pm, pk, k.ins h1, h2, h3, k.tup h4, k.tup h5, h6⟩
/-- whether these marks and kinds make a language -/
def langOk (ms ks : List Str) : Bool := (decide ((canon ms).length ≤ 8) && (decide (1 ≤ (canon ks).length) && decide ((canon ks).length ≤ 4))) && !(canon ks).any fun k => decide (k ∈ canon ms)
theorem ok_parts {ms ks : List Str} (h : langOk ms ks = true) : (canon ms).length ≤ 8 ∧ 1 ≤ (canon ks).length ∧ (canon ks).length ≤ 4 ∧ ∀ z ∈ canon ks, z ∉ canon ms := by
  unfold langOk at h
  rw [Bool.and_eq_true, Bool.and_eq_true, Bool.and_eq_true, Bool.not_eq_true'] at h
  refine ⟨of_decide_eq_true h.1.1, of_decide_eq_true h.1.2.1, of_decide_eq_true h.1.2.2, fun z hz hm => ?_⟩
  exact (List.any_eq_false.mp h.2 z hz) (decide_eq_true hm)
theorem ok_of_parts {ms ks : List Str} (h1 : (canon ms).length ≤ 8) (h2 : 1 ≤ (canon ks).length) (h3 : (canon ks).length ≤ 4) (h4 : ∀ z ∈ canon ks, z ∉ canon ms) : langOk ms ks = true := by
  unfold langOk
  rw [Bool.and_eq_true, Bool.and_eq_true, Bool.and_eq_true, Bool.not_eq_true']
  refine ⟨⟨decide_eq_true h1, decide_eq_true h2, decide_eq_true h3⟩, List.any_eq_false.mpr fun z hz c => h4 z hz (of_decide_eq_true c)⟩
/-- what of the class Language the written part tells -/
structure LCls (K : PySem.W.Frag) (C : Addr) : Prop where
  cl : Cls K C
  nm : NoAttr K C "own_marks"
  nk : NoAttr K C "own_kinds"
/-- what isinstance sees of languages -/
structure LIs (K : PySem.W.Frag) (C : Addr) : Prop where
  ha : PySem.W.findIn K (.ref C) "__class__" = some (some (.builtin "object.__class__"))
  hn : PySem.W.specialIn K (.builtin "object.__class__") "__get__" = some (some (.builtin "getset_descriptor.__get__"))
  ht : PySem.W.takesIn K (.builtin "object.__class__") = some true
  hm : PySem.W.mroIn K C (.type "object") = some true
  me : PySem.W.kitOne K (.ref C) (.ref C) = some true
/-- Language(*ms, kinds = kv), self made -/
def spLin (K : PySem.W.Frag) (C : Addr) : SpK := fun vs zs H Q _ => ∃ (H0 : Hp) (x dx b : Addr) (ms ks : List Str), vs = .ref x :: ms.map V.str ∧ zs = [.ref b] ∧ H = upd (upd H0 dx (.own x)) x (.ins C dx []) ∧ H0 x = none ∧ H0 dx = none ∧ dx ≠ x ∧ SqT K H0 b (ks.map V.str) ∧ Nms ms ∧ Nms ks ∧ ms.length ≤ 60 ∧ ks.length ≤ 60 ∧ langOk ms ks = true ∧
  ∀ H', Same H0 H' → LangAt C H' x (canon ms) (canon ks) → Q .non H'
def spLbody (K : PySem.W.Frag) (C : Addr) : Sp := fun vs H Q _ => ∃ (x pm dx b : Addr) (ms ks : List Str) (H0 : Hp), vs = [.ref x, .ref b, .ref pm] ∧ Same H0 H ∧ H0 x = none ∧ H x = some (.ins C dx []) ∧ H pm = some (.tup (ms.map V.str)) ∧ SqT K H0 b (ks.map V.str) ∧ Nms ms ∧ Nms ks ∧ ms.length ≤ 60 ∧ ks.length ≤ 60 ∧ langOk ms ks = true ∧
  ∀ H', Same H0 H' → LangAt C H' x (canon ms) (canon ks) → Q .non H'
def spLof (K : PySem.W.Frag) (C : Addr) : Sp := fun vs H Q _ => ∃ (a b : Addr) (ms ks : List Str), vs = [.ref C, .ref a, .ref b] ∧ SqT K H a (ms.map V.str) ∧ SqT K H b (ks.map V.str) ∧ Nms ms ∧ Nms ks ∧ ms.length ≤ 60 ∧ ks.length ≤ 60 ∧ langOk ms ks = true ∧
  ∀ (x : Addr) (H' : Hp), Same H H' → H x = none → LangAt C H' x (canon ms) (canon ks) → Q (.ref x) H'
def spLmk (C : Addr) (b : Bool) : Sp := fun vs H Q _ => ∃ (a : Addr) (ms ks : List Str), vs = [.ref a] ∧ LangAt C H a ms ks ∧ ∀ p, H p = some (.tup ((if b then ms else ks).map V.str)) → Q (.ref p) H
/-- a value of a type that is no language -/
def NoLang (K : PySem.W.Frag) (C : Addr) (H : Hp) (y : V) : Prop := ∃ t : String, TyX K H y (.type t) ∧ PySem.W.kitOne K (.type t) (.ref C) = some false
def spLeq (K : PySem.W.Frag) (C : Addr) : Sp := fun vs H Q _ => ∃ (a : Addr) (y : V) (ms ks : List Str), vs = [.ref a, y] ∧ LangAt C H a ms ks ∧
  ((NoLang K C H y ∧ Q (.bl false) H) ∨ ∃ (b : Addr) (ms' ks' : List Str), y = .ref b ∧ LangAt C H b ms' ks' ∧ Q (.bl (decide (ms = ms') && decide (ks = ks'))) H)
section
variable {P : Program} {w : World} {K : PySem.W.Frag} {mg : Str → Option Value} {base : Heap}
theorem ok_dn {f : Addr} {fd : FuncData} {k : Nat} (F : Fun K "different_names" "different_names" sDn f fd) (GN : CdN P w K mg base k "is_name" ["value"] (spName K)) (mI : mg "isinstance" = none) (mT : mg "tuple" = none) (mA : mg "all" = none) (mS : mg "sorted" = none) (mL : mg "list" = none) : FnOk P w K mg base CX0 (k + 1) f fd ["values"] (spDn K) := by
  refine F.ok scDn (fun vs H Q E h => ?_) (fun cdv A outer s H vs Q E hr h => ?_)
  · obtain ⟨a, zs, rfl, _⟩ := h
    rfl
  · obtain ⟨a, zs, rfl, hS, nz, hl, q⟩ := h
    refine ⟨_, pss_cons (ps_if (PW.pt (pw_or (pt_not (pt_val (pe_callB call_isi (by rfl) mI (by decide +kernel) (pa_cons (pv 0) (pa_cons (pe_bltn (v := .ty "tuple") (by rfl) mT (by decide +kernel) rfl) pa_nil)))))
          (pw_or1 (pt_not (pt_val (pe_callB (cr_all rfl) (by rfl) mA (by decide +kernel) (pa_cons (pe_lc (own := [("value", 1)]) (g := gName 1) (tt := tYes) (by rfl) scDn.nd (pi_tup (pv 0)) (blkOk_by (own := [("value", 1)]) (N := ["values", "value"]) (sc := defScope sDn) (by decide +kernel)) (fun _ _ _ _ _ => pg_name (i := 1) scDn.nd rfl (Or.inl rfl)) (fun _ _ _ _ _ => pts_nil)
            (fun _ _ _ _ _ => pe_cdn GN hr (pa_cons (pv 1) pa_nil))) pa_nil)))))))
        (pss_one ps_off) pss_nil)
      (pss_one (ps_ret (pe_callTy call_tuple_of (by rfl) mT (by decide +kernel) (pa_cons (pe_callB cr_sortedS (by rfl) mS (by decide +kernel) (pa_cons (pe_callTy (call_list_dK rfl) (by rfl) mL (by decide +kernel) (pa_cons
        (pe_dc (own := [("value", 1)]) (g := gName 1) (tt := tYes) (by rfl) scDn.nd (pi_tup (pv 0)) (blkOk_by (own := [("value", 1)]) (N := ["values", "value"]) (sc := defScope sDn) (by decide +kernel)) (fun _ _ _ _ _ => pg_name (i := 1) scDn.nd rfl (Or.inl rfl)) (fun _ _ _ _ _ => pts_nil) (fun _ _ _ _ _ => pv 1) (fun _ _ _ _ _ => pe_bl)) pa_nil)) pa_nil)) pa_nil)))), ?_⟩
    refine ⟨.ref a, rfl, .ref a, .ty "tuple", .type "tuple", .type "tuple", true, rfl, .ty _, ty_tup hS, kit_ty (by decide +kernel), true, rfl, iteF ?_⟩
    refine ⟨.ref a, rfl, a, rfl, ⟨_, hS⟩, fun D nD => lc_map (h := V.str) (xs := zs) (by have := walk_tup (K := K) (a := a) (xs := zs.map V.str); rw [List.length_map] at this; exact this) rfl (fun _ => .bl true) nD (fun H2 s2 => s2.tup hS) (by omega) (fun x hx H2 s2 Q' q' => ?_) fun H2 s2 e2 => ?_⟩
    · refine ⟨_, rfl, _, rfl, .inl ⟨x, rfl, ?_⟩, .inl ⟨x, rfl⟩, fun H3 s3 => ?_⟩
      · have := nameB_len (nz x hx)
        omega
      · have e : isN (.str x) = true := nz x hx
        rw [e]
        exact q' H3 s3
    refine ⟨D, zs.map fun _ => true, rfl, lst_of (by rw [e2, List.map_map]; rfl), ?_⟩
    have e : (zs.map fun _ => true).all id = true := by
      rw [List.all_map]
      exact List.all_eq_true.mpr fun _ _ => rfl
    rw [e]
    refine ⟨true, rfl, iteF ?_⟩
    have hS2 := s2.tup hS
    refine ⟨.ref a, rfl, a, rfl, ⟨_, hS2⟩, fun D3 nD3 => dc_tup (xs := zs.map V.str) (fun i H3 => Same H2 H3 ∧ H3 D3 = some (.dK ((firsts (zs.take i)).map keyT))) ⟨same_new nD3, by rw [upd_same]; rfl⟩ (fun i H3 _ p => p.1.tup hS2) (fun i x H3 hx p => ?_) fun H3 p => ?_⟩
    · obtain ⟨s3, e3⟩ := p
      rw [List.getElem?_map] at hx
      cases hz : zs[i]? with
      | none => rw [hz] at hx; cases hx
      | some z =>
        rw [hz] at hx
        have ex : V.str z = x := Option.some.inj hx
        subst ex
        have hi : i < zs.length := (List.getElem?_eq_some_iff.mp hz).1
        have tk : zs.take (i + 1) = zs.take i ++ [z] := by rw [List.take_add_one, hz]; rfl
        refine ⟨by simp [wipe], ?_⟩
        unfold tYes
        simp only [↓reduceIte]
        refine ⟨_, rfl, _, Sum.inr z, rfl, e3, ?_, ?_, ?_⟩
        · have := firsts_len (zs.take i)
          rw [List.length_map]
          rw [List.length_take] at this
          exact small1000 (by omega)
        · exact s3.mut nD3
        · rw [upd_same, put_keyT, ← firsts_snoc, ← tk]
    · obtain ⟨s3, e3⟩ := p
      rw [List.length_map, List.take_length] at e3
      refine ⟨D3, _, rfl, e3, fun p4 n4 => ?_⟩
      have fl := firsts_len zs
      refine ⟨p4, firsts zs, rfl, lst_of ?_, by omega, fun ys p5 pm so n5 => ?_⟩
      · rw [upd_same, List.map_map]
        rfl
      · have ey : ys = canon zs := canon_is pm so
        subst ey
        refine ⟨p5, _, rfl, .inl ⟨lst_of upd_same, fun p6 n6 => ?_⟩⟩
        have s6 := ((s2.trans s3).new n4 |>.new n5).new (o := .tup ((canon zs).map V.str)) n6
        exact q p6 _ s6 (((s2.trans s3).new n4 |>.new n5).free n6) upd_same
theorem body_lin {f C : Addr} {k : Nat} {t8 t4 : Tok} (L : LCls K C) (GD : CdN P w K mg base k "different_names" ["values"] (spDn K)) (mL : mg "len" = none) (mA : mg "any" = none) (g8 : mg "MAX_MARKS" = some (.int 8 t8)) (g4 : mg "MAX_KINDS" = some (.int 4 t4))
    (cdv : Value) (A : Around) (outer : List Env) (s : Shared) (H : Hp) (vs : List V) (Q : VK) (E : XK) (hr : Room k (A.deeper (envOfC "Language.__init__" (defScope sLin) s.heap.objs.size f cdv))) (h : spLbody K C vs H Q E) :
    ∃ t, PSs (cxOf CX0 P w K mg base ["self", "kinds", "marks", "kind"] "Language.__init__" (defScope sLin) f cdv A outer s H E).nox (defBody sLin) t ∧ t { nx := fun _ H' => Q .non H', rt := Q } (start ["self", "kinds", "marks", "kind"] vs) H := by
  obtain ⟨x, pm, dx, b, ms, ks, H0, rfl, s0, nx, hx, hpm, hb, nm, nk, lm, lk, ok, q⟩ := h
  obtain ⟨o1, o2, o3, o4⟩ := ok_parts ok
  refine ⟨_, pss_cons (ps_fld (pv 0) (pe_cdn GD hr (pa_cons (pv 2) pa_nil)) rfl)
    (pss_cons (ps_fld (pv 0) (pe_cdn GD hr (pa_cons (pv 1) pa_nil)) rfl)
    (pss_cons (ps_if (PW.pt (pw_or (pt_cmpR op_gt (pe_callB call_len_seq (by rfl) mL PySem.boot_len (pa_cons (pe_fld (pv 0) rfl) pa_nil)) (pe_glob (v := .int 8) rfl g8 ⟨_, rfl⟩) (nomark _))
        (pw_or1 (pt_not (pt_chain op_le op_le pe_int (pe_callB call_len_seq (by rfl) mL PySem.boot_len (pa_cons (pe_fld (pv 0) rfl) pa_nil)) (pe_glob (v := .int 4) rfl g4 ⟨_, rfl⟩))))))
      (pss_one ps_off) pss_nil)
    (pss_one (ps_if (pt_val (pe_callB (cr_any rfl) (by rfl) mA (by decide +kernel) (pa_cons (pe_lc (own := [("kind", 3)]) (g := gName 3) (tt := tYes) (te := tOp (rIn K false) (tVar 3) (tFld K (tVar 0) "own_marks")) (by rfl) scLin.nd (pi_tup (pe_fld (pv 0) (by rfl))) (blkOk_by (own := [("kind", 3)]) (N := ["self", "kinds", "marks", "kind"]) (sc := defScope sLin) (by decide +kernel)) (fun _ _ _ _ _ => pg_name (i := 3) scLin.nd rfl (Or.inl rfl)) (fun _ _ _ _ _ => pts_nil)
          (fun _ _ _ _ _ => pe_cmpR op_in_seq (pv 3) (pe_fld (pv 0) (by rfl)) (by rfl))) pa_nil)))
      (pss_one ps_off) pss_nil)))), ?_⟩
  refine ⟨.ref pm, rfl, pm, ms, rfl, tup_of hpm, nm, lm, fun p H1 s1 np e1 => ?_⟩
  have npx : p ≠ x := (ne_of_none hx np).symm
  refine ⟨.ref x, rfl, x, C, dx, [], rfl, s1 _ _ hx, L.cl, L.nm, by decide, ?_⟩
  have s2 : Same H0 (upd H1 x (.ins C dx (putF "own_marks" (.ref p) []))) := (s0.trans s1).mut nx
  have x2 : (upd H1 x (.ins C dx (putF "own_marks" (.ref p) []))) x = some (.ins C dx [(("own_marks" : Str), .ref p)]) := upd_same
  have p2 : (upd H1 x (.ins C dx (putF "own_marks" (.ref p) []))) p = some (.tup ((canon ms).map V.str)) := by rw [upd_ne npx]; exact e1
  generalize upd H1 x (.ins C dx (putF "own_marks" (.ref p) [])) = H2 at s2 x2 p2 ⊢
  refine ⟨.ref b, rfl, b, ks, rfl, s2.tup hb, nk, lk, fun pk H3 s3 npk e3 => ?_⟩
  have nkx : pk ≠ x := (ne_of_none x2 npk).symm
  refine ⟨.ref x, rfl, x, C, dx, _, rfl, s3 _ _ x2, L.cl, L.nk, (show 1 < 1000 by decide), ?_⟩
  have s4 : Same H0 (upd H3 x (.ins C dx (putF "own_kinds" (.ref pk) [(("own_marks" : Str), .ref p)]))) := (s2.trans s3).mut nx
  have x4 : (upd H3 x (.ins C dx (putF "own_kinds" (.ref pk) [(("own_marks" : Str), .ref p)]))) x = some (.ins C dx [(("own_marks" : Str), .ref p), (("own_kinds" : Str), .ref pk)]) := upd_same
  have p4 : (upd H3 x (.ins C dx (putF "own_kinds" (.ref pk) [(("own_marks" : Str), .ref p)]))) p = some (.tup ((canon ms).map V.str)) := by rw [upd_ne npx]; exact s3 _ _ p2
  have k4 : (upd H3 x (.ins C dx (putF "own_kinds" (.ref pk) [(("own_marks" : Str), .ref p)]))) pk = some (.tup ((canon ks).map V.str)) := by rw [upd_ne nkx]; exact e3
  generalize upd H3 x (.ins C dx (putF "own_kinds" (.ref pk) [(("own_marks" : Str), .ref p)])) = H4 at s4 x4 p4 k4 ⊢
  refine ⟨.ref x, rfl, x, C, dx, _, .ref p, rfl, x4, L.cl, L.nm, rfl, p, _, rfl, .inr (tup_of p4), _, 8, rfl, rfl, _, rfl, ?_⟩
  rw [List.length_map, decide_eq_false (show ¬ ((canon ms).length : Int) > 8 by omega)]
  refine iteF ⟨.ref x, rfl, x, C, dx, _, .ref pk, rfl, x4, L.cl, L.nk, rfl, pk, _, rfl, .inr (tup_of k4), 1, _, rfl, rfl, _, rfl, ?_⟩
  rw [List.length_map, decide_eq_true (show (1 : Int) ≤ ((canon ks).length : Int) by omega)]
  refine iteT ⟨_, 4, rfl, rfl, _, rfl, ?_⟩
  rw [decide_eq_true (show ((canon ks).length : Int) ≤ 4 by omega)]
  refine iteF ?_
  refine ⟨.ref x, rfl, x, C, dx, _, .ref pk, rfl, x4, L.cl, L.nk, rfl, pk, rfl, ⟨_, tup_of k4⟩, fun D nD => lc_map (h := V.str) (xs := canon ks) (by have := walk_tup (K := K) (a := pk) (xs := (canon ks).map V.str); rw [List.length_map] at this; exact this) rfl (fun _ => .bl false) nD (fun H5 s5 => tup_of (s5 _ _ k4)) (by omega) (fun z hz H5 s5 Q' q' => ?_) fun H5 s5 e5 => ?_⟩
  · refine ⟨_, rfl, .ref x, rfl, x, C, dx, _, .ref p, rfl, s5 _ _ x4, L.cl, L.nm, rfl, p, _, rfl, .inr (tup_of (s5 _ _ p4)), rfl, flat_strs _, ?_⟩
    rw [if_neg Bool.false_ne_true, inV_strs, decide_eq_false (o4 z hz)]
    exact q' H5 (Same.refl H5)
  · refine ⟨D, (canon ks).map fun _ => false, rfl, lst_of (by rw [e5, List.map_map]; rfl), ?_⟩
    have e : ((canon ks).map fun _ => false).any id = false := by
      rw [List.any_map]
      exact List.any_eq_false.mpr fun _ _ c => by cases c
    rw [e]
    exact ⟨false, rfl, iteF (q H5 (s4.trans s5) ⟨dx, _, p, pk, s5 _ _ x4, rfl, rfl, s5 _ _ p4, s5 _ _ k4, rfl⟩)⟩
theorem fnA_imp {CX : CXT} {k : Nat} {f : Addr} {ks : List Str} {sp sp' : SpK} (F : FnA P w K mg base CX k f ks sp) (h : ∀ vs zs H Q E, sp' vs zs H Q E → sp vs zs H Q E) : FnA P w K mg base CX k f ks sp' :=
  fun A outer s H us ws vs zs Q E hr e0 r rz hs => F A outer s H us ws vs zs Q E hr e0 r rz (h _ _ _ _ _ hs)
end
end Tf

/-! languages, where nothing is refused: made, read, compared -/
namespace Tf
open PySem PySem.Spec PyProof.Rows L2
section
variable {P : Program} {w : World} {K : PySem.W.Frag} {mg : Str → Option Value} {base : Heap}
theorem ok_lin {f C : Addr} {fd : FuncData} {k : Nat} {t8 t4 : Tok} (F : Fun K "__init__" "Language.__init__" sLin f fd) (L : LCls K C) (GD : CdN P w K mg base k "different_names" ["values"] (spDn K)) (mL : mg "len" = none) (mA : mg "any" = none) (g8 : mg "MAX_MARKS" = some (.int 8 t8)) (g4 : mg "MAX_KINDS" = some (.int 4 t4)) : FnA P w K mg base CX0 (k + 1) f ["kinds"] (spLin K C) := by
  obtain ⟨oc, od, kV, doc, pm, an, cdv, ct, osl, rfl, lk, hcd⟩ := F.ex
  refine fnA_imp (fn_starK (CX := CX0) (pa := "self") (pk := "kinds") (pv := "marks") (sp := spLbody K C) lk hcd scLin StX.cxUp_none (fun a rest b => ?_) (fun A outer s H vs Q E hr h => ?_)) ?_
  · cases rest with
    | nil => rfl
    | cons r rs => rfl
  · obtain ⟨t, h1, h2⟩ := body_lin L GD mL mA g8 g4 cdv A outer s H vs Q E hr h
    exact ⟨t, h1.nox, h2⟩
  · rintro vs zs H Q E ⟨H0, x, dx, b, ms, ks, rfl, rfl, rfl, nx, nd, ne, hb, nm, nk, lm, lk', ok, q⟩
    refine ⟨.ref x, ms.map V.str, .ref b, rfl, rfl, by rw [List.length_map]; exact small1k (by omega), fun p np => ?_⟩
    have sx : Same H0 (upd (upd H0 dx (.own x)) x (.ins C dx [])) := (same_new nd).mut nx
    have px : p ≠ x := fun e => by rw [e, upd_same] at np; cases np
    exact ⟨x, p, dx, b, ms, ks, H0, rfl, sx.new np, nx, by rw [upd_ne px.symm]; exact upd_same, upd_same, hb, nm, nk, lm, lk', ok, q⟩
theorem ok_lof {f fN C : Addr} {fd : FuncData} {k : Nat} (F : Fun K "of" "Language.of" sLof f fd) (M : Mk K C fN) (GI : FnA P w K mg base CX0 k fN ["kinds"] (spLin K C)) (mI : mg "isinstance" = none) (mT : mg "tuple" = none) : FnOk P w K mg base CX0 (k + 2) f fd ["cls", "marks", "kinds"] (spLof K C) := by
  refine F.ok scLof (fun vs H Q E h => ?_) (fun cdv A outer s H vs Q E hr h => ?_)
  · obtain ⟨a, b, ms, ks, rfl, _⟩ := h
    rfl
  · obtain ⟨a, b, ms, ks, rfl, ha, hb, nm, nk, lm, lk, ok, q⟩ := h
    refine ⟨_, pss_cons (ps_if (pt_not (pt_val (pe_callB call_isi (by rfl) mI (by decide +kernel) (pa_cons (pv 1) (pa_cons (pe_bltn (v := .ty "tuple") (by rfl) mT (by decide +kernel) rfl) pa_nil)))))
        (pss_one ps_off) pss_nil)
      (pss_one (ps_ret (pe_makeSK M GI hr pass0 (pv 0) (pv 1) (pk_cons (pv 2) pk_nil)))), ?_⟩
    refine ⟨.ref a, rfl, .ref a, .ty "tuple", .type "tuple", .type "tuple", true, rfl, .ty _, ty_tup ha, kit_ty (by decide +kernel), true, rfl, iteF ?_⟩
    refine ⟨.ref C, rfl, rfl, .ref a, rfl, .ref b, rfl, a, _, rfl, .inl ha, rfl, fun x dx nx nd ne => ?_⟩
    exact ⟨H, x, dx, b, ms, ks, rfl, rfl, rfl, nx, nd, ne, hb, nm, nk, lm, lk, ok, fun H' s' l' => ⟨rfl, q x H' s' nx l'⟩⟩
theorem ok_lmk {f C : Addr} {fd : FuncData} {k : Nat} (F : Fun K "marks" "Language.marks" sLmk f fd) (L : LCls K C) : FnOk P w K mg base CX0 (k + 1) f fd ["self"] (spLmk C true) := by
  refine F.ok scLmk (fun vs H Q E h => ?_) (fun cdv A outer s H vs Q E hr h => ?_)
  · obtain ⟨a, ms, ks, rfl, _⟩ := h
    rfl
  · obtain ⟨a, ms, ks, rfl, ⟨dx, fs, pm, pk, h1, h2, h3, h4, h5, h6⟩, q⟩ := h
    exact ⟨_, pss_one (ps_ret (pe_fld (pv 0) rfl)), .ref a, rfl, a, C, dx, fs, .ref pm, rfl, h1, L.cl, L.nm, h2, q pm h4⟩
theorem ok_lki {f C : Addr} {fd : FuncData} {k : Nat} (F : Fun K "kinds" "Language.kinds" sLki f fd) (L : LCls K C) : FnOk P w K mg base CX0 (k + 1) f fd ["self"] (spLmk C false) := by
  refine F.ok scLki (fun vs H Q E h => ?_) (fun cdv A outer s H vs Q E hr h => ?_)
  · obtain ⟨a, ms, ks, rfl, _⟩ := h
    rfl
  · obtain ⟨a, ms, ks, rfl, ⟨dx, fs, pm, pk, h1, h2, h3, h4, h5, h6⟩, q⟩ := h
    exact ⟨_, pss_one (ps_ret (pe_fld (pv 0) rfl)), .ref a, rfl, a, C, dx, fs, .ref pk, rfl, h1, L.cl, L.nk, h3, q pk h5⟩
theorem ok_leq {f C : Addr} {fd : FuncData} {k : Nat} (F : Fun K "__eq__" "Language.__eq__" sLeq f fd) (L : LCls K C) (I : LIs K C) (gL : mg "Language" = some (.ref C)) (mI : mg "isinstance" = none) : FnOk P w K mg base CX0 (k + 1) f fd ["self", "other"] (spLeq K C) := by
  refine F.ok scLeq (fun vs H Q E h => ?_) (fun cdv A outer s H vs Q E hr h => ?_)
  · obtain ⟨a, y, ms, ks, rfl, _⟩ := h
    rfl
  · obtain ⟨a, y, ms, ks, rfl, ⟨dx, fs, pm, pk, h1, h2, h3, h4, h5, h6⟩, h⟩ := h
    have hu : (A.deeper (envOfC "Language.__eq__" (defScope sLeq) s.heap.objs.size f cdv)).units + 64 < cLine := by have := hr.un; omega
    refine ⟨_, pss_cons (ps_if (pt_not (pt_val (pe_callB call_isi (by rfl) mI (by decide +kernel) (pa_cons (pv 1) (pa_cons (pe_glob (v := .ref C) rfl gL rfl) pa_nil))))) (pss_one (ps_ret pe_bl)) pss_nil)
      (pss_one (ps_ret (pe_and (pe_cmpR (op_eqP hu) (pe_fld (pv 0) (by rfl)) (pe_fld (pv 1) (by rfl)) (nomark _)) (pe_one (pe_cmpR (op_eqP hu) (pe_fld (pv 0) (by rfl)) (pe_fld (pv 1) (by rfl)) (nomark _)))))), ?_⟩
    rcases h with ⟨⟨t, ht, kt⟩, q⟩ | ⟨b, ms', ks', rfl, ⟨dx', fs', pm', pk', g1, g2, g3, g4, g5, g6⟩, q⟩
    · exact ⟨y, rfl, y, .ref C, .type t, .ref C, false, rfl, .own C, ht, kt, false, rfl, iteT q⟩
    · refine ⟨.ref b, rfl, .ref b, .ref C, .ref C, .ref C, true, rfl, .own C, .base (.ins g1 L.cl I.ha I.hn I.ht I.hm), I.me, true, rfl, iteF ?_⟩
      have dm : Dt K H (.ref pm) (PySem.W.Tup.mk ms) := dt_tup (tup_of h4) (dts_strs ms)
      have dk : Dt K H (.ref pk) (PySem.W.Tup.mk ks) := dt_tup (tup_of h5) (dts_strs ks)
      have dm' : Dt K H (.ref pm') (PySem.W.Tup.mk ms') := dt_tup (tup_of g4) (dts_strs ms')
      have dk' : Dt K H (.ref pk') (PySem.W.Tup.mk ks') := dt_tup (tup_of g5) (dts_strs ks')
      have e1 : decide (PySem.W.Tup.mk ms = PySem.W.Tup.mk ms') = decide (ms = ms') := decide_eq_decide.mpr ⟨fun z => by injection z, fun z => by rw [z]⟩
      have e2 : decide (PySem.W.Tup.mk ks = PySem.W.Tup.mk ks') = decide (ks = ks') := decide_eq_decide.mpr ⟨fun z => by injection z, fun z => by rw [z]⟩
      refine ⟨.ref a, rfl, a, C, dx, fs, .ref pm, rfl, h1, L.cl, L.nm, h2, .ref b, rfl, b, C, dx', fs', .ref pm', rfl, g1, L.cl, L.nm, g2, eq_t dm dm' ⟨_, rfl, ?_⟩⟩
      rw [e1]
      by_cases c : ms = ms'
      · rw [decide_eq_true c] at q ⊢
        refine ⟨.ref a, rfl, a, C, dx, fs, .ref pk, rfl, h1, L.cl, L.nk, h3, .ref b, rfl, b, C, dx', fs', .ref pk', rfl, g1, L.cl, L.nk, g3, eq_t dk dk' ?_⟩
        rw [e2]
        exact q
      · rw [decide_eq_false c] at q ⊢
        exact q
end
end Tf

/-! stores: the looks at what is passed, different_items -/
namespace L2
open PySem PySem.Spec PyProof.Rows
def rLenS (K : PySem.W.Frag) : List V → Hp → VK → Prop := fun xs H Q => ∃ p ys, xs = [.ref p] ∧ (SqL K H p ys ∨ SqT K H p ys) ∧ Q (.int ys.length) H
theorem call_lenS {X : Cx} : CallR X (.builtin "len") (rLenS X.K) := call_len_seq
end L2
namespace Tf
open PySem PySem.Spec PyProof.Rows L2 PySem.W
abbrev sRl : Stmt := top 14
abbrev sRp : Stmt := top 22
abbrev sDi : Stmt := top 23
abbrev nRp : List Str := ["language", "things", "pair", "marks", "links", "mark", "link", "kind", "end"]
theorem scRl : FnScope ["language"] ["language"] (defScope sRl) := ⟨rfl, rfl, rfl, by decide +kernel, rfl, by decide +kernel, by decide +kernel⟩
theorem scRp : FnScope nRp ["language", "things", "pair"] (defScope sRp) := ⟨rfl, rfl, rfl, by decide +kernel, rfl, by decide +kernel, by decide +kernel⟩
theorem scDi : FnScope ["items", "item"] ["items"] (defScope sDi) := ⟨rfl, rfl, rfl, by decide +kernel, rfl, by decide +kernel, by decide +kernel⟩
def spRl (C : Addr) : Sp := fun vs H Q _ => ∃ (a : Addr) (ms ks : List Str), vs = [.ref a] ∧ LangAt C H a ms ks ∧ Q .non H
/-- marks of the language, links of its kinds to things: in any order, also repeated -/
structure PIn (ms ks names : List Str) (p : Pr) : Prop where
  mm : ∀ z ∈ p.1.items, z ∈ ms
  ml : ∀ e ∈ p.2.items, e.1 ∈ ks ∧ e.2 ∈ names
  l1 : p.1.items.length ≤ 60
  l2 : p.2.items.length ≤ 60
theorem PTh.inp {ms ks ns : List Str} {p : Pr} (h : PTh ms ks ns p) : PIn ms ks ns p := ⟨h.mm, h.ml, h.l1, Nat.le_trans h.l2 (by decide)⟩
def spRp (C : Addr) : Sp := fun vs H Q _ => ∃ (a t : Addr) (v : V) (ms ks : List Str) (kvs : List (Key × V)) (ps : Ps) (p : Pr), vs = [.ref a, .ref t, v] ∧ LangAt C H a ms ks ∧ Rd H t (.dK kvs) ∧ PsR H kvs ps ∧ Tt H v p ∧ PIn ms ks (ps.map (·.1)) p ∧ ∀ H', Same H H' → Q .non H'
def spDiS : Sp := fun vs H Q _ => ∃ (a : Addr) (zs : List Str), vs = [.ref a] ∧ H a = some (.tup (zs.map V.str)) ∧ zs.length ≤ 60 ∧ ∀ (p : Addr) (H' : Hp), Same H H' → H p = none → H' p = some (.tup ((canon zs).map V.str)) → Q (.ref p) H'
def spDiP : Sp := fun vs H Q _ => ∃ (v : V) (ls : List (Str × Str)), vs = [v] ∧ Tt H v (Tup.mk ls) ∧ ls.length ≤ 60 ∧ ∀ (p : Addr) (H' : Hp), Same H H' → H p = none → Tt H' (.ref p) (Tup.mk (setO ls)) → Q (.ref p) H'
theorem keyP (x y : Str) : ([Sum.inr x, Sum.inr y] : List Key).map kV = [.str x, .str y] := rfl
abbrev kP (e : Str × Str) : List Key := [Sum.inr e.1, Sum.inr e.2]
theorem kP_inj {a b : Str × Str} (h : kP a = kP b) : a = b := by
  injection h with h1 h2
  injection h2 with h2 _
  exact Prod.ext (Sum.inr.inj h1) (Sum.inr.inj h2)
abbrev keyU (e : Str × Str) : List Key × V := (kP e, .bl true)
theorem put_keyU (L : List (Str × Str)) (x : Str × Str) : putK (L.map keyU) (kP x) (.bl true) = (if x ∈ L then L else L ++ [x]).map keyU := by
  unfold putK
  by_cases h : x ∈ L
  · have e : ((L.map keyU).any fun kv => decide (kv.1 = kP x)) = true := List.any_eq_true.mpr ⟨keyU x, List.mem_map.mpr ⟨x, h, rfl⟩, decide_eq_true rfl⟩
    rw [if_pos e, if_pos h, List.map_map]
    refine List.map_congr_left fun z _ => ?_
    show (if kP z = kP x then (kP z, V.bl true) else keyU z) = keyU z
    split <;> rfl
  · have e : ¬ (((L.map keyU).any fun kv => decide (kv.1 = kP x)) = true) := fun z => by
      obtain ⟨kv, hm, hk⟩ := List.any_eq_true.mp z
      obtain ⟨y, hy, rfl⟩ := List.mem_map.mp hm
      have ey : kP y = kP x := of_decide_eq_true hk
      exact h (by rw [← kP_inj ey]; exact hy)
    rw [if_neg e, if_neg h, List.map_append]
    rfl
theorem keys_back {H : Hp} : ∀ {L : List (Str × Str)} {bs : List Addr}, IsKeys H (L.map keyU) bs → ∃ zs : List (Addr × (Str × Str)), bs = zs.map (·.1) ∧ L = zs.map (·.2) ∧ ∀ z ∈ zs, Tt H (.ref z.1) z.2
  | [], _, .nil => ⟨[], rfl, rfl, fun z hz => by cases hz⟩
  | e :: L, _, .cons (b := b) h r => by
    obtain ⟨zs, e1, e2, e3⟩ := keys_back r
    refine ⟨(b, e) :: zs, by rw [e1]; rfl, by rw [e2]; rfl, fun z hz => ?_⟩
    rcases List.mem_cons.mp hz with rfl | hz
    · exact tt_pair h tt_str tt_str
    · exact e3 z hz
section
variable {P : Program} {w : World} {K : PySem.W.Frag} {mg : Str → Option Value} {base : Heap}
theorem ok_rl {f C : Addr} {fd : FuncData} {k : Nat} (F : Fun K "require_language" "require_language" sRl f fd) (L : LCls K C) (I : LIs K C) (gC : mg "Language" = some (.ref C)) (mI : mg "isinstance" = none) : FnOk P w K mg base CX0 (k + 1) f fd ["language"] (spRl C) := by
  refine F.ok scRl (fun vs H Q E h => ?_) (fun cdv A outer s H vs Q E hr h => ?_)
  · obtain ⟨a, ms, ks, rfl, _⟩ := h
    rfl
  · obtain ⟨a, ms, ks, rfl, ⟨dx, fs, pm, pk, h1, _⟩, q⟩ := h
    exact ⟨_, pss_one (ps_if (pt_not (pt_val (pe_callB call_isi (by rfl) mI (by decide +kernel) (pa_cons (pv 0) (pa_cons (pe_glob (v := .ref C) rfl gC rfl) pa_nil))))) (pss_one ps_off) pss_nil),
      .ref a, rfl, .ref a, .ref C, .ref C, .ref C, true, rfl, .own C, .base (.ins h1 L.cl I.ha I.hn I.ht I.hm), I.me, true, rfl, iteF q⟩
theorem ok_dis {f : Addr} {fd : FuncData} {k : Nat} (F : Fun K "different_items" "different_items" sDi f fd) (mT : mg "tuple" = none) (mS : mg "sorted" = none) (mL : mg "list" = none) : FnOk P w K mg base CX0 (k + 1) f fd ["items"] spDiS := by
  refine F.ok scDi (fun vs H Q E h => ?_) (fun cdv A outer s H vs Q E hr h => ?_)
  · obtain ⟨a, zs, rfl, _⟩ := h
    rfl
  · obtain ⟨a, zs, rfl, ha, hl, q⟩ := h
    have hS : SqT K H a (zs.map V.str) := tup_of ha
    refine ⟨_, pss_one (ps_ret (pe_callTy call_tuple_of (by rfl) mT (by decide +kernel) (pa_cons (pe_callB cr_sortedS (by rfl) mS (by decide +kernel) (pa_cons (pe_callTy (call_list_dK rfl) (by rfl) mL (by decide +kernel) (pa_cons
        (pe_dc (own := [("item", 1)]) (g := gName 1) (tt := tYes) (by rfl) scDi.nd (pi_tup (pv 0)) (blkOk_by (own := [("item", 1)]) (N := ["items", "item"]) (sc := defScope sDi) (by decide +kernel)) (fun _ _ _ _ _ => pg_name (i := 1) scDi.nd rfl (Or.inl rfl)) (fun _ _ _ _ _ => pts_nil) (fun _ _ _ _ _ => pv 1) (fun _ _ _ _ _ => pe_bl)) pa_nil)) pa_nil)) pa_nil))), ?_⟩
    refine ⟨.ref a, rfl, a, rfl, ⟨_, hS⟩, fun D3 nD3 => dc_tup (xs := zs.map V.str) (fun i H3 => Same H H3 ∧ H3 D3 = some (.dK ((firsts (zs.take i)).map keyT))) ⟨same_new nD3, by rw [upd_same]; rfl⟩ (fun i H3 _ p => p.1.tup hS) (fun i x H3 hx p => ?_) fun H3 p => ?_⟩
    · obtain ⟨s3, e3⟩ := p
      rw [List.getElem?_map] at hx
      cases hz : zs[i]? with
      | none => rw [hz] at hx; cases hx
      | some z =>
        rw [hz] at hx
        have ex : V.str z = x := Option.some.inj hx
        subst ex
        have hi : i < zs.length := (List.getElem?_eq_some_iff.mp hz).1
        have tk : zs.take (i + 1) = zs.take i ++ [z] := by rw [List.take_add_one, hz]; rfl
        refine ⟨by simp [wipe], ?_⟩
        unfold tYes
        simp only [↓reduceIte]
        refine ⟨_, rfl, _, Sum.inr z, rfl, e3, ?_, ?_, ?_⟩
        · have := firsts_len (zs.take i)
          rw [List.length_map]
          rw [List.length_take] at this
          exact small1000 (by omega)
        · exact s3.mut nD3
        · rw [upd_same, put_keyT, ← firsts_snoc, ← tk]
    · obtain ⟨s3, e3⟩ := p
      rw [List.length_map, List.take_length] at e3
      refine ⟨D3, _, rfl, e3, fun p4 n4 => ?_⟩
      have fl := firsts_len zs
      refine ⟨p4, firsts zs, rfl, lst_of ?_, by omega, fun ys p5 pm so n5 => ?_⟩
      · rw [upd_same, List.map_map]
        rfl
      · have ey : ys = canon zs := canon_is pm so
        subst ey
        refine ⟨p5, _, rfl, .inl ⟨lst_of upd_same, fun p6 n6 => ?_⟩⟩
        have s6 := (s3.new n4 |>.new n5).new (o := .tup ((canon zs).map V.str)) n6
        exact q p6 _ s6 ((s3.new n4 |>.new n5).free n6) upd_same
theorem ok_dip {f : Addr} {fd : FuncData} {k : Nat} (F : Fun K "different_items" "different_items" sDi f fd) (mT : mg "tuple" = none) (mS : mg "sorted" = none) (mL : mg "list" = none) : FnOk P w K mg base CX0 (k + 1) f fd ["items"] spDiP := by
  refine F.ok scDi (fun vs H Q E h => ?_) (fun cdv A outer s H vs Q E hr h => ?_)
  · obtain ⟨v, ls, rfl, _⟩ := h
    rfl
  · obtain ⟨v, ls, rfl, hv, hl, q⟩ := h
    have hu : (A.deeper (envOfC "different_items" (defScope sDi) s.heap.objs.size f cdv)).units + 70 < cLine := by have := hr.un; omega
    have hu1 : (A.deeper (envOfC "different_items" (defScope sDi) s.heap.objs.size f cdv)).units + 1 < cLine := by omega
    obtain ⟨a, us, rfl, ha, tu⟩ := hv.tup
    obtain ⟨zs, rfl, rfl, tz⟩ := Tts.refs tu
    have hS : SqT K H a (zs.map fun z => V.ref z.1) := tup_of ha
    refine ⟨_, pss_one (ps_ret (pe_callTy call_tuple_of (by rfl) mT (by decide +kernel) (pa_cons (pe_callB (cr_sortA (α := Str × Str) hu) (by rfl) mS (by decide +kernel) (pa_cons (pe_callTy (call_list_dT rfl) (by rfl) mL (by decide +kernel) (pa_cons
        (TfG2.pe_dg (k := TfG2.kT) (own := [("item", 1)]) (g := gName 1) (tt := tYes) TfG2.kT_ok hu1 (by rfl) scDi.nd (pi_tup (pv 0)) (blkOk_by (own := [("item", 1)]) (N := ["items", "item"]) (sc := defScope sDi) (by decide +kernel)) (fun _ _ _ _ _ => pg_name (i := 1) scDi.nd rfl (Or.inl rfl)) (fun _ _ _ _ _ => pts_nil) (fun _ _ _ _ _ => pv 1) (fun _ _ _ _ _ => pe_bl)) pa_nil)) pa_nil)) pa_nil))), ?_⟩
    rw [List.length_map] at hl
    refine ⟨.ref a, rfl, a, rfl, ⟨_, hS⟩, fun D nD => ?_⟩
    refine ⟨fun i m H3 => m = zs.length - i ∧ i ≤ zs.length ∧ Same H H3 ∧ H3 D = some (.dT ((onceO ((zs.take i).map (·.2))).map keyU)), ⟨zs.length, by simp, Nat.zero_le _, same_new nD, upd_same⟩, ?_⟩
    rintro i m H3 ⟨rfl, hi, s3, e3⟩
    by_cases lt : i < zs.length
    · refine .inr ⟨⟨_, .ref zs[i].1, s3.tup hS, by rw [List.getElem?_map, List.getElem?_eq_getElem lt]; rfl⟩, fun H4 => Same H H4 ∧ H4 D = some (.dT ((onceO ((zs.take (i + 1)).map (·.2))).map keyU)), fun H4 ⟨s4, e4⟩ => ⟨zs.length - (i + 1), by omega, rfl, lt, s4, e4⟩, fun x H4 y => ?_⟩
      obtain ⟨rfl, y⟩ := y
      have ex := y _ (s3.tup hS)
      rw [List.getElem?_map, List.getElem?_eq_getElem lt] at ex
      have ex' : V.ref zs[i].1 = x := Option.some.inj ex
      subst ex'
      have tk : zs.take (i + 1) = zs.take i ++ [zs[i]] := by rw [List.take_add_one, List.getElem?_eq_getElem lt]; rfl
      refine ⟨by simp [wipe], ?_⟩
      unfold tYes
      simp only [↓reduceIte]
      obtain ⟨b, u1, u2, eb, hb, t1, t2⟩ := (tz zs[i] (List.getElem_mem lt)).pair
      have eb' : zs[i].1 = b := by injection eb
      subst eb'
      rw [t1.str, t2.str] at hb
      refine ⟨_, rfl, _, ⟨_, kP zs[i].2, zs[i].1, rfl, e3, s3 _ _ hb, ?_, rfl⟩, s3.mut nD, ?_⟩
      · have := onceO_len ((zs.take i).map (·.2))
        rw [List.length_map]
        rw [List.length_map, List.length_take] at this
        exact small1000 (by omega)
      · rw [upd_same, put_keyU, tk, List.map_append, List.map_singleton, onceO_snoc]
        by_cases hm : zs[i].2 ∈ onceO ((zs.take i).map (·.2))
        · rw [if_pos hm, if_pos hm]
        · rw [if_neg hm, if_neg hm]
    · have e : i = zs.length := by omega
      subst e
      rw [List.take_length] at e3
      refine .inl ⟨⟨_, s3.tup hS, by rw [List.length_map]; exact Nat.le_refl _⟩, ?_⟩
      refine ⟨D, _, rfl, .inl e3, fun p4 bs n4 kb => ?_⟩
      obtain ⟨ws, rfl, ew, tw⟩ := keys_back kb
      have lw : ws.length ≤ 60 := by
        have z := congrArg List.length ew
        have := onceO_len (zs.map (·.2))
        rw [List.length_map] at z this
        omega
      rw [List.map_map]
      have e4 : (upd H3 p4 (.lst (ws.map (V.ref ∘ fun x => x.1)))) p4 = some (.lst (ws.map (V.ref ∘ fun x => x.1))) := upd_same
      have s4 : Same H3 (upd H3 p4 (.lst (ws.map (V.ref ∘ fun x => x.1)))) := same_new n4
      generalize upd H3 p4 (.lst (ws.map (V.ref ∘ fun x => x.1))) = H4 at *
      refine ⟨p4, ws.map fun z => (V.ref z.1, z.2), rfl, lst_of (by rw [e4, List.map_map]; rfl), fun b hb => ?_, by rw [List.length_map]; omega, fun cs p5 pm so n5 => ?_⟩
      · obtain ⟨z, hz, rfl⟩ := List.mem_map.mp hb
        exact ((tw z hz).kq s4.kq).dt
      have e5 : (upd H4 p5 (.lst (cs.map (·.1)))) p5 = some (.lst (cs.map (·.1))) := upd_same
      have s5 : Same H4 (upd H4 p5 (.lst (cs.map (·.1)))) := same_new n5
      generalize upd H4 p5 (.lst (cs.map (·.1))) = H5 at *
      refine ⟨p5, _, rfl, .inl ⟨lst_of e5, fun p6 n6 => ?_⟩⟩
      have f6 : H p6 = none := (s3.trans (s4.trans s5)).free n6
      have e6 : (upd H5 p6 (.tup (cs.map (·.1)))) p6 = some (.tup (cs.map (·.1))) := upd_same
      have s6 : Same H5 (upd H5 p6 (.tup (cs.map (·.1)))) := same_new n6
      generalize upd H5 p6 (.tup (cs.map (·.1))) = H6 at *
      refine q p6 H6 (s3.trans (s4.trans (s5.trans s6))) f6 ?_
      have ec : cs.map (·.2) = setO (zs.map (·.2)) := by
        rw [so, List.map_map]
        show sortO (ws.map (·.2)) = _
        rw [← ew]
        rfl
      rw [← ec]
      refine tt_tup e6 ?_
      have all : ∀ c ∈ cs, Tt H6 c.1 c.2 := fun c hc => by
        obtain ⟨z, hz, rfl⟩ := List.mem_map.mp (pm.mem_iff.mp hc)
        exact (tw z hz).kq (s4.trans (s5.trans s6)).kq
      clear e5 e6 so ec pm
      induction cs with
      | nil => exact .nil
      | cons c cs ih => exact .cons (all c List.mem_cons_self) (ih fun d hd => all d (List.mem_cons_of_mem _ hd))
end
end Tf

/-! stores: require_pair -/
namespace Tf
open PySem PySem.Spec PyProof.Rows L2 PySem.W
section
variable {P : Program} {w : World} {K : PySem.W.Frag} {mg : Str → Option Value} {base : Heap}
abbrev tIsa (K : PySem.W.Frag) (i : Nat) (ty : String) : TE := tCB (rIsi K) (tCons (tVar i) (tCons (tC (.ty ty)) tNil))
theorem all_true {α : Type} (xs : List α) : (xs.map fun _ => true).all id = true := by
  rw [List.all_map]
  exact List.all_eq_true.mpr fun _ _ => rfl
theorem ok_rp {f C : Addr} {fd : FuncData} {k : Nat} (F : Fun K "require_pair" "require_pair" sRp f fd) (L : LCls K C) (PM : PpN P w K mg base k C "marks" (spLmk C true)) (PK : PpN P w K mg base k C "kinds" (spLmk C false))
    (mI : mg "isinstance" = none) (mT : mg "tuple" = none) (mN : mg "len" = none) (mA : mg "all" = none) (mS : mg "str" = none) : FnOk P w K mg base CX0 (k + 2) f fd ["language", "things", "pair"] (spRp C) := by
  refine F.ok scRp (fun vs H Q E h => ?_) (fun cdv A outer s H vs Q E hr h => ?_)
  · obtain ⟨a, t, v, ms, ks, kvs, ps, p, rfl, _⟩ := h
    rfl
  · obtain ⟨a, t, v, ms, ks, kvs, ps, p, rfl, hL, ht, hps, hv, hp, q⟩ := h
    have hu : (A.deeper (envOfC "require_pair" (defScope sRp) s.heap.objs.size f cdv)).units + 1 < cLine := by have := hr.un; omega
    refine ⟨_, pss_cons (ps_if (PW.pt (pw_or (pt_not (pt_val (pe_callB call_isi (by rfl) mI (by decide +kernel) (pa_cons (pv 2) (pa_cons (pe_bltn (v := .ty "tuple") (by rfl) mT (by decide +kernel) rfl) pa_nil))))) (pw_or1 (pt_cmpR op_ne (pe_callB call_lenS (by rfl) mN PySem.boot_len (pa_cons (pv 2) pa_nil)) pe_int (nomark _))))) (pss_one ps_off) pss_nil)
      (pss_cons (ps_asg (pv 2) (pg_tup (by rfl) (pgs_cons (pg_name (i := 3) scRp.nd rfl (.inl rfl)) (pgs_cons (pg_name (i := 4) scRp.nd rfl (.inl rfl)) pgs_nil))))
      (pss_cons (ps_if (PW.pt (pw_or (pt_not (pt_val (pe_callB call_isi (by rfl) mI (by decide +kernel) (pa_cons (pv 3) (pa_cons (pe_bltn (v := .ty "tuple") (by rfl) mT (by decide +kernel) rfl) pa_nil))))) (pw_or1 (pt_not (pt_val (pe_callB (cr_all rfl) (by rfl) mA (by decide +kernel) (pa_cons
          (pe_lc (own := [("mark", 5)]) (g := gName 5) (tt := tYes) (te := tOp (rIn K false) (tVar 5) (tProp C (spLmk C true) [] E0 (tVar 0))) (by rfl) scRp.nd (pi_tup (pv 3)) (blkOk_by (own := [("mark", 5)]) (N := nRp) (sc := defScope sRp) (by decide +kernel)) (fun _ _ _ _ _ => pg_name (i := 5) scRp.nd rfl (Or.inl rfl)) (fun _ _ _ _ _ => pts_nil)
            (fun _ _ _ _ _ => pe_cmpR op_in_seq (pv 5) (pe_ppn L.cl PM hr (pv 0)) (by rfl))) pa_nil))))))) (pss_one ps_off) pss_nil)
      (pss_cons (ps_if (PW.pt (pw_or (pt_not (pt_val (pe_callB call_isi (by rfl) mI (by decide +kernel) (pa_cons (pv 4) (pa_cons (pe_bltn (v := .ty "tuple") (by rfl) mT (by decide +kernel) rfl) pa_nil))))) (pw_or1 (pt_not (pt_val (pe_callB (cr_all rfl) (by rfl) mA (by decide +kernel) (pa_cons
          (pe_lc (own := [("link", 6)]) (g := gName 6) (tt := tYes) (te := tAndV (tIsa K 6 "tuple") (tOp rEq (tCB (rLenS K) (tCons (tVar 6) tNil)) (tC (.int 2)))) (by rfl) scRp.nd (pi_tup (pv 4)) (blkOk_by (own := [("link", 6)]) (N := nRp) (sc := defScope sRp) (by decide +kernel)) (fun _ _ _ _ _ => pg_name (i := 6) scRp.nd rfl (Or.inl rfl)) (fun _ _ _ _ _ => pts_nil)
            (fun _ _ _ _ _ => pe_and (pe_callB call_isi (by rfl) mI (by decide +kernel) (pa_cons (pv 6) (pa_cons (pe_bltn (v := .ty "tuple") (by rfl) mT (by decide +kernel) rfl) pa_nil))) (pe_one (pe_cmpR op_eq (pe_callB call_lenS (by rfl) mN PySem.boot_len (pa_cons (pv 6) pa_nil)) pe_int (nomark _))))) pa_nil))))))) (pss_one ps_off) pss_nil)
      (pss_one (ps_if (pt_not (pt_val (pe_callB (cr_all rfl) (by rfl) mA (by decide +kernel) (pa_cons
          (pe_lc (own := [("kind", 7), ("end", 8)]) (g := gTup K 2 (gCons (gName 7) (gCons (gName 8) gNil))) (tt := tYes) (te := tAndV (tOp (rIn K false) (tVar 7) (tProp C (spLmk C false) [] E0 (tVar 0))) (tAndV (tIsa K 8 "str") (tDIn (tVar 8) (tVar 1)))) (by rfl) scRp.nd (pi_tup (pv 4)) (blkOk_by (own := [("kind", 7), ("end", 8)]) (N := nRp) (sc := defScope sRp) (by decide +kernel)) (fun _ _ _ _ _ => pg_tup (by rfl) (pgs_cons (pg_name (i := 7) scRp.nd rfl (Or.inl rfl)) (pgs_cons (pg_name (i := 8) scRp.nd rfl (Or.inl rfl)) pgs_nil))) (fun _ _ _ _ _ => pts_nil)
            (fun _ _ _ _ _ => pe_and (pe_cmpR op_in_seq (pv 7) (pe_ppn L.cl PK hr (pv 0)) (by rfl)) (pe_and (pe_callB call_isi (by rfl) mI (by decide +kernel) (pa_cons (pv 8) (pa_cons (pe_bltn (v := .ty "str") (by rfl) mS (by decide +kernel) rfl) pa_nil))) (pe_one (pe_cmp (pc_din hu (pv 8) (pv 1)) (by rfl)))))) pa_nil)))) (pss_one ps_off) pss_nil))))), ?_⟩
    obtain ⟨b, u1, u2, rfl, hb, t1, t2⟩ := hv.pair
    obtain ⟨am, vm, rfl, ham, tm⟩ := t1.tup
    obtain ⟨al, vl, rfl, hal, tl⟩ := t2.tup
    have em := Tts.strs tm
    subst em
    obtain ⟨zl, rfl, el, tz⟩ := Tts.refs tl
    -- a pair
    refine ⟨.ref b, rfl, .ref b, .ty "tuple", .type "tuple", .type "tuple", true, rfl, .ty _, ty_tup (tup_of hb), kit_ty (by decide +kernel), true, rfl, iteF ?_⟩
    refine ⟨.ref b, rfl, b, _, rfl, .inr (tup_of hb), rfl, false, rfl, iteF ?_⟩
    refine ⟨.ref b, rfl, b, _, rfl, tup_of hb, rfl, _, _, rfl, _, _, rfl, rfl, ?_⟩
    -- its marks
    refine ⟨.ref am, rfl, .ref am, .ty "tuple", .type "tuple", .type "tuple", true, rfl, .ty _, ty_tup (tup_of ham), kit_ty (by decide +kernel), true, rfl, iteF ?_⟩
    refine ⟨.ref am, rfl, am, rfl, ⟨_, tup_of ham⟩, fun D nD => lc_map (h := V.str) (xs := p.1.items) (by have := walk_tup (K := K) (a := am) (xs := p.1.items.map V.str); rw [List.length_map] at this; exact this) rfl (fun _ => .bl true) nD (fun H2 s2 => tup_of (s2 _ _ ham)) (by have := hp.l1; omega) (fun z hz H2 s2 Q' q' => ?_) fun H2 s2 e2 => ?_⟩
    · obtain ⟨dx, fs, pm, pk, h1, h2, h3, h4, h5, h6⟩ := hL
      refine ⟨_, rfl, .ref a, rfl, a, dx, fs, rfl, s2 _ _ h1, a, ms, ks, rfl, ⟨dx, fs, pm, pk, s2 _ _ h1, h2, h3, s2 _ _ h4, s2 _ _ h5, h6⟩, fun p' hp' => ⟨p', _, rfl, .inr (tup_of hp'), rfl, flat_strs _, ?_⟩⟩
      rw [if_pos rfl, inV_strs, decide_eq_true (hp.mm z hz)]
      exact q' H2 (Same.refl H2)
    refine ⟨D, p.1.items.map fun _ => true, rfl, lst_of (by rw [e2, List.map_map]; rfl), ?_⟩
    rw [all_true]
    refine ⟨true, rfl, iteF ?_⟩
    have hal2 := s2 _ _ hal
    -- its links are pairs
    refine ⟨.ref al, rfl, .ref al, .ty "tuple", .type "tuple", .type "tuple", true, rfl, .ty _, ty_tup (tup_of hal2), kit_ty (by decide +kernel), true, rfl, iteF ?_⟩
    have lz : zl.length ≤ 60 := by
      have z := hp.l2
      rw [el, List.length_map] at z
      exact z
    refine ⟨.ref al, rfl, al, rfl, ⟨_, tup_of hal2⟩, fun D3 nD3 => lc_map (h := fun z : Addr × (Str × Str) => V.ref z.1) (xs := zl) (by have := walk_tup (K := K) (a := al) (xs := zl.map fun z => V.ref z.1); rw [List.length_map] at this; exact this) rfl (fun _ => .bl true) nD3 (fun H3 s3 => tup_of (s3 _ _ hal2)) (by omega) (fun z hz H3 s3 Q' q' => ?_) fun H3 s3 e3 => ?_⟩
    · obtain ⟨c, x1, x2, ec, hc, _, _⟩ := (tz z hz).pair
      have ec' : z.1 = c := by injection ec
      subst ec'
      have hc3 := s3 _ _ (s2 _ _ hc)
      exact ⟨_, rfl, _, .ty "tuple", .type "tuple", .type "tuple", true, rfl, .ty _, ty_tup (tup_of hc3), kit_ty (by decide +kernel), true, rfl, iteT ⟨_, rfl, z.1, _, rfl, .inr (tup_of hc3), rfl, q' H3 (Same.refl H3)⟩⟩
    refine ⟨D3, zl.map fun _ => true, rfl, lst_of (by rw [e3, List.map_map]; rfl), ?_⟩
    rw [all_true]
    refine ⟨true, rfl, iteF ?_⟩
    have s23 := s2.trans s3
    have hal3 := s3 _ _ hal2
    -- of the language, to things
    refine ⟨.ref al, rfl, al, rfl, ⟨_, tup_of hal3⟩, fun D4 nD4 => lc_ong (h := fun z : Addr × (Str × Str) => V.ref z.1) (xs := zl) (vs := [7, 8]) (by have := walk_tup (K := K) (a := al) (xs := zl.map fun z => V.ref z.1); rw [List.length_map] at this; exact this) rfl (fun z => [some (.ref a), some (.ref t), some (.ref b), some (.ref am), some (.ref al), none, none, some (.str z.2.1), some (.str z.2.2)]) (fun _ => true) (fun _ => .bl true) nD4 (fun H4 s4 => tup_of (s4 _ _ hal3)) (by omega) (fun z hz H4 s4 R hR => ?_) (fun z hz => rfl) (fun z hz H4 s4 => tto_yes) (fun z hz _ H4 s4 Q' q' => ?_) fun H4 s4 e4 => ?_⟩
    · obtain ⟨c, x1, x2, ec, hc, y1, y2⟩ := (tz z hz).pair
      have ec' : z.1 = c := by injection ec
      subst ec'
      rw [y1.str, y2.str] at hc
      exact ⟨z.1, _, rfl, tup_of (s4 _ _ (s23 _ _ hc)), rfl, _, _, rfl, _, _, rfl, rfl, hR⟩
    · obtain ⟨dx, fs, pm, pk, h1, h2, h3, h4, h5, h6⟩ := hL
      have S := s23.trans s4
      have mz : z.2 ∈ p.2.items := by
        rw [el]
        exact List.mem_map.mpr ⟨z, hz, rfl⟩
      obtain ⟨m1, m2⟩ := hp.ml _ mz
      refine ⟨_, rfl, .ref a, rfl, a, dx, fs, rfl, S _ _ h1, a, ms, ks, rfl, ⟨dx, fs, pm, pk, S _ _ h1, h2, h3, S _ _ h4, S _ _ h5, h6⟩, fun p' hp' => ⟨p', _, rfl, .inr (tup_of hp'), rfl, flat_strs _, ?_⟩⟩
      rw [if_neg Bool.false_ne_true, if_neg Bool.false_ne_true, inV_strs, decide_eq_true m1]
      refine ⟨true, rfl, iteT ⟨_, rfl, _, .ty "str", .type "str", .type "str", true, rfl, .ty _, .base (.str _), kit_ty (by decide +kernel), true, rfl, iteT ?_⟩⟩
      obtain ⟨v', x', hv', _, _⟩ := hps.hit m2
      refine ⟨_, rfl, .ref t, rfl, t, _, rfl, .inl ⟨kvs, Sum.inr z.2.2, S.le.dk ht, rfl, rfl⟩, ?_⟩
      rw [hv']
      exact q' H4 (Same.refl H4)
    refine ⟨D4, zl.map fun _ => true, rfl, lst_of (by rw [e4, fil_true, List.map_map]; rfl), ?_⟩
    rw [all_true]
    exact ⟨true, rfl, iteF (q H4 (s23.trans s4))⟩
end
end Tf

/-! stores: checked_things, Store.of -/
namespace Tf
open PySem PySem.Spec PyProof.Rows L2 PySem.W
abbrev sCk : Stmt := top 24
abbrev nCk : List Str := ["language", "things", "thing", "found", "marks", "links"]
theorem scCk : FnScope nCk ["language", "things"] (defScope sCk) := ⟨rfl, rfl, rfl, by decide +kernel, rfl, by decide +kernel, by decide +kernel⟩
/-- marks and links, each once, ascending -/
def normP (p : Pr) : Pr := (⟨canon p.1.items⟩, ⟨setO p.2.items⟩)
def getP (ps : Ps) (z : Str) : Pr := (look ps z).getD (⟨[]⟩, ⟨[]⟩)
/-- the things ascending -/
def normS (ps : Ps) : Ps := (canon (ps.map (·.1))).map fun z => (z, normP (getP ps z))
/-- what may be passed as a store -/
structure SIn (ms ks : List Str) (ps : Ps) : Prop where
  nd : (ps.map (·.1)).Nodup
  wd : ∀ z ∈ ps.map (·.1), nameB z = true
  th : ∀ p ∈ ps, PIn ms ks (ps.map (·.1)) p.2
  len : ps.length ≤ 60
theorem PSt.sin {ms ks : List Str} {ps : Ps} (h : PSt ms ks ps) : SIn ms ks ps := ⟨h.nd, h.wd, fun p hp => (h.th p hp).inp, h.len⟩
theorem look_mem {ps : Ps} (nd : (ps.map (·.1)).Nodup) {z : Str} {x : Pr} (h : (z, x) ∈ ps) : look ps z = some x := by
  induction ps with
  | nil => cases h
  | cons p ps ih =>
    rw [List.map_cons, List.nodup_cons] at nd
    unfold look
    by_cases e : p.1 = z
    · rw [List.find?_cons_of_pos (by exact decide_eq_true e)]
      rcases List.mem_cons.mp h with c | c
      · rw [← c]; rfl
      · exact absurd (by rw [e]; exact List.mem_map.mpr ⟨_, c, rfl⟩) nd.1
    · rw [List.find?_cons_of_neg (by rw [decide_eq_true_eq]; exact e)]
      rcases List.mem_cons.mp h with c | c
      · exact absurd (by rw [← c]) e
      · exact ih nd.2 c
theorem getP_mem {ps : Ps} (nd : (ps.map (·.1)).Nodup) {z : Str} {x : Pr} (h : (z, x) ∈ ps) : getP ps z = x := by
  unfold getP
  rw [look_mem nd h]
  rfl
/-- what stands in the dict at z -/
theorem PsR.get {H : Hp} {kvs : List (Key × V)} {ps : Ps} {z : Str} (h : PsR H kvs ps) (nd : (ps.map (·.1)).Nodup) (m : z ∈ ps.map (·.1)) : ∃ v, valV kvs (Sum.inr z) = some v ∧ Tt H v (getP ps z) ∧ (z, getP ps z) ∈ ps := by
  obtain ⟨v, x, h1, h2, h3⟩ := h.hit m
  rw [← getP_mem nd h2] at h3 h2
  exact ⟨v, h1, h3, h2⟩
theorem normS_names (ps : Ps) : (normS ps).map (·.1) = canon (ps.map (·.1)) := by
  unfold normS
  rw [List.map_map]
  exact List.map_id' _
def spCk (C : Addr) : Sp := fun vs H Q _ => ∃ (a t : Addr) (ms ks : List Str) (kvs : List (Key × V)) (ps : Ps), vs = [.ref a, .ref t] ∧ LangAt C H a ms ks ∧ H t = some (.dK kvs) ∧ PsR H kvs ps ∧ SIn ms ks ps ∧
  ∀ (p : Addr) (kvs' : List (Key × V)) (H' : Hp), Same H H' → H p = none → H' p = some (.dK kvs') → PsR H' kvs' (normS ps) → Q (.ref p) H'
theorem ps_keys {H : Hp} {kvs : List (Key × V)} {ps : Ps} (h : PsR H kvs ps) : (kvs.map fun kv => kV kv.1) = (ps.map (·.1)).map V.str := by
  have e := congrArg (List.map kV) h.keys
  rw [List.map_map, List.map_map] at e
  rw [List.map_map]
  exact e
section
variable {P : Program} {w : World} {K : PySem.W.Frag} {mg : Str → Option Value} {base : Heap}
theorem ok_ck {f C : Addr} {fd : FuncData} {k : Nat} {t4 : Tok} (F : Fun K "checked_things" "checked_things" sCk f fd) (GN : CdN P w K mg base k "is_name" ["value"] (spName K)) (GP : CdN P w K mg base k "require_pair" ["language", "things", "pair"] (spRp C)) (GS : CdN P w K mg base k "different_items" ["items"] spDiS) (GL : CdN P w K mg base k "different_items" ["items"] spDiP)
    (mI : mg "isinstance" = none) (mD : mg "dict" = none) (mA : mg "all" = none) (mN : mg "len" = none) (mS : mg "sorted" = none) (mL : mg "list" = none) (g4 : mg "MAX_THINGS" = some (.int 400 t4)) : FnOk P w K mg base CX0 (k + 1) f fd ["language", "things"] (spCk C) := by
  refine F.ok scCk (fun vs H Q E h => ?_) (fun cdv A outer s H vs Q E hr h => ?_)
  · obtain ⟨a, t, ms, ks, kvs, ps, rfl, _⟩ := h
    rfl
  · obtain ⟨a, t, ms, ks, kvs, ps, rfl, hL, ht, hps, si, q⟩ := h
    have hu : (A.deeper (envOfC "checked_things" (defScope sCk) s.heap.objs.size f cdv)).units + 1 < cLine := by have := hr.un; omega
    refine ⟨_, pss_cons (ps_if (PW.pt (pw_or (pt_not (pt_val (pe_callB call_isi (by rfl) mI (by decide +kernel) (pa_cons (pv 1) (pa_cons (pe_bltn (v := .ty "dict") (by rfl) mD (by decide +kernel) rfl) pa_nil))))) (pw_or1 (pt_not (pt_val (pe_callB (cr_all rfl) (by rfl) mA (by decide +kernel) (pa_cons (pe_lock (pe_lc (own := [("thing", 2)]) (g := gName 2) (tt := tYes) (te := tCall (spName K) [] E0 (tCons (tVar 2) tNil)) (by rfl) scCk.nd (pi_keys (pv 1)) (blkOk_by (own := [("thing", 2)]) (N := nCk) (sc := defScope sCk) (by decide +kernel)) (fun _ _ _ _ _ => pg_name (i := 2) scCk.nd rfl (Or.inl rfl)) (fun _ _ _ _ _ => pts_nil) (fun _ _ _ _ _ => pe_cdn GN hr (pa_cons (pv 2) pa_nil)))) pa_nil)))))))
        (pss_one ps_off) pss_nil)
      (pss_cons (ps_lock (ps_for PassesOwn.never rfl (pi_keys (pv 1)) (pg_name (i := 2) scCk.nd rfl (Or.inl rfl)) (pss_one (ps_expr (pe_cdn GP hr (pa_cons (pv 0) (pa_cons (pv 1) (pa_cons (pe_dget hu (pv 1) (pv 2) (fun _ _ => rfl)) pa_nil))))))))
      (pss_cons (ps_if (pt_cmpR op_gt (pe_callB call_lenD (by rfl) mN PySem.boot_len (pa_cons (pv 1) pa_nil)) (pe_glob (v := .int 400) rfl g4 ⟨_, rfl⟩) (nomark _)) (pss_one ps_off) pss_nil)
      (pss_cons (ps_set (i := 3) scCk.nd rfl (.inl rfl) pe_dnewK)
      (pss_cons (ps_for PassesOwn.never rfl (pi_list (pe_callB cr_sortedS (by rfl) mS (by decide +kernel) (pa_cons (pe_callTy (call_list_dK rfl) (by rfl) mL (by decide +kernel) (pa_cons (pv 1) pa_nil)) pa_nil))) (pg_name (i := 2) scCk.nd rfl (Or.inl rfl))
        (pss_cons (ps_asg (pe_dget hu (pv 1) (pv 2) (fun _ _ => rfl)) (pg_tup (by rfl) (pgs_cons (pg_name (i := 4) scCk.nd rfl (.inl rfl)) (pgs_cons (pg_name (i := 5) scCk.nd rfl (.inl rfl)) pgs_nil))))
        (pss_one (ps_dput hu (pv 3) (pv 2) (pe_tup (pa_cons (pe_cdn GS hr (pa_cons (pv 4) pa_nil)) (pa_cons (pe_cdn GL hr (pa_cons (pv 5) pa_nil)) pa_nil))) rfl))))
      (pss_one (ps_ret (pv 3))))))), ?_⟩
    have lk : kvs.length = ps.length := Paired.length hps
    have nme : ∀ kv ∈ kvs, ∃ z, kv.1 = Sum.inr z ∧ z ∈ ps.map (·.1) := fun kv hkv => by
      have e : kv.1 ∈ ps.map fun x => (Sum.inr x.1 : Key) := by rw [← hps.keys]; exact List.mem_map.mpr ⟨kv, hkv, rfl⟩
      obtain ⟨x, hx, ex⟩ := List.mem_map.mp e
      exact ⟨x.1, ex.symm, List.mem_map.mpr ⟨x, hx, rfl⟩⟩
    refine ⟨.ref t, rfl, .ref t, .ty "dict", .type "dict", .type "dict", true, rfl, .ty _, .base (.dK ht), kit_ty (by decide +kernel), true, rfl, iteF ?_⟩
    refine ⟨t, _, ht, trivial, fun od => ⟨.ref t, rfl, t, od, rfl, .inl ⟨_, upd_same, fun D nD => ?_⟩⟩⟩
    have eL : (upd H t (.frz od (.dK kvs))) t = some (.frz od (.dK kvs)) := upd_same
    have nDt : D ≠ t := fun e => by rw [e, eL] at nD; cases nD
    refine lc_map (h := fun kv : Key × V => kV kv.1) (xs := kvs) walk_keysY rfl (fun _ => V.bl true) nD (fun H' s' => s' _ _ eL) (by have := si.len; omega) (fun kv hkv H' s' Q' q' => ?_) fun H3 s3 e3 => ?_
    · obtain ⟨z, ez, mz⟩ := nme kv hkv
      have nz := si.wd z mz
      have ev : kV kv.1 = .str z := by rw [ez]; rfl
      refine ⟨_, rfl, _, rfl, .inl ⟨z, ev, ?_⟩, .inl ⟨z, ev⟩, fun H5 s5 => ?_⟩
      · have := nameB_len nz
        omega
      · have e : isN (kV kv.1) = true := by rw [ev]; exact nz
        rw [e]
        exact q' H5 s5
    refine ⟨s3 _ _ eL, ?_⟩
    have s4 : Same H (upd H3 t (.dK kvs)) := Same.unlock ht s3
    have e4 : (upd H3 t (.dK kvs)) D = some (.lst ((kvs.map fun _ => true).map V.bl)) := by
      rw [upd_ne nDt, e3, List.map_map]
      rfl
    have t4 : (upd H3 t (.dK kvs)) t = some (.dK kvs) := upd_same
    generalize upd H3 t (.dK kvs) = H4 at s4 e4 t4 ⊢
    refine ⟨D, kvs.map fun _ => true, rfl, lst_of e4, ?_⟩
    rw [all_true]
    refine ⟨true, rfl, iteF ?_⟩
    -- each pair
    refine ⟨t, _, t4, trivial, fun od2 => ⟨.ref t, rfl, t, od2, rfl, .inl ⟨_, upd_same, ?_⟩⟩⟩
    have k5 : Kq H (upd H4 t (.frz od2 (.dK kvs))) := s4.kq.trans (Kq.lock t4)
    have e5 : (upd H4 t (.frz od2 (.dK kvs))) t = some (.frz od2 (.dK kvs)) := upd_same
    have u5 : ∀ H', Same (upd H4 t (.frz od2 (.dK kvs))) H' → Same H (upd H' t (.dK kvs)) := fun H' s' => s4.trans (Same.unlock t4 s')
    generalize upd H4 t (.frz od2 (.dK kvs)) = H5 at k5 e5 u5 ⊢
    refine for_it walk_keysY (fun i σ H' => ∃ o2 : Option V, σ = [some (.ref a), some (.ref t), o2, none, none, none] ∧ Same H5 H') ⟨none, rfl, Same.refl H5⟩ (fun i σ H' _ ⟨_, _, s'⟩ => s' _ _ e5) ?_ ?_
    · rintro i y σ G G' hi ⟨o2, rfl, sG⟩ ⟨rfl, ey⟩
      rw [List.getElem?_map, List.getElem?_eq_getElem hi] at ey
      have ey' : kV kvs[i].1 = y := Option.some.inj ey
      subst ey'
      obtain ⟨z, ez, mz⟩ := nme _ (List.getElem_mem hi)
      obtain ⟨v, hv, tv, mv⟩ := hps.get si.nd mz
      have kG := k5.trans sG.kq
      refine ⟨.ref a, rfl, .ref t, rfl, .ref t, rfl, _, rfl, t, v, rfl, .inl ⟨kvs, kvs[i].1, .inr ⟨od2, sG _ _ e5⟩, rfl, by rw [ez, hv]⟩, a, t, v, ms, ks, kvs, ps, getP ps z, rfl, hL.kq kG, .inr ⟨od2, sG _ _ e5⟩, hps.kq kG, tv.kq kG, si.th _ mv, fun H' s' => ⟨_, rfl, sG.trans s'⟩⟩
    rintro σ H6 ⟨o2, rfl, s6⟩
    refine ⟨s6 _ _ e5, ?_⟩
    have s7 : Same H (upd H6 t (.dK kvs)) := u5 H6 s6
    have t7 : (upd H6 t (.dK kvs)) t = some (.dK kvs) := upd_same
    generalize upd H6 t (.dK kvs) = H7 at s7 t7 ⊢
    -- how many
    refine ⟨.ref t, rfl, t, kvs, rfl, t7, _, 400, rfl, rfl, _, rfl, ?_⟩
    rw [decide_eq_false (show ¬ (kvs.length : Int) > 400 by have := si.len; omega)]
    refine iteF ?_
    intro pf nf
    have nfH : H pf = none := s7.free nf
    have e8 : (upd H7 pf (.dK [])) pf = some (.dK []) := upd_same
    have s8 : Same H7 (upd H7 pf (.dK [])) := same_new nf
    generalize upd H7 pf (.dK []) = H8 at *
    have s78 := s7.trans s8
    -- each anew
    refine ⟨.ref t, rfl, t, kvs, rfl, s8 _ _ t7, fun p9 n9 => ?_⟩
    rw [ps_keys hps]
    have e9 : (upd H8 p9 (.lst ((ps.map (·.1)).map V.str))) p9 = some (.lst ((ps.map (·.1)).map V.str)) := upd_same
    have s9 : Same H8 (upd H8 p9 (.lst ((ps.map (·.1)).map V.str))) := same_new n9
    generalize upd H8 p9 (.lst ((ps.map (·.1)).map V.str)) = H9 at *
    refine ⟨p9, ps.map (·.1), rfl, lst_of e9, by have := si.len; rw [List.length_map]; omega, fun ys pa pm so na => ?_⟩
    have fin : firsts (ps.map (·.1)) = ps.map (·.1) := by
      have gen : ∀ (zs L : List Str), (L ++ zs).Nodup → zs.foldl (fun L x => if x ∈ L then L else L ++ [x]) L = L ++ zs := by
        intro zs
        induction zs with
        | nil => intro L _; rw [List.append_nil]; rfl
        | cons z zs ih =>
          intro L nd
          have nz : z ∉ L := fun m => by
            have := (List.nodup_append.mp nd).2.2 z m z List.mem_cons_self
            exact this rfl
          rw [List.foldl_cons, if_neg nz, ih _ (by rw [List.append_assoc]; exact nd), List.append_assoc]
          rfl
      exact gen _ [] si.nd
    have ey : ys = canon (ps.map (·.1)) := canon_is (by rw [fin]; exact pm) so
    subst ey
    have ea : (upd H9 pa (.lst ((canon (ps.map (·.1))).map V.str))) pa = some (.lst ((canon (ps.map (·.1))).map V.str)) := upd_same
    have sa : Same H9 (upd H9 pa (.lst ((canon (ps.map (·.1))).map V.str))) := same_new na
    generalize upd H9 pa (.lst ((canon (ps.map (·.1))).map V.str)) = Ha at *
    have SA := s78.trans (s9.trans sa)
    have naf : pa ≠ pf := fun e => by rw [e, sa _ _ (s9 _ _ e8)] at ea; cases ea
    have ntf : t ≠ pf := ne_of_none ht nfH
    refine ⟨pa, rfl, ⟨_, lst_of ea⟩, for_it (walk_list (xs := (canon (ps.map (·.1))).map V.str)) (fun i σ H' => ∃ (o2 o4 o5 : Option V) (ks' : List (Key × V)), σ = [some (.ref a), some (.ref t), o2, some (.ref pf), o4, o5] ∧ (∀ b o, H b = some o → H' b = some o) ∧ H' pa = some (.lst ((canon (ps.map (·.1))).map V.str)) ∧ H' pf = some (.dK ks') ∧ PsR H' ks' (((canon (ps.map (·.1))).take i).map fun z => (z, normP (getP ps z))))
      ⟨_, none, none, [], rfl, fun b o e => SA _ _ e, ea, sa _ _ (s9 _ _ e8), .nil⟩ (fun i σ H' _ ⟨_, _, _, _, _, _, e, _⟩ => lst_of e) ?_ ?_⟩
    · rintro i y σ G G' hi ⟨o2, o4, o5, ks', rfl, sG, eG, fG, rG⟩ ⟨rfl, ey⟩
      rw [List.length_map] at hi
      rw [List.getElem?_map, List.getElem?_eq_getElem hi] at ey
      have ey' : V.str (canon (ps.map (·.1)))[i] = y := Option.some.inj ey
      subst ey'
      generalize hz : (canon (ps.map (·.1)))[i] = z at *
      have mz : z ∈ ps.map (·.1) := mem_canon.mp (by rw [← hz]; exact List.getElem_mem hi)
      have sG' : Same H G' := sG
      obtain ⟨v, hv, tv, mv⟩ := hps.get si.nd mz
      have pin := si.th _ mv
      obtain ⟨b, u1, u2, rfl, hb, t1, t2⟩ := tv.pair
      obtain ⟨am, vm, rfl, ham, tm⟩ := t1.tup
      have em := Tts.strs tm
      subst em
      refine ⟨.ref t, rfl, .str z, rfl, t, .ref b, rfl, .inl ⟨kvs, Sum.inr z, .inl (sG' _ _ ht), rfl, by rw [hv]⟩, b, _, rfl, tup_of (sG' _ _ hb), rfl, _, _, rfl, _, _, rfl, rfl, ?_⟩
      refine ⟨.ref am, rfl, am, _, rfl, sG' _ _ ham, pin.l1, fun p1 G1 s1 n1 e1 => ?_⟩
      refine ⟨_, rfl, u2, _, rfl, (t2.kq sG'.kq).kq s1.kq, pin.l2, fun p2 G2 s2 n2 e2 => ?_⟩
      refine ⟨by show 2 ≤ sizeLine; decide, fun p3 n3 => ?_⟩
      have e3' : (upd G2 p3 (.tup [.ref p1, .ref p2])) p3 = some (.tup [.ref p1, .ref p2]) := upd_same
      have s3' : Same G2 (upd G2 p3 (.tup [.ref p1, .ref p2])) := same_new n3
      generalize upd G2 p3 (.tup [.ref p1, .ref p2]) = G3 at *
      have S3 : Same G' G3 := s1.trans (s2.trans s3')
      have f3 := S3 _ _ fG
      have lr := Paired.length rG
      rw [List.length_map, List.length_take] at lr
      have cl := canon_len (ps.map (·.1))
      rw [List.length_map] at cl
      refine ⟨.ref pf, rfl, .str z, rfl, pf, _, rfl, DPut.k (k := Sum.inr z) f3 (small1000 (by have := si.len; omega)), ?_⟩
      have tkn : (canon (ps.map (·.1))).take (i + 1) = (canon (ps.map (·.1))).take i ++ [z] := by rw [List.take_add_one, List.getElem?_eq_getElem hi, hz]; rfl
      have miss : valV ks' (Sum.inr z) = none := rG.miss (by
        rw [List.map_map]
        intro hm'
        have hm2 : z ∈ (canon (ps.map (·.1))).take i := by
          have e := List.map_id' ((canon (ps.map (·.1))).take i)
          rw [← e]
          exact hm'
        obtain ⟨j, hj, e⟩ := List.getElem_of_mem hm2
        rw [List.getElem_take, ← hz] at e
        rw [List.length_take] at hj
        have e2 := (List.getElem_inj (nodup_canon _)).mp e
        omega)
      rw [putK_new _ miss]
      have kt : Kt G3 (upd G3 pf (.dK (ks' ++ [(Sum.inr z, .ref p3)]))) := kt_dk f3
      refine ⟨_, _, _, _, rfl, fun b' o e => ?_, ?_, upd_same, ?_⟩
      · rw [upd_ne (ne_of_none e nfH)]
        exact S3 _ _ (sG' _ _ e)
      · rw [upd_ne naf]
        exact S3 _ _ eG
      · rw [tkn, List.map_append]
        refine PsR.append ((rG.kq S3.kq).kt kt) (.cons ⟨rfl, ?_⟩ .nil)
        have q1 : Tt G3 (.ref p1) (Tup.mk (canon (getP ps z).1.items)) := tt_tup (s3' _ _ (s2 _ _ e1)) (tts_strs _)
        exact (tt_pair e3' q1 (e2.kq s3'.kq)).kt kt
    · rintro σ G ⟨o2, o4, o5, ks', rfl, sG, eG, fG, rG⟩
      rw [List.length_map, List.take_length] at rG
      exact ⟨.ref pf, rfl, q pf ks' G sG nfH fG rG⟩
end
end Tf

/-! stores: made, read, compared -/
namespace L2
open PySem PySem.Spec PyProof.Rows PySem.W
section
variable {X : Cx} {k : Nat} {C : Addr} {sp : Sp}
theorem op_eqN (F : OwN X.prog X.w X.K X.mg X.base k C "__eq__" sp) (hr : Room k X.A) : OpR X (compareOp .Eq) (rEqO X C sp E0 false) := by
  obtain ⟨f, G, o⟩ := F
  exact op_eqO o G hr pass0
theorem op_neN (F : OwN X.prog X.w X.K X.mg X.base k C "__eq__" sp) (hne : PySem.W.findIn X.K (.ref C) "__ne__" = some (some (.builtin "object.__ne__"))) (hm : PySem.W.mroIn X.K C (.type "object") = some true) (hr : Room (k + 1) X.A) : OpR X (compareOp .NotEq) (rEqO X C sp E0 true) := by
  obtain ⟨f, G, o⟩ := F
  exact op_neO o hne hm G hr pass0
theorem op_inN (F : OwN X.prog X.w X.K X.mg X.base k C "__contains__" sp) (hr : Room k X.A) : OpR X (compareOp .In) (rInO C sp E0 false) := by
  obtain ⟨f, G, o⟩ := F
  exact op_inO o G hr pass0
theorem op_notInN (F : OwN X.prog X.w X.K X.mg X.base k C "__contains__" sp) (hr : Room k X.A) : OpR X (compareOp .NotIn) (rInO C sp E0 true) := by
  obtain ⟨f, G, o⟩ := F
  exact op_notInO o G hr pass0
theorem call_lenN (F : OwN X.prog X.w X.K X.mg X.base k C "__len__" sp) (hr : Room (k + 1) X.A) : CallR X (.builtin "len") (rLenO C sp E0) := by
  obtain ⟨f, G, o⟩ := F
  exact call_lenO o G hr pass0
theorem call_strN (F : OwN X.prog X.w X.K X.mg X.base k C "__str__" sp) (hr : Room (k + 2) X.A) : CallR X (.type "str") (rStrO C sp E0) := by
  obtain ⟨f, G, o⟩ := F
  exact call_strO o G hr pass0
end
theorem walk_valsY {d : Addr} {o : Obj} {kvs : List (Key × V)} : Walk (Itd d o kvs) kvs.length (fun H => H d = some (.frz o (.dK kvs))) (YAt (kvs.map fun kv => kv.2)) :=
  walk_values.mono (fun _ h => h) fun i H x H' hi _ ⟨e, k, h1⟩ => ⟨e, by rw [List.getElem?_map, h1]; rfl⟩
theorem paired_zs {α β : Type} {R : α → β → Prop} : ∀ {xs : List α} {ys : List β}, Paired R xs ys → ∃ zs : List (α × β), xs = zs.map (·.1) ∧ ys = zs.map (·.2) ∧ ∀ z ∈ zs, R z.1 z.2
  | _, _, .nil => ⟨[], rfl, rfl, fun z hz => nomatch hz⟩
  | _, _, .cons (a := a) (b := b) h r => by
    obtain ⟨zs, e1, e2, e3⟩ := paired_zs r
    refine ⟨(a, b) :: zs, by rw [e1]; rfl, by rw [e2]; rfl, fun z hz => ?_⟩
    rcases List.mem_cons.mp hz with rfl | hz
    · exact h
    · exact e3 z hz
end L2
namespace Tf
open PySem PySem.Spec PyProof.Rows L2 PySem.W
abbrev sStore : Stmt := top 28
abbrev sMade : Stmt := top 29
abbrev sMin : Stmt := inClass sMade 0
abbrev sSof : Stmt := inClass sStore 1
abbrev sSla : Stmt := inClass sStore 2
abbrev sSnm : Stmt := inClass sStore 3
abbrev sSth : Stmt := inClass sStore 4
abbrev sSmo : Stmt := inClass sStore 5
abbrev sSlo : Stmt := inClass sStore 6
abbrev sSen : Stmt := inClass sStore 7
abbrev sSeq : Stmt := inClass sStore 19
abbrev sSha : Stmt := inClass sStore 20
abbrev sSle : Stmt := inClass sStore 21
abbrev sSst : Stmt := inClass sStore 22
abbrev sRt : Stmt := top 21
abbrev sRk : Stmt := top 15
theorem scMin : FnScope ["self", "language", "things"] ["self", "language", "things"] (defScope sMin) := ⟨rfl, rfl, rfl, by decide +kernel, rfl, by decide +kernel, by decide +kernel⟩
theorem scSof : FnScope ["cls", "language", "things"] ["cls", "language", "things"] (defScope sSof) := ⟨rfl, rfl, rfl, by decide +kernel, rfl, by decide +kernel, by decide +kernel⟩
theorem scSla : FnScope ["self"] ["self"] (defScope sSla) := ⟨rfl, rfl, rfl, by decide +kernel, rfl, by decide +kernel, by decide +kernel⟩
theorem scSnm : FnScope ["self"] ["self"] (defScope sSnm) := ⟨rfl, rfl, rfl, by decide +kernel, rfl, by decide +kernel, by decide +kernel⟩
theorem scSth : FnScope ["self"] ["self"] (defScope sSth) := ⟨rfl, rfl, rfl, by decide +kernel, rfl, by decide +kernel, by decide +kernel⟩
theorem scSmo : FnScope ["self", "thing"] ["self", "thing"] (defScope sSmo) := ⟨rfl, rfl, rfl, by decide +kernel, rfl, by decide +kernel, by decide +kernel⟩
theorem scSlo : FnScope ["self", "thing"] ["self", "thing"] (defScope sSlo) := ⟨rfl, rfl, rfl, by decide +kernel, rfl, by decide +kernel, by decide +kernel⟩
abbrev nSen : List Str := ["self", "thing", "kind", "one", "end"]
theorem scSen : FnScope nSen ["self", "thing", "kind"] (defScope sSen) := ⟨rfl, rfl, rfl, by decide +kernel, rfl, by decide +kernel, by decide +kernel⟩
theorem scSeq : FnScope ["self", "other"] ["self", "other"] (defScope sSeq) := ⟨rfl, rfl, rfl, by decide +kernel, rfl, by decide +kernel, by decide +kernel⟩
theorem scSha : FnScope ["self", "value"] ["self", "value"] (defScope sSha) := ⟨rfl, rfl, rfl, by decide +kernel, rfl, by decide +kernel, by decide +kernel⟩
theorem scSle : FnScope ["self"] ["self"] (defScope sSle) := ⟨rfl, rfl, rfl, by decide +kernel, rfl, by decide +kernel, by decide +kernel⟩
abbrev nSst : List Str := ["self", "many", "pair"]
theorem scSst : FnScope nSst ["self"] (defScope sSst) := ⟨rfl, rfl, rfl, by decide +kernel, rfl, by decide +kernel, by decide +kernel⟩
theorem scRt : FnScope ["store", "thing"] ["store", "thing"] (defScope sRt) := ⟨rfl, rfl, rfl, by decide +kernel, rfl, by decide +kernel, by decide +kernel⟩
theorem scRk : FnScope ["language", "kind"] ["language", "kind"] (defScope sRk) := ⟨rfl, rfl, rfl, by decide +kernel, rfl, by decide +kernel, by decide +kernel⟩
/-- a store stands at a: its language at la, its dict at t -/
def StoreAt (CL C : Addr) (H : Hp) (a la t : Addr) (ms ks : List Str) (ps : Ps) : Prop := ∃ (dx : Addr) (fs : List (Str × V)) (kvs : List (Key × V)), H a = some (.ins C dx fs) ∧ fs.lookup ("own_language" : Str) = some (.ref la) ∧ fs.lookup ("own_things" : Str) = some (.ref t) ∧ LangAt CL H la ms ks ∧ H t = some (.dK kvs) ∧ PsR H kvs ps ∧ fs.map (·.1) = [("own_language" : Str), "own_things"]
theorem StoreAt.kq {CL C : Addr} {H H' : Hp} {a la t : Addr} {ms ks : List Str} {ps : Ps} (h : StoreAt CL C H a la t ms ks ps) (k : Kq H H') (e : ∀ o, H t = some o → H' t = some o) : StoreAt CL C H' a la t ms ks ps := by
  obtain ⟨dx, fs, kvs, h1, h2, h3, h4, h5, h6, h7⟩ := h
  exact ⟨dx, fs, kvs, k.ins h1, h2, h3, h4.kq k, e _ h5, h6.kq k, h7⟩
theorem StoreAt.same {CL C : Addr} {H H' : Hp} {a la t : Addr} {ms ks : List Str} {ps : Ps} (h : StoreAt CL C H a la t ms ks ps) (s : Same H H') : StoreAt CL C H' a la t ms ks ps := h.kq s.kq fun o e => s _ _ e
theorem StoreAt.nr {CL C d : Addr} {H H' : Hp} {a la t : Addr} {ms ks : List Str} {ps : Ps} (h : StoreAt CL C H a la t ms ks ps) (s : Nr d H H') (dc : Dice H d) : StoreAt CL C H' a la t ms ks ps := by
  refine h.kq (s.kq dc) fun o e => s _ _ ?_ e
  obtain ⟨dx, fs, kvs, h1, h2, h3, h4, h5, h6, h7⟩ := h
  obtain ⟨_, _, _, _, e'⟩ := dc
  exact ne_of h5 e' (fun z => nomatch z)
/-- what of the classes of stores the written part tells -/
structure SCls (K : PySem.W.Frag) (C : Addr) : Prop where
  cl : Cls K C
  nl : NoAttr K C "own_language"
  nt : NoAttr K C "own_things"
/-- what isinstance sees of them -/
structure SIs (K : PySem.W.Frag) (CS C : Addr) : Prop where
  ha : PySem.W.findIn K (.ref C) "__class__" = some (some (.builtin "object.__class__"))
  hn : PySem.W.specialIn K (.builtin "object.__class__") "__get__" = some (some (.builtin "getset_descriptor.__get__"))
  ht : PySem.W.takesIn K (.builtin "object.__class__") = some true
  hm : PySem.W.mroIn K C (.type "object") = some true
  me : PySem.W.kitOne K (.ref C) (.ref CS) = some true
def links (ps : Ps) : Nat := (ps.map fun p => p.2.2.items.length).sum
def storeText (n m : Nat) : Str := ((((Str.empty ++ ("store of " : Str)) ++ ((toString (n : Int) : String) : Str)) ++ (" things, " : Str)) ++ ((toString (m : Int) : String) : Str)) ++ (" links" : Str)
theorem len2 (a b : Str) : (a ++ b).length ≤ a.length + b.length := by
  show (a.cps ++ b.cps).size ≤ a.cps.size + b.cps.size
  rw [Array.size_append]
  exact Nat.le_refl _
theorem fits2 {a b : Str} {m n : Nat} (ha : a.length ≤ m) (hb : b.length ≤ n) (h : m + n ≤ 1000 := by decide) : (a ++ b).length ≤ sizeLine := Nat.le_trans (len2 a b) (Nat.le_trans (Nat.add_le_add ha hb) (Nat.le_trans h (by decide)))
theorem ints_short : ((List.range 4001).all fun n => decide ((((toString (n : Int) : String) : Str)).length ≤ 10)) = true := by decide +kernel
theorem int_short {n : Nat} (h : n ≤ 4000) : (((toString (n : Int) : String) : Str)).length ≤ 10 := of_decide_eq_true (List.all_eq_true.mp ints_short n (List.mem_range.mpr (by omega)))
theorem int_small {n : Nat} (h : n ≤ 4000) : (n : Int).natAbs.log2 < 1920 := by
  rw [Int.natAbs_natCast]
  by_cases z : n = 0
  · subst z; decide
  · exact (Nat.log2_lt z).mpr (Nat.lt_of_le_of_lt h (Nat.lt_of_lt_of_le (by decide : 4000 < 2 ^ 12) (Nat.pow_le_pow_right (by decide) (by decide))))
/-! ### promises -/
def spMin (C : Addr) : Sp := fun vs H Q _ => ∃ (H0 : Hp) (x dx la t : Addr), vs = [.ref x, .ref la, .ref t] ∧ H = upd (upd H0 dx (.own x)) x (.ins C dx []) ∧ H0 x = none ∧ H0 dx = none ∧ dx ≠ x ∧
  ∀ (H' : Hp) (fs : List (Str × V)), Same H0 H' → H' x = some (.ins C dx fs) → fs.lookup ("own_language" : Str) = some (.ref la) → fs.lookup ("own_things" : Str) = some (.ref t) → fs.map (·.1) = [("own_language" : Str), "own_things"] → Q .non H'
def spSof (CL CS CM : Addr) : Sp := fun vs H Q _ => ∃ (la t : Addr) (ms ks : List Str) (kvs : List (Key × V)) (ps : Ps), vs = [.ref CS, .ref la, .ref t] ∧ LangAt CL H la ms ks ∧ H t = some (.dK kvs) ∧ PsR H kvs ps ∧ SIn ms ks ps ∧
  ∀ (x t' : Addr) (H' : Hp), Same H H' → H x = none → H t' = none → StoreAt CL CM H' x la t' ms ks (normS ps) → Q (.ref x) H'
def spSla (CL C : Addr) : Sp := fun vs H Q _ => ∃ (a la t : Addr) (ms ks : List Str) (ps : Ps), vs = [.ref a] ∧ StoreAt CL C H a la t ms ks ps ∧ Q (.ref la) H
def spSnm (CL C : Addr) : Sp := fun vs H Q _ => ∃ (a la t : Addr) (ms ks : List Str) (ps : Ps), vs = [.ref a] ∧ StoreAt CL C H a la t ms ks ps ∧ ∀ (p : Addr) (H' : Hp), Same H H' → H p = none → H' p = some (.tup ((ps.map (·.1)).map V.str)) → Q (.ref p) H'
def spSth (CL C : Addr) : Sp := fun vs H Q _ => ∃ (a la t : Addr) (ms ks : List Str) (ps : Ps), vs = [.ref a] ∧ StoreAt CL C H a la t ms ks ps ∧ ∀ (p : Addr) (kvs : List (Key × V)) (H' : Hp), Same H H' → H p = none → H' p = some (.dK kvs) → PsR H' kvs ps → Q (.ref p) H'
def spSmo (CL C : Addr) : Sp := fun vs H Q _ => ∃ (a la t : Addr) (ms ks : List Str) (ps : Ps) (z : Str), vs = [.ref a, .str z] ∧ StoreAt CL C H a la t ms ks ps ∧ (ps.map (·.1)).Nodup ∧ z ∈ ps.map (·.1) ∧ ∀ v, Tt H v (getP ps z).1 → Q v H
def spSlo (CL C : Addr) : Sp := fun vs H Q _ => ∃ (a la t : Addr) (ms ks : List Str) (ps : Ps) (z : Str), vs = [.ref a, .str z] ∧ StoreAt CL C H a la t ms ks ps ∧ (ps.map (·.1)).Nodup ∧ z ∈ ps.map (·.1) ∧ ∀ v, Tt H v (getP ps z).2 → Q v H
/-- the ends of the links of a kind -/
def endsP (ls : List (Str × Str)) (y : Str) : List Str := (ls.filter fun e => decide (e.1 = y)).map (·.2)
def spSen (CL C : Addr) : Sp := fun vs H Q _ => ∃ (a la t : Addr) (ms ks : List Str) (ps : Ps) (z y : Str), vs = [.ref a, .str z, .str y] ∧ StoreAt CL C H a la t ms ks ps ∧ (ps.map (·.1)).Nodup ∧ z ∈ ps.map (·.1) ∧ y ∈ ks ∧ (getP ps z).2.items.length ≤ 60 ∧
  ∀ (p : Addr) (H' : Hp), Same H H' → H p = none → H' p = some (.tup ((endsP (getP ps z).2.items y).map V.str)) → Q (.ref p) H'
/-- a value that is no text -/
def NoTxt (K : PySem.W.Frag) (H : Hp) (x : V) : Prop := ∃ t : Value, TyX K H x t ∧ PySem.W.kitOne K t (.type "str") = some false
def spSha (K : PySem.W.Frag) (CL C : Addr) : Sp := fun vs H Q _ => ∃ (a la t : Addr) (ms ks : List Str) (ps : Ps) (x : V), vs = [.ref a, x] ∧ StoreAt CL C H a la t ms ks ps ∧ ((NoTxt K H x ∧ Q (.bl false) H) ∨ ∃ z, x = .str z ∧ Q (.bl (decide (z ∈ ps.map (·.1)))) H)
def spSle (CL C : Addr) : Sp := fun vs H Q _ => ∃ (a la t : Addr) (ms ks : List Str) (ps : Ps), vs = [.ref a] ∧ StoreAt CL C H a la t ms ks ps ∧ Q (.int (ps.length : Int)) H
def spSst (CL C : Addr) : Sp := fun vs H Q _ => ∃ (a la t : Addr) (ms ks : List Str) (ps : Ps), vs = [.ref a] ∧ StoreAt CL C H a la t ms ks ps ∧ ps.length ≤ 60 ∧ links ps ≤ 4000 ∧ ∀ H', Same H H' → Q (.str (storeText ps.length (links ps))) H'
def NoSto (K : PySem.W.Frag) (CS : Addr) (H : Hp) (y : V) : Prop := ∃ t : Value, TyX K H y t ∧ PySem.W.kitOne K t (.ref CS) = some false
def spSeq (K : PySem.W.Frag) (CL CS C D : Addr) : Sp := fun vs H Q _ => ∃ (a la t : Addr) (ms ks : List Str) (ps : Ps) (y : V), vs = [.ref a, y] ∧ StoreAt CL C H a la t ms ks ps ∧
  ((NoSto K CS H y ∧ Q (.bl false) H) ∨ ∃ (b lb u : Addr) (ms' ks' : List Str) (qs : Ps), y = .ref b ∧ StoreAt CL D H b lb u ms' ks' qs ∧ Q (.bl ((decide (ms = ms') && decide (ks = ks')) && sameD ps qs)) H)
def spRt (CL C : Addr) : Sp := fun vs H Q _ => ∃ (a la t : Addr) (ms ks : List Str) (ps : Ps) (z : Str), vs = [.ref a, .str z] ∧ StoreAt CL C H a la t ms ks ps ∧ z ∈ ps.map (·.1) ∧ Q .non H
def spRk (CL : Addr) : Sp := fun vs H Q _ => ∃ (la : Addr) (ms ks : List Str) (y : Str), vs = [.ref la, .str y] ∧ LangAt CL H la ms ks ∧ y ∈ ks ∧ Q .non H
theorem dk_val {H : Hp} {kvs : List (Key × V)} {ps : Ps} (h : PsR H kvs ps) (z : Str) : (valV kvs (Sum.inr z)).isSome = decide (z ∈ ps.map (·.1)) := by
  by_cases m : z ∈ ps.map (·.1)
  · obtain ⟨v, x, h1, _⟩ := h.hit m
    rw [h1, decide_eq_true m]
    rfl
  · rw [h.miss m, decide_eq_false m]
    rfl
section
variable {P : Program} {w : World} {K : PySem.W.Frag} {mg : Str → Option Value} {base : Heap}
theorem ok_min {f C : Addr} {fd : FuncData} {k : Nat} (F : Fun K "__init__" "MadeStore.__init__" sMin f fd) (L : SCls K C) : FnOk P w K mg base CX0 (k + 1) f fd ["self", "language", "things"] (spMin C) := by
  refine F.ok scMin (fun vs H Q E h => ?_) (fun cdv A outer s H vs Q E hr h => ?_)
  · obtain ⟨H0, x, dx, la, t, rfl, _⟩ := h
    rfl
  · obtain ⟨H0, x, dx, la, t, rfl, rfl, nx, nd, ne, q⟩ := h
    refine ⟨_, pss_cons (ps_fld (pv 0) (pv 1) rfl) (pss_one (ps_fld (pv 0) (pv 2) rfl)), ?_⟩
    have s0 : Same H0 (upd (upd H0 dx (.own x)) x (.ins C dx [])) := (same_new nd).mut nx
    have e0 : (upd (upd H0 dx (.own x)) x (.ins C dx [])) x = some (.ins C dx []) := upd_same
    generalize upd (upd H0 dx (.own x)) x (.ins C dx []) = H at s0 e0 ⊢
    refine ⟨.ref la, rfl, .ref x, rfl, x, C, dx, [], rfl, e0, L.cl, L.nl, by decide, ?_⟩
    have s2 : Same H0 (upd H x (.ins C dx (putF "own_language" (.ref la) []))) := s0.mut nx
    have x2 : (upd H x (.ins C dx (putF "own_language" (.ref la) []))) x = some (.ins C dx [(("own_language" : Str), .ref la)]) := upd_same
    generalize upd H x (.ins C dx (putF "own_language" (.ref la) [])) = H2 at s2 x2 ⊢
    refine ⟨.ref t, rfl, .ref x, rfl, x, C, dx, _, rfl, x2, L.cl, L.nt, (show 1 < 1000 by decide), ?_⟩
    exact q _ _ (s2.mut nx) upd_same rfl rfl rfl
theorem ok_sof {f fN CL CS CM : Addr} {fd fdN : FuncData} {k : Nat} (F : Fun K "of" "Store.of" sSof f fd) (M : Mk K CM fN) (GI : FnOk P w K mg base CX0 k fN fdN ["self", "language", "things"] (spMin CM)) (bI : Binds K fdN ["self", "language", "things"] []) (gM : mg "MadeStore" = some (.ref CM)) (GR : CdN P w K mg base (k + 1) "require_language" ["language"] (spRl CL)) (GC : CdN P w K mg base (k + 1) "checked_things" ["language", "things"] (spCk CL)) : FnOk P w K mg base CX0 (k + 2) f fd ["cls", "language", "things"] (spSof CL CS CM) := by
  refine F.ok scSof (fun vs H Q E h => ?_) (fun cdv A outer s H vs Q E hr h => ?_)
  · obtain ⟨la, t, ms, ks, kvs, ps, rfl, _⟩ := h
    rfl
  · obtain ⟨la, t, ms, ks, kvs, ps, rfl, hL, ht, hps, si, q⟩ := h
    refine ⟨_, pss_cons (ps_expr (pe_cdn GR hr (pa_cons (pv 1) pa_nil)))
      (pss_one (ps_ret (pe_make M GI hr (by rfl) gM bI .nil pass0 (pa_cons (pv 1) (pa_cons (pe_cdn GC hr (pa_cons (pv 1) (pa_cons (pv 2) pa_nil))) pa_nil))))), ?_⟩
    refine ⟨.ref la, rfl, la, ms, ks, rfl, hL, ?_⟩
    refine ⟨.ref la, rfl, .ref la, rfl, .ref t, rfl, la, t, ms, ks, kvs, ps, rfl, hL, ht, hps, si, fun p kvs' H1 s1 np e1 r1 => ?_⟩
    intro x dx nx nd ne
    refine ⟨H1, x, dx, la, p, rfl, rfl, nx, nd, ne, fun H2 fs s2 ex l1 l2 l3 => ⟨rfl, ?_⟩⟩
    exact q x p H2 (s1.trans s2) (s1.free nx) np ⟨dx, fs, kvs', ex, l1, l2, (hL.kq s1.kq).kq s2.kq, s2 _ _ e1, r1.kq s2.kq, l3⟩
theorem ok_sla {f CL C : Addr} {fd : FuncData} {k : Nat} (F : Fun K "language" "Store.language" sSla f fd) (L : SCls K C) : FnOk P w K mg base CX0 (k + 1) f fd ["self"] (spSla CL C) := by
  refine F.ok scSla (fun vs H Q E h => ?_) (fun cdv A outer s H vs Q E hr h => ?_)
  · obtain ⟨a, la, t, ms, ks, ps, rfl, _⟩ := h
    rfl
  · obtain ⟨a, la, t, ms, ks, ps, rfl, ⟨dx, fs, kvs, h1, h2, h3, h4, h5, h6, h7⟩, q⟩ := h
    exact ⟨_, pss_one (ps_ret (pe_fld (pv 0) rfl)), .ref a, rfl, a, C, dx, fs, .ref la, rfl, h1, L.cl, L.nl, h2, q⟩
theorem ok_snm {f CL C : Addr} {fd : FuncData} {k : Nat} (F : Fun K "names" "Store.names" sSnm f fd) (L : SCls K C) (mT : mg "tuple" = none) (mL : mg "list" = none) : FnOk P w K mg base CX0 (k + 1) f fd ["self"] (spSnm CL C) := by
  refine F.ok scSnm (fun vs H Q E h => ?_) (fun cdv A outer s H vs Q E hr h => ?_)
  · obtain ⟨a, la, t, ms, ks, ps, rfl, _⟩ := h
    rfl
  · obtain ⟨a, la, t, ms, ks, ps, rfl, ⟨dx, fs, kvs, h1, h2, h3, h4, h5, h6, h7⟩, q⟩ := h
    refine ⟨_, pss_one (ps_ret (pe_callTy call_tuple_of (by rfl) mT (by decide +kernel) (pa_cons (pe_callTy (call_list_dK rfl) (by rfl) mL (by decide +kernel) (pa_cons (pe_fld (pv 0) (by rfl)) pa_nil)) pa_nil))), ?_⟩
    refine ⟨.ref a, rfl, a, C, dx, fs, .ref t, rfl, h1, L.cl, L.nt, h3, t, kvs, rfl, h5, fun p n => ?_⟩
    rw [ps_keys h6]
    have e1 : (upd H p (.lst ((ps.map (·.1)).map V.str))) p = some (.lst ((ps.map (·.1)).map V.str)) := upd_same
    have s1 : Same H (upd H p (.lst ((ps.map (·.1)).map V.str))) := same_new n
    generalize upd H p (.lst ((ps.map (·.1)).map V.str)) = H1 at *
    refine ⟨p, _, rfl, .inl ⟨lst_of e1, fun p2 n2 => ?_⟩⟩
    exact q p2 _ (s1.new n2) (s1.free n2) upd_same
theorem ok_sth {f CL C : Addr} {fd : FuncData} {k : Nat} (F : Fun K "things" "Store.things" sSth f fd) (L : SCls K C) (mD : mg "dict" = none) : FnOk P w K mg base CX0 (k + 1) f fd ["self"] (spSth CL C) := by
  refine F.ok scSth (fun vs H Q E h => ?_) (fun cdv A outer s H vs Q E hr h => ?_)
  · obtain ⟨a, la, t, ms, ks, ps, rfl, _⟩ := h
    rfl
  · obtain ⟨a, la, t, ms, ks, ps, rfl, ⟨dx, fs, kvs, h1, h2, h3, h4, h5, h6, h7⟩, q⟩ := h
    refine ⟨_, pss_one (ps_ret (pe_callTy call_dictD (by rfl) mD (by decide +kernel) (pa_cons (pe_fld (pv 0) (by rfl)) pa_nil))), ?_⟩
    refine ⟨.ref a, rfl, a, C, dx, fs, .ref t, rfl, h1, L.cl, L.nt, h3, t, kvs, rfl, .inl h5, fun p n => ?_⟩
    exact q p kvs _ (same_new n) n upd_same (h6.kq (same_new n).kq)
theorem ok_sha {f CL C : Addr} {fd : FuncData} {k : Nat} (F : Fun K "__contains__" "Store.__contains__" sSha f fd) (L : SCls K C) (mI : mg "isinstance" = none) (mS : mg "str" = none) : FnOk P w K mg base CX0 (k + 1) f fd ["self", "value"] (spSha K CL C) := by
  refine F.ok scSha (fun vs H Q E h => ?_) (fun cdv A outer s H vs Q E hr h => ?_)
  · obtain ⟨a, la, t, ms, ks, ps, x, rfl, _⟩ := h
    rfl
  · obtain ⟨a, la, t, ms, ks, ps, x, rfl, ⟨dx, fs, kvs, h1, h2, h3, h4, h5, h6, h7⟩, h⟩ := h
    have hu : (A.deeper (envOfC "Store.__contains__" (defScope sSha) s.heap.objs.size f cdv)).units + 1 < cLine := by have := hr.un; omega
    refine ⟨_, pss_one (ps_ret (pe_and (pe_callB call_isi (by rfl) mI (by decide +kernel) (pa_cons (pv 1) (pa_cons (pe_bltn (v := .ty "str") (by rfl) mS (by decide +kernel) rfl) pa_nil))) (pe_one (pe_cmp (pc_din hu (pv 1) (pe_fld (pv 0) (by rfl))) (by rfl))))), ?_⟩
    rcases h with ⟨⟨ty, h7, h8⟩, q⟩ | ⟨z, rfl, q⟩
    · exact ⟨x, rfl, x, .ty "str", ty, .type "str", false, rfl, .ty _, h7, h8, false, rfl, iteF q⟩
    · refine ⟨_, rfl, _, .ty "str", .type "str", .type "str", true, rfl, .ty _, .base (.str _), kit_ty (by decide +kernel), true, rfl, iteT ?_⟩
      refine ⟨_, rfl, .ref a, rfl, a, C, dx, fs, .ref t, rfl, h1, L.cl, L.nt, h3, t, _, rfl, .inl ⟨kvs, Sum.inr z, .inl h5, rfl, rfl⟩, ?_⟩
      rw [dk_val h6]
      exact q
theorem ok_sle {f CL C : Addr} {fd : FuncData} {k : Nat} (F : Fun K "__len__" "Store.__len__" sSle f fd) (L : SCls K C) (mN : mg "len" = none) : FnOk P w K mg base CX0 (k + 1) f fd ["self"] (spSle CL C) := by
  refine F.ok scSle (fun vs H Q E h => ?_) (fun cdv A outer s H vs Q E hr h => ?_)
  · obtain ⟨a, la, t, ms, ks, ps, rfl, _⟩ := h
    rfl
  · obtain ⟨a, la, t, ms, ks, ps, rfl, ⟨dx, fs, kvs, h1, h2, h3, h4, h5, h6, h7⟩, q⟩ := h
    refine ⟨_, pss_one (ps_ret (pe_callB call_lenD (by rfl) mN PySem.boot_len (pa_cons (pe_fld (pv 0) (by rfl)) pa_nil))), ?_⟩
    refine ⟨.ref a, rfl, a, C, dx, fs, .ref t, rfl, h1, L.cl, L.nt, h3, t, kvs, rfl, h5, ?_⟩
    rw [Paired.length h6]
    exact q
theorem ok_rt {f CL C : Addr} {fd : FuncData} {k : Nat} (F : Fun K "require_thing" "require_thing" sRt f fd) (GH : OwN P w K mg base k C "__contains__" (spSha K CL C)) : FnOk P w K mg base CX0 (k + 1) f fd ["store", "thing"] (spRt CL C) := by
  refine F.ok scRt (fun vs H Q E h => ?_) (fun cdv A outer s H vs Q E hr h => ?_)
  · obtain ⟨a, la, t, ms, ks, ps, z, rfl, _⟩ := h
    rfl
  · obtain ⟨a, la, t, ms, ks, ps, z, rfl, st, m, q⟩ := h
    refine ⟨_, pss_one (ps_if (pt_cmpR (op_notInN GH hr) (pv 1) (pv 0) (by rfl)) (pss_one ps_off) pss_nil), ?_⟩
    have st' := st
    obtain ⟨dx, fs, kvs, h1, h2, h3, h4, h5, h6, h7⟩ := st'
    refine ⟨_, rfl, .ref a, rfl, a, dx, fs, rfl, h1, a, la, t, ms, ks, ps, _, rfl, st, .inr ⟨z, rfl, ?_⟩⟩
    rw [decide_eq_true m]
    exact ⟨true, rfl, false, rfl, iteF q⟩
theorem ok_rk {f CL : Addr} {fd : FuncData} {k : Nat} (F : Fun K "require_kind" "require_kind" sRk f fd) (L : LCls K CL) (PK : PpN P w K mg base k CL "kinds" (spLmk CL false)) : FnOk P w K mg base CX0 (k + 2) f fd ["language", "kind"] (spRk CL) := by
  refine F.ok scRk (fun vs H Q E h => ?_) (fun cdv A outer s H vs Q E hr h => ?_)
  · obtain ⟨la, ms, ks, y, rfl, _⟩ := h
    rfl
  · obtain ⟨la, ms, ks, y, rfl, hL, m, q⟩ := h
    refine ⟨_, pss_one (ps_if (pt_cmpR op_notIn_seq (pv 1) (pe_ppn L.cl PK hr (pv 0)) (by rfl)) (pss_one ps_off) pss_nil), ?_⟩
    have hL' := hL
    obtain ⟨dx, fs, pm, pk, h1, _⟩ := hL'
    refine ⟨_, rfl, .ref la, rfl, la, dx, fs, rfl, h1, la, ms, ks, rfl, hL, fun p hp => ⟨p, _, rfl, .inr (tup_of hp), rfl, flat_strs _, ?_⟩⟩
    rw [if_pos rfl, if_neg Bool.false_ne_true, inV_strs, decide_eq_true m]
    exact ⟨false, rfl, iteF q⟩
theorem ok_smo {f CL C : Addr} {fd : FuncData} {k : Nat} (F : Fun K "marks_of" "Store.marks_of" sSmo f fd) (L : SCls K C) (GT : CdN P w K mg base k "require_thing" ["store", "thing"] (spRt CL C)) : FnOk P w K mg base CX0 (k + 1) f fd ["self", "thing"] (spSmo CL C) := by
  refine F.ok scSmo (fun vs H Q E h => ?_) (fun cdv A outer s H vs Q E hr h => ?_)
  · obtain ⟨a, la, t, ms, ks, ps, z, rfl, _⟩ := h
    rfl
  · obtain ⟨a, la, t, ms, ks, ps, z, rfl, st, nd, m, q⟩ := h
    have hu : (A.deeper (envOfC "Store.marks_of" (defScope sSmo) s.heap.objs.size f cdv)).units + 1 < cLine := by have := hr.un; omega
    refine ⟨_, pss_cons (ps_expr (pe_cdn GT hr (pa_cons (pv 0) (pa_cons (pv 1) pa_nil)))) (pss_one (ps_ret (pe_ix ix_tup (pe_dget hu (pe_fld (pv 0) (by rfl)) (pv 1) (fun _ _ => rfl)) pe_int (fun _ _ => rfl)))), ?_⟩
    refine ⟨.ref a, rfl, .str z, rfl, a, la, t, ms, ks, ps, z, rfl, st, m, ?_⟩
    obtain ⟨dx, fs, kvs, h1, h2, h3, h4, h5, h6, h7⟩ := st
    obtain ⟨v, hv, tv, mv⟩ := h6.get nd m
    obtain ⟨b, u1, u2, rfl, hb, t1, t2⟩ := tv.pair
    exact ⟨.ref a, rfl, a, C, dx, fs, .ref t, rfl, h1, L.cl, L.nt, h3, .str z, rfl, t, .ref b, rfl, .inl ⟨kvs, Sum.inr z, .inl h5, rfl, by rw [hv]⟩, b, _, 0, u1, rfl, rfl, tup_of hb, rfl, q u1 t1⟩
theorem ok_slo {f CL C : Addr} {fd : FuncData} {k : Nat} (F : Fun K "links_of" "Store.links_of" sSlo f fd) (L : SCls K C) (GT : CdN P w K mg base k "require_thing" ["store", "thing"] (spRt CL C)) : FnOk P w K mg base CX0 (k + 1) f fd ["self", "thing"] (spSlo CL C) := by
  refine F.ok scSlo (fun vs H Q E h => ?_) (fun cdv A outer s H vs Q E hr h => ?_)
  · obtain ⟨a, la, t, ms, ks, ps, z, rfl, _⟩ := h
    rfl
  · obtain ⟨a, la, t, ms, ks, ps, z, rfl, st, nd, m, q⟩ := h
    have hu : (A.deeper (envOfC "Store.links_of" (defScope sSlo) s.heap.objs.size f cdv)).units + 1 < cLine := by have := hr.un; omega
    refine ⟨_, pss_cons (ps_expr (pe_cdn GT hr (pa_cons (pv 0) (pa_cons (pv 1) pa_nil)))) (pss_one (ps_ret (pe_ix ix_tup (pe_dget hu (pe_fld (pv 0) (by rfl)) (pv 1) (fun _ _ => rfl)) pe_int (fun _ _ => rfl)))), ?_⟩
    refine ⟨.ref a, rfl, .str z, rfl, a, la, t, ms, ks, ps, z, rfl, st, m, ?_⟩
    obtain ⟨dx, fs, kvs, h1, h2, h3, h4, h5, h6, h7⟩ := st
    obtain ⟨v, hv, tv, mv⟩ := h6.get nd m
    obtain ⟨b, u1, u2, rfl, hb, t1, t2⟩ := tv.pair
    exact ⟨.ref a, rfl, a, C, dx, fs, .ref t, rfl, h1, L.cl, L.nt, h3, .str z, rfl, t, .ref b, rfl, .inl ⟨kvs, Sum.inr z, .inl h5, rfl, by rw [hv]⟩, b, _, 1, u2, rfl, rfl, tup_of hb, rfl, q u2 t2⟩
end
end Tf

/-! stores: ends, str, == -/
namespace Tf
open PySem PySem.Spec PyProof.Rows L2 PySem.W
section
variable {P : Program} {w : World} {K : PySem.W.Frag} {mg : Str → Option Value} {base : Heap}
theorem ok_sen {f CL C : Addr} {fd : FuncData} {k : Nat} (F : Fun K "ends" "Store.ends" sSen f fd) (L : SCls K C) (GT : CdN P w K mg base k "require_thing" ["store", "thing"] (spRt CL C)) (GK : CdN P w K mg base k "require_kind" ["language", "kind"] (spRk CL)) (mT : mg "tuple" = none) : FnOk P w K mg base CX0 (k + 1) f fd ["self", "thing", "kind"] (spSen CL C) := by
  refine F.ok scSen (fun vs H Q E h => ?_) (fun cdv A outer s H vs Q E hr h => ?_)
  · obtain ⟨a, la, t, ms, ks, ps, z, y, rfl, _⟩ := h
    rfl
  · obtain ⟨a, la, t, ms, ks, ps, z, y, rfl, st, nd, m, my, ll, q⟩ := h
    have hu : (A.deeper (envOfC "Store.ends" (defScope sSen) s.heap.objs.size f cdv)).units + 1 < cLine := by have := hr.un; omega
    refine ⟨_, pss_cons (ps_expr (pe_cdn GT hr (pa_cons (pv 0) (pa_cons (pv 1) pa_nil))))
      (pss_cons (ps_expr (pe_cdn GK hr (pa_cons (pe_fld (pv 0) (by rfl)) (pa_cons (pv 2) pa_nil))))
      (pss_one (ps_ret (pe_callTy call_tuple_of (by rfl) mT (by decide +kernel) (pa_cons
        (pe_lc (own := [("one", 3), ("end", 4)]) (g := gTup K 2 (gCons (gName 3) (gCons (gName 4) gNil))) (te := tVar 4) (by rfl) scSen.nd (pi_tup (pe_ix ix_tup (pe_dget hu (pe_fld (pv 0) (by rfl)) (pv 1) (fun _ _ => rfl)) pe_int (fun _ _ => rfl))) (blkOk_by (own := [("one", 3), ("end", 4)]) (N := nSen) (sc := defScope sSen) (by decide +kernel)) (fun _ _ _ _ _ => pg_tup (by rfl) (pgs_cons (pg_name (i := 3) scSen.nd rfl (Or.inl rfl)) (pgs_cons (pg_name (i := 4) scSen.nd rfl (Or.inl rfl)) pgs_nil))) (fun _ _ _ _ _ => pts_one (pt_cmpR op_eq (pv 3) (pv 2) (nomark _))) (fun _ _ _ _ _ => pv 4)) pa_nil))))), ?_⟩
    refine ⟨.ref a, rfl, .str z, rfl, a, la, t, ms, ks, ps, z, rfl, st, m, ?_⟩
    obtain ⟨dx, fs, kvs, h1, h2, h3, h4, h5, h6, h7⟩ := st
    refine ⟨.ref a, rfl, a, C, dx, fs, .ref la, rfl, h1, L.cl, L.nl, h2, .str y, rfl, la, ms, ks, y, rfl, h4, my, ?_⟩
    obtain ⟨v, hv, tv, mv⟩ := h6.get nd m
    obtain ⟨b, u1, u2, rfl, hb, t1, t2⟩ := tv.pair
    obtain ⟨al, vl, rfl, hal, tl⟩ := t2.tup
    obtain ⟨zl, rfl, el, tz⟩ := Tts.refs tl
    have lz : zl.length ≤ 60 := by
      rw [el, List.length_map] at ll
      exact ll
    refine ⟨.ref a, rfl, a, C, dx, fs, .ref t, rfl, h1, L.cl, L.nt, h3, .str z, rfl, t, .ref b, rfl, .inl ⟨kvs, Sum.inr z, .inl h5, rfl, by rw [hv]⟩, b, _, 1, .ref al, rfl, rfl, tup_of hb, rfl, al, rfl, ⟨_, tup_of hal⟩, fun D nD => ?_⟩
    refine lc_ong (h := fun z : Addr × (Str × Str) => V.ref z.1) (xs := zl) (vs := [3, 4]) (by have := walk_tup (K := K) (a := al) (xs := zl.map fun z => V.ref z.1); rw [List.length_map] at this; exact this) rfl (fun e => [some (.ref a), some (.str z), some (.str y), some (.str e.2.1), some (.str e.2.2)]) (fun e => decide (e.2.1 = y)) (fun e => .str e.2.2) nD (fun H4 s4 => tup_of (s4 _ _ hal)) (by omega) (fun e he H4 s4 R hR => ?_) (fun e he => rfl) (fun e he H4 s4 Q' q' => ?_) (fun e he _ H4 s4 Q' q' => ⟨_, rfl, q' H4 (Same.refl H4)⟩) fun H4 s4 e4 => ?_
    · obtain ⟨c, x1, x2, ec, hc, y1, y2⟩ := (tz e he).pair
      have ec' : e.1 = c := by injection ec
      subst ec'
      rw [y1.str, y2.str] at hc
      exact ⟨e.1, _, rfl, tup_of (s4 _ _ hc), rfl, _, _, rfl, _, _, rfl, rfl, hR⟩
    · refine ⟨_, rfl, _, rfl, rfl, ?_⟩
      refine ⟨_, rfl, ?_⟩
      have ed : decide (V.str e.2.1 = V.str y) = decide (e.2.1 = y) := decide_eq_decide.mpr ⟨fun z => by injection z, fun z => by rw [z]⟩
      rw [ed]
      exact q' H4 (Same.refl H4)
    · refine ⟨D, _, rfl, .inl ⟨lst_of e4, fun p np => ?_⟩⟩
      have ee : (zl.filter fun e => decide (e.2.1 = y)).map (fun e => V.str e.2.2) = (endsP (getP ps z).2.items y).map V.str := by
        unfold endsP
        rw [el, List.filter_map, List.map_map, List.map_map]
        rfl
      exact q p _ (s4.new np) (s4.free np) (by rw [upd_same, ee])
theorem ok_sst {f CL C : Addr} {fd : FuncData} {k : Nat} (F : Fun K "__str__" "Store.__str__" sSst f fd) (L : SCls K C) (mN : mg "len" = none) (mS : mg "sum" = none) : FnOk P w K mg base CX0 (k + 1) f fd ["self"] (spSst CL C) := by
  refine F.ok scSst (fun vs H Q E h => ?_) (fun cdv A outer s H vs Q E hr h => ?_)
  · obtain ⟨a, la, t, ms, ks, ps, rfl, _⟩ := h
    rfl
  · obtain ⟨a, la, t, ms, ks, ps, rfl, ⟨dx, fs, kvs, h1, h2, h3, h4, h5, h6, h7⟩, l1, l2, q⟩ := h
    refine ⟨_, pss_cons (ps_set (i := 1) scSst.nd rfl (.inl rfl) (pe_callB (cr_sum rfl) (by rfl) mS (by decide +kernel) (pa_cons (pe_lock
        (pe_lc (own := [("pair", 2)]) (g := gName 2) (tt := tYes) (te := tCB (rLenS K) (tCons (tOp (rIxT K) (tVar 2) (tC (.int 1))) tNil)) (by rfl) scSst.nd (pi_values (pe_fld (pv 0) (by rfl))) (blkOk_by (own := [("pair", 2)]) (N := nSst) (sc := defScope sSst) (by decide +kernel)) (fun _ _ _ _ _ => pg_name (i := 2) scSst.nd rfl (Or.inl rfl)) (fun _ _ _ _ _ => pts_nil)
          (fun _ _ _ _ _ => pe_callB call_lenS (by rfl) mN PySem.boot_len (pa_cons (pe_ix ix_tup (pv 2) pe_int (fun _ _ => rfl)) pa_nil)))) pa_nil)))
      (pss_one (ps_ret (pe_joined (.cons pe_str (.cons (pe_fmt (pe_callB call_lenD (by rfl) mN PySem.boot_len (pa_cons (pe_fld (pv 0) (by rfl)) pa_nil))) (.cons pe_str (.cons (pe_fmt (pv 1)) (.cons pe_str .nil)))))))), ?_⟩
    obtain ⟨zs, ez, ep, hz⟩ := paired_zs h6
    have nat : a ≠ t := ne_of h1 h5 (fun z => nomatch z)
    refine ⟨t, _, h5, trivial, fun od => ⟨.ref a, rfl, a, C, dx, fs, .ref t, rfl, by rw [upd_ne nat]; exact h1, L.cl, L.nt, h3, t, od, kvs, rfl, upd_same, fun D nD => ?_⟩⟩
    have eL : (upd H t (.frz od (.dK kvs))) t = some (.frz od (.dK kvs)) := upd_same
    have kq : Kq H (upd H t (.frz od (.dK kvs))) := Kq.lock h5
    have un : ∀ H', Same (upd H t (.frz od (.dK kvs))) H' → Same H (upd H' t (.dK kvs)) := fun H' s' => Same.unlock h5 s'
    have nDt : D ≠ t := fun e => by rw [e, eL] at nD; cases nD
    generalize upd H t (.frz od (.dK kvs)) = H1 at nD eL kq un ⊢
    have lz : zs.length = ps.length := by rw [ep, List.length_map]
    have lk : kvs.length = zs.length := by rw [ez, List.length_map]
    refine lc_map (h := fun z : (Key × V) × (Str × Pr) => z.1.2) (xs := zs) (by have := walk_valsY (d := t) (o := od) (kvs := kvs); rw [show (zs.map fun z => z.1.2) = kvs.map fun kv => kv.2 by rw [ez, List.map_map]; rfl]; exact this) lk (fun z => V.int (z.2.2.2.items.length : Int)) nD (fun H' s' => s' _ _ eL) (by omega) (fun z hzz H' s' Q' q' => ?_) fun H3 s3 e3 => ?_
    · obtain ⟨b, u1, u2, eb, hb, t1, t2⟩ := (hz z hzz).2.pair
      obtain ⟨al, vl, rfl, hal, tl⟩ := t2.tup
      have hl := Tts.length tl
      refine ⟨_, rfl, b, _, 1, .ref al, eb, rfl, tup_of (s' _ _ (kq.tup hb)), rfl, al, vl, rfl, .inr (tup_of (s' _ _ (kq.tup hal))), ?_⟩
      rw [hl]
      exact q' H' (Same.refl H')
    refine ⟨s3 _ _ eL, ?_⟩
    have s4 := un H3 s3
    have e4 : (upd H3 t (.dK kvs)) D = some (.lst ((zs.map fun z => (z.2.2.2.items.length : Int)).map V.int)) := by
      rw [upd_ne nDt, e3, List.map_map]
      rfl
    have t4 : (upd H3 t (.dK kvs)) t = some (.dK kvs) := upd_same
    generalize upd H3 t (.dK kvs) = H4 at s4 e4 t4 ⊢
    have sm : (zs.map fun z => (z.2.2.2.items.length : Int)).sum = ((links ps : Nat) : Int) := by
      unfold links
      rw [ep, List.map_map]
      clear e3 e4 ez ep lz lk hz
      induction zs with
      | nil => rfl
      | cons z zs ih => rw [List.map_cons, List.sum_cons, ih, List.map_cons, List.sum_cons, Int.natCast_add]; rfl
    refine ⟨D, _, rfl, lst_of e4, ?_⟩
    rw [sm]
    have z1 := int_short (n := ps.length) (by omega)
    have z2 := int_short (n := links ps) l2
    have ln : kvs.length = ps.length := by omega
    refine ⟨_, rfl, by decide +kernel, .ref a, rfl, a, C, dx, fs, .ref t, rfl, s4 _ _ h1, L.cl, L.nt, h3, t, kvs, rfl, t4, .inr ⟨_, rfl, by rw [ln]; exact int_small (by omega), _, rfl, ?_, _, rfl, ?_, _, rfl, .inr ⟨_, rfl, int_small l2, _, rfl, ?_, _, rfl, ?_, ?_⟩⟩⟩
    · rw [ln]
      exact fits2 (show _ ≤ 100 by decide +kernel) z1
    · rw [ln]
      exact fits2 (Nat.le_trans (len2 _ _) (Nat.add_le_add (by decide +kernel : _ ≤ 100) z1)) (show _ ≤ 100 by decide +kernel)
    · rw [ln]
      exact fits2 (Nat.le_trans (len2 _ _) (Nat.add_le_add (Nat.le_trans (len2 _ _) (Nat.add_le_add (by decide +kernel : _ ≤ 100) z1)) (by decide +kernel : _ ≤ 100))) z2
    · rw [ln]
      exact fits2 (Nat.le_trans (len2 _ _) (Nat.add_le_add (Nat.le_trans (len2 _ _) (Nat.add_le_add (Nat.le_trans (len2 _ _) (Nat.add_le_add (by decide +kernel : _ ≤ 100) z1)) (by decide +kernel : _ ≤ 100))) z2)) (show _ ≤ 100 by decide +kernel)
    · rw [ln]
      exact q H4 s4
theorem ok_seq {f CL CS C D : Addr} {fd : FuncData} {k : Nat} (F : Fun K "__eq__" "Store.__eq__" sSeq f fd) (L : SCls K C) (LD : SCls K D) (I : SIs K CS D) (GE : OwN P w K mg base k CL "__eq__" (spLeq K CL)) (gS : mg "Store" = some (.ref CS)) (mI : mg "isinstance" = none) : FnOk P w K mg base CX0 (k + 1) f fd ["self", "other"] (spSeq K CL CS C D) := by
  refine F.ok scSeq (fun vs H Q E h => ?_) (fun cdv A outer s H vs Q E hr h => ?_)
  · obtain ⟨a, la, t, ms, ks, ps, y, rfl, _⟩ := h
    rfl
  · obtain ⟨a, la, t, ms, ks, ps, y, rfl, ⟨dx, fs, kvs, h1, h2, h3, h4, h5, h6, h7⟩, h⟩ := h
    have hu : (A.deeper (envOfC "Store.__eq__" (defScope sSeq) s.heap.objs.size f cdv)).units + 70 < cLine := by have := hr.un; omega
    refine ⟨_, pss_cons (ps_if (pt_not (pt_val (pe_callB call_isi (by rfl) mI (by decide +kernel) (pa_cons (pv 1) (pa_cons (pe_glob (v := .ref CS) rfl gS rfl) pa_nil))))) (pss_one (ps_ret pe_bl)) pss_nil)
      (pss_one (ps_ret (pe_and (pe_cmpR (op_eqN GE hr) (pe_fld (pv 0) (by rfl)) (pe_fld (pv 1) (by rfl)) (nomark _)) (pe_one (pe_cmpR (op_eqK (α := Pr) hu) (pe_fld (pv 0) (by rfl)) (pe_fld (pv 1) (by rfl)) (nomark _)))))), ?_⟩
    rcases h with ⟨⟨ty, ht, kt⟩, q⟩ | ⟨b, lb, u, ms', ks', qs, rfl, ⟨dy, gs, jvs, g1, g2, g3, g4, g5, g6, g7⟩, q⟩
    · exact ⟨y, rfl, y, .ref CS, ty, .ref CS, false, rfl, .own CS, ht, kt, false, rfl, iteT q⟩
    · refine ⟨.ref b, rfl, .ref b, .ref CS, .ref D, .ref CS, true, rfl, .own CS, .base (.ins g1 LD.cl I.ha I.hn I.ht I.hm), I.me, true, rfl, iteF ?_⟩
      have hLa := h4
      obtain ⟨dl, fl, pm, pk, l1, _⟩ := h4
      have hLb := g4
      obtain ⟨dl', fl', pm', pk', l1', _⟩ := g4
      refine ⟨.ref a, rfl, a, C, dx, fs, .ref la, rfl, h1, L.cl, L.nl, h2, .ref b, rfl, b, D, dy, gs, .ref lb, rfl, g1, LD.cl, LD.nl, g2, la, dl, fl, .ref CL, rfl, l1, TyL.ins l1', by simp [PySem.W.notFirst], la, .ref lb, ms, ks, rfl, hLa, .inr ⟨lb, ms', ks', rfl, hLb, _, rfl, ?_⟩⟩
      rw [if_neg Bool.false_ne_true]
      refine ⟨_, rfl, ?_⟩
      cases c : (decide (ms = ms') && decide (ks = ks')) with
      | false =>
        rw [c] at q
        exact q
      | true =>
        rw [c] at q
        refine ⟨.ref a, rfl, a, C, dx, fs, .ref t, rfl, h1, L.cl, L.nt, h3, .ref b, rfl, b, D, dy, gs, .ref u, rfl, g1, LD.cl, LD.nt, g3, t, u, ps, qs, rfl, rfl, h6.dk (.inl h5), g6.dk (.inl g5), ?_⟩
        exact q
end
end Tf

/-! def f(a, b, **d), called without keywords -/
namespace TfW
open PySem PySem.Spec PyProof.Rows L2 StX
section
variable {CX : CXT} {P : Program} {w : World} {K : PySem.W.Frag} {mg : Str → Option Value} {base : Heap} {k : Nat} {f : Addr} {name qual : Str} {params : Arguments} {body : List Stmt} {scope : Scope} {dV kV doc pm cdv ct oc : Value} {an od : Option Addr}
  {osl : Array (Option Value)} {N : List Str} {sp : Sp}
theorem fn_kw0 {p1 p2 pd : Str} (lk : K.lookup f = some ⟨oc, od, .func (PySem.W.fnOf name qual params body scope dV kV doc pm an cdv ct), osl⟩) (hcd : PySem.W.codeIn K cdv qual = true) (S : FnScope N [p1, p2, pd] scope) (hCX : CXUp CX)
    (hb : ∀ a b : Value, bindArgs (PySem.W.fnOf name qual params body scope dV kV doc pm an cdv ct) ⟨[a, b], []⟩ = ((alloc ({ cls := .type "dict", data := .dict #[] } : Obj) : Sem Addr) >>= fun d => pure [(p1, a), (p2, b), (pd, Value.ref d)]))
    (hbody : ∀ (A : Around) (outer : List Env) (s : Shared) (H : Hp) (vs : List V) (Q : VK) (E : XK), Room k (A.deeper (envOfC qual scope s.heap.objs.size f cdv)) → sp vs H Q E →
      ∃ t, PSs (cxOf CX P w K mg base N qual scope f cdv A outer s H E) body t ∧ t { nx := fun _ H' => Q .non H', rt := Q } (start N vs) H) :
    FnR P w K mg base CX (k + 1) f (fun vs H Q E => ∃ a b, vs = [a, b] ∧ ∀ d, H d = Option.none → sp [a, b, V.ref d] (upd H d (.dK [])) Q E) := by
  intro A outer s H us vs Q E hr e0 r hsp
  obtain ⟨a, b, rfl, hq⟩ := hsp
  obtain ⟨u1, u2, rfl, r1, r2⟩ := vals2 r
  have hn : H s.heap.objs.size = Option.none := e0.hok.fresh (Nat.le_refl _)
  refine run_bnd lk hcd S hr e0 (G := fun xs H2 => ∃ d, H d = Option.none ∧ xs = [a, b, V.ref d] ∧ H2 = upd H d (.dK [])) (fun A' Ex Q' h => ?_) fun s2 H2 xs ⟨d, hd, ex, eH⟩ hr' => ?_
  · rw [hb u1 u2]
    refine wpAny_bind (wpAny_alloc (wpAny_pure ?_))
    have e2 := env0_laid (u := .dK []) (o := ({ cls := .type "dict", data := .dict #[] } : Obj)) e0 (dk_empty _ (env0_big e0))
    have un := un_laid (fs := frs outer) (s := s) (o := ({ cls := .type "dict", data := .dict #[] } : Obj)) (u := .dK []) hn
    exact h _ _ [a, b, V.ref s.heap.objs.size] [u1, u2, Value.ref s.heap.objs.size] e2 un rfl (fun e s' => hCX outer s H _ _ E e s' un (fun b o q => Heap.get?_push_of_some _ q) rfl) (.cons r1 (.cons r2 (.cons rfl .nil))) rfl ⟨_, hn, rfl, rfl⟩
  · subst ex eH
    exact hbody A outer s2 _ _ Q E hr' (hq d hd)
end
end TfW

/-! def f(a, b, **d), called with two keywords; o != b where b is of a class below -/
namespace PySem
namespace TfO
open PySem.W PySem.Calls PyProof.Rows
section
variable {prog : Program} {w : World} {M : Model} {A : Around} {E : Value → Shared → Prop} {s : Shared} {K : Frag} {x y C D f : Addr} {ox oy : Obj} {od oe : Option Obj}
/-- a != b, the class of b below that of a: the __eq__ of b is asked -/
theorem neR_K {Q : Value → Shared → Prop} (hu : A.units + 1 < cLine) (X : K.In s.heap) (I : InstAt s.heap x ox C od) (J : InstAt s.heap y oy D oe) (hne' : D ≠ C) (hsub : subIn K (.ref D) (.ref C) = some true)
    (hs : findIn K (.ref D) "__eq__" = some (some (.ref f))) (hf : isFn K (.ref f) = true) (hne : findIn K (.ref D) "__ne__" = some (some (.builtin "object.__ne__"))) (hm : mroIn K D (.type "object") = some true)
    (h : wpAny (model prog w) A.in1 (call (.ref f) [.ref y, .ref x]) (fun v s' => ∃ r, v = .bool r ∧ Q (.bool (!r)) s') E s) : wpAny (model prog w) A (richCompare .NotEq (.ref x) (.ref y)) Q E s := by
  have one : wpAny (model prog w) A (tryCompare (.ref y) (cmpInfo .NotEq).2.2 (.ref x)) (fun r s' => ∃ v, r = some v ∧ Q v s') E s := by
    unfold tryCompare
    refine wpAny_bind (ifBound_B (name := "__ne__") X J hne slot_one.bind ?_)
    refine wpAny_call (codeAny_call_builtin slot_one.plain F.cmpEntry_ne (check_slot (i := "object.__ne__") (owner := "object") (n := "__ne__") F.cmpKind_ne F.cmpSplit_ne (J.type.andThen (looks_mroIn X hm)) (F.cmpArgs_ne _ _) ?_))
    unfold Builtin.«object.__ne__»
    refine wpAny_bind (m := slotArgs "__ne__" 1 _) (wpAny_pure ?_)
    refine wpAny_bind (m := cRoomFor _ _) (wpAny_cRoomFor hu ?_)
    refine wpAny_bind (m := callSpecialIfBound? (.ref y) (Str.ofString "__eq__") _) (ifBound_K X J hs hf (wpAny_mono h (fun r s' hq => ?_) fun _ _ z => z))
    obtain ⟨r, rfl, hq⟩ := hq
    refine wpAny_bind (m := truthy (.bool r)) (wpAny_truthy_bool ?_)
    exact wpAny_pure (wpAny_pure ⟨_, rfl, hq⟩)
  unfold richCompare
  simp only [oneThing_ref]
  refine wpAny_holding (wpAny_bind (wpAny_cRoomFor (Nat.lt_of_succ_lt hu) ?_))
  refine wpAny_bind (I.type.here (wpAny_bind (J.type.here ?_)))
  have q : (Value.ref C != Value.ref D) = true := by
    rw [bne_iff_ne]
    intro e
    injection e with e
    exact hne' e.symm
  simp only [q, if_true]
  refine wpAny_bind ((looks_subIn X hsub).here ?_)
  simp only [if_true]
  refine wpAny_bind (wpAny_mono one (fun r s' z => ?_) fun _ _ e => e)
  obtain ⟨v, rfl, hq⟩ := z
  exact wpAny_bind (wpAny_rule (wpAny_pure hq))
end
end TfO
end PySem
namespace L2
open PySem PySem.Spec PyProof.Rows
section
variable {X : Cx} {CX : CXT} {k : Nat} {f C D : Addr} {sp : Sp} {E : XK}
def rNeR (C D : Addr) (sp : Sp) (E : XK) : R2 := fun x y H Q => ∃ a dx fs b dy gs, x = .ref a ∧ y = .ref b ∧ H a = some (.ins C dx fs) ∧ H b = some (.ins D dy gs) ∧ sp [.ref b, .ref a] H (fun v H' => ∃ r, v = .bl r ∧ Q (.bl (!r)) H') E
theorem op_neR (o : OwnM X.K D "__eq__" f) (hD : D ≠ C) (hsub : PySem.W.subIn X.K (.ref D) (.ref C) = some true) (hne : PySem.W.findIn X.K (.ref D) "__ne__" = some (some (.builtin "object.__ne__"))) (hm : PySem.W.mroIn X.K D (.type "object") = some true) (F : FnR X.prog X.w X.K X.mg X.base CX k f sp) (hr : Room (k + 1) X.A) (hx : Passes CX X E) : OpR X (compareOp .NotEq) (rNeR C D sp E) := by
  intro pins s σ H x y u v Q I rx ry h
  obtain ⟨a, dx, fs, b, dy, gs, rfl, rfl, ha, hb, h⟩ := h
  cases rx
  cases ry
  obtain ⟨ox, od, J⟩ := ins_at I ha
  obtain ⟨oy, oe, J'⟩ := ins_at I hb
  show wpAny (model X.prog X.w) X.A (richCompare .NotEq (.ref a) (.ref b)) (EP X pins σ Q) X.xe s
  refine PySem.TfO.neR_K (by have := hr.un; omega) I.kIn J J' hD hsub o.at_ o.fn hne hm (wpAny_mono (run_sub F (sub1 hr) hx I (vs := [.ref b, .ref a]) (.cons rfl (.cons rfl .nil)) h) (fun v s' q => ?_) fun _ _ z => z)
  obtain ⟨v', H', I', rv, r, rfl, q⟩ := q
  cases rv
  exact ⟨r, rfl, .bl (!r), H', I', rfl, q⟩
end
end L2
namespace TfW
open PySem PySem.Spec PyProof.Rows L2 StX
/-- a new name in a dict of texts -/
theorem nsSet_dk {P : Program} {w : World} {A : Around} {E : Value → Shared → Prop} {s : Shared} {d : Addr} {vs : List (Key × Value)} {name : Str} {v : Value} {Q : Unit → Shared → Prop} (dd : s.heap.DictOf (mixKind P w) d vs) (hn : Sum.inr name ∉ vs.map (·.1))
    (h : ∀ h' : Heap, h'.DictOf (mixKind P w) d (vs ++ [(Sum.inr name, v)]) → Heap.SameBut d s.heap h' → Q () { s with heap := h', toks := s.toks + 1 }) : wpAny (model P w) A (nsSet d name v) Q E s := by
  obtain ⟨o, es, ep, ho, ⟨x1, x2, x3⟩, hd, hk, hp, nd⟩ := dd
  have ref : es.any (·.refKey) = false := by
    rw [Array.any_eq_false']
    intro e he
    obtain ⟨k, h1, _⟩ := hk e he
    rcases keyIs_shape h1 with ⟨i, t, _, e1⟩ | ⟨z, t, _, e1⟩ <;> simp [DictEntry.refKey, e1]
  have par : ∀ {xs : List DictEntry} {ws : List (Key × Value)}, Pairs (mixKind P w) xs ws → ∀ e ∈ xs, ∃ kv ∈ ws, keyIs kv.1 e.key = true := by
    intro xs ws hp
    induction hp with
    | nil => intro e he; cases he
    | cons h1 h2 _ ih =>
      intro e he
      rcases List.mem_cons.mp he with rfl | he
      · exact ⟨_, List.mem_cons_self, h1⟩
      · obtain ⟨kv, m, q⟩ := ih e he
        exact ⟨kv, List.mem_cons_of_mem _ m, q⟩
  have fnd : es.findIdx? (·.key.isStr name) = none := by
    rw [Array.findIdx?_eq_none_iff]
    intro e he
    obtain ⟨kv, m, q⟩ := par hp e (Array.mem_toList_iff.mpr he)
    cases hz : e.key.isStr name with
    | false => rfl
    | true =>
      exfalso
      refine hn (List.mem_map.mpr ⟨kv, m, ?_⟩)
      rcases keyIs_shape q with ⟨i, t, _, e1⟩ | ⟨z, t, e0, e1⟩
      · rw [e1] at hz
        cases hz
      · rw [e1] at hz
        rw [e0]
        have hz' : (z == name) = true := hz
        rw [beq_iff_eq.mp hz']
  intro Γ p hΓ
  show Sem.wp _ _ _ _ _ _ _
  simp only [nsSet, strHash, Sem.wp_bind', Sem.wp_cmd_ask, Sem.wp_pure', Sem.wp_cmd_mkText]
  rw [Sem.wp_loadPart_of _ Γ _ p { s with toks := s.toks + 1 } (o := o) _ ho]
  simp only [hd, aRefKeyMayBeTheName_eq, aRefKeyMayBeTheNameByArray, ref, Bool.and_false, Bool.false_eq_true, if_false, Sem.wp_cmd_updatePart]
  refine ⟨by rw [ho]; rfl, h _ ?_ (Heap.SameBut.update ..)⟩
  obtain ⟨c, dd, dt, sl⟩ := o
  subst hd
  refine ⟨_, _, ep + 1, Heap.get?_update_self _ ho (by simp only [Obj.putName_eq, Obj.putNameByArray, fnd]; rfl), ⟨by simp only [Obj.putName_eq, Obj.putNameByArray, fnd]; exact x1, by simp only [Obj.putName_eq, Obj.putNameByArray, fnd]; exact x2, by simp only [Obj.putName_eq, Obj.putNameByArray, fnd]; exact x3⟩, by simp only [Obj.putName_eq, Obj.putNameByArray, fnd]; rfl, ?_, ?_, ?_⟩
  · intro e he
    rcases Array.mem_push.mp he with he | rfl
    · exact hk e he
    · exact ⟨Sum.inr name, keyIs_str name s.toks, rfl⟩
  · rw [Array.toList_push]
    have app : ∀ {xs : List DictEntry} {ws : List (Key × Value)} {e : DictEntry} {kv : Key × Value}, Pairs (mixKind P w) xs ws → (mixKind P w).is kv.1 e.key = true → e.val = kv.2 → Pairs (mixKind P w) (xs ++ [e]) (ws ++ [kv]) := by
      intro xs ws e kv hp h1 h2
      induction hp with
      | nil => exact .cons h1 h2 .nil
      | cons q1 q2 _ ih => exact .cons q1 q2 ih
    exact app hp (keyIs_str name s.toks) rfl
  · rw [List.map_append, List.nodup_append]
    refine ⟨nd, by simp, fun a ha b hb => ?_⟩
    have eb : b = Sum.inr name := by simpa using hb
    rintro rfl
    exact hn (eb ▸ ha)
section
variable {CX : CXT} {P : Program} {w : World} {K : PySem.W.Frag} {mg : Str → Option Value} {base : Heap} {k : Nat} {f : Addr} {name qual : Str} {params : Arguments} {body : List Stmt} {scope : Scope} {dV kV doc pm cdv ct oc : Value} {an od : Option Addr}
  {osl : Array (Option Value)} {N : List Str} {sp : Sp}
theorem fn_kw2 {p1 p2 pd k1 k2 : Str} (lk : K.lookup f = some ⟨oc, od, .func (PySem.W.fnOf name qual params body scope dV kV doc pm an cdv ct), osl⟩) (hcd : PySem.W.codeIn K cdv qual = true) (S : FnScope N [p1, p2, pd] scope) (hCX : CXUp CX) (hk : k1 ≠ k2)
    (hb : ∀ a b u1 u2 : Value, bindArgs (PySem.W.fnOf name qual params body scope dV kV doc pm an cdv ct) ⟨[a, b], [(k1, u1), (k2, u2)]⟩ = ((alloc ({ cls := .type "dict", data := .dict #[] } : Obj) : Sem Addr) >>= fun d => forIn [(k1, u1), (k2, u2)] PUnit.unit (fun x (_ : PUnit) => nsSet d x.1 x.2 >>= fun _ => pure (ForInStep.yield PUnit.unit)) >>= fun _ => pure [(p1, a), (p2, b), (pd, Value.ref d)]))
    (hbody : ∀ (A : Around) (outer : List Env) (s : Shared) (H : Hp) (vs : List V) (Q : VK) (E : XK), Room k (A.deeper (envOfC qual scope s.heap.objs.size f cdv)) → sp vs H Q E →
      ∃ t, PSs (cxOf CX P w K mg base N qual scope f cdv A outer s H E) body t ∧ t { nx := fun _ H' => Q .non H', rt := Q } (start N vs) H) :
    FnA P w K mg base CX (k + 1) f [k1, k2] (fun vs zs H Q E => ∃ a b y z, vs = [a, b] ∧ zs = [y, z] ∧ ∀ d, H d = Option.none → sp [a, b, V.ref d] (upd H d (.dK [(Sum.inr k1, y), (Sum.inr k2, z)])) Q E) := by
  intro A outer s H us ws vs zs Q E hr e0 r rz hsp
  obtain ⟨a, b, y, z, rfl, rfl, hq⟩ := hsp
  obtain ⟨u1, u2, rfl, r1, r2⟩ := vals2 r
  obtain ⟨u3, u4, rfl, r3, r4⟩ := vals2 rz
  have hn : H s.heap.objs.size = Option.none := e0.hok.fresh (Nat.le_refl _)
  refine run_bnd lk hcd S hr e0 (G := fun xs H2 => ∃ d, H d = Option.none ∧ xs = [a, b, V.ref d] ∧ H2 = upd H d (.dK [(Sum.inr k1, y), (Sum.inr k2, z)])) (fun A' Ex Q' h => ?_) fun s2 H2 xs ⟨d, hd, ex, eH⟩ hr' => ?_
  · show wpAny _ _ (bindArgs _ ⟨[u1, u2], [(k1, u3), (k2, u4)]⟩) _ _ _
    rw [hb u1 u2 u3 u4]
    refine wpAny_bind (wpAny_alloc ?_)
    have d0 : (s.heap.push ({ cls := .type "dict", data := .dict #[] } : Obj)).DictOf (mixKind P w) s.heap.objs.size [] := ⟨_, #[], 0, Heap.get?_push_size _ rfl, ⟨rfl, rfl, rfl⟩, rfl, fun e he => by simp at he, .nil, List.nodup_nil⟩
    simp only [List.forIn_cons, List.forIn_nil]
    refine wpAny_bind (wpAny_bind (wpAny_bind (nsSet_dk d0 (by simp) fun h1 d1 b1 => wpAny_pure ?_)))
    refine wpAny_bind (wpAny_bind (nsSet_dk (s := { s with heap := h1, toks := s.toks + 1 }) d1 (by simpa using fun e => hk e.symm) fun h2 d2 b2 => wpAny_pure ?_))
    refine wpAny_pure (wpAny_pure ?_)
    have kp : ∀ b x, s.heap.get? b = some x → h2.get? b = some x := fun b x e => by
      have ne : b ≠ s.heap.objs.size := Nat.ne_of_lt (Heap.lt_size e)
      rw [b2.2 b ne]
      show h1.get? b = some x
      rw [b1.2 b ne]
      exact Heap.get?_push_of_some _ e
    have sz : s.heap.objs.size ≤ h2.objs.size := by
      have z1 := b1.1
      have z2 : h2.objs.size = h1.objs.size := b2.1
      rw [z2, z1]
      show s.heap.objs.size ≤ (s.heap.push _).objs.size
      rw [Heap.size_push]
      exact Nat.le_succ _
    have new : ObjOk P w (upd H s.heap.objs.size (.dK [(Sum.inr k1, y), (Sum.inr k2, z)])) h2 s.heap.objs.size (.dK [(Sum.inr k1, y), (Sum.inr k2, z)]) := ⟨by show 2 ≤ sizeLine; decide, beq_eq_false_iff_ne.mpr (Nat.ne_of_gt (env0_big e0)), _, .cons ⟨rfl, r3⟩ (.cons ⟨rfl, r4⟩ .nil), d2⟩
    have un : Un (frs outer) [] H (upd H s.heap.objs.size (.dK [(Sum.inr k1, y), (Sum.inr k2, z)])) s.heap h2 := Un.laid kp (Nat.le_refl _) hn
    have e2 : Env0 P w K mg base A outer { s with heap := h2, toks := s.toks + 1 + 1 } (upd H s.heap.objs.size (.dK [(Sum.inr k1, y), (Sum.inr k2, z)])) := by
      refine ⟨e0.frames, e0.mod, fun b x e => ⟨kp b x (e0.bs b x e).1, ?_⟩, Nat.le_trans e0.bsz sz, Heap.FunFrames.of_keeps (fun b x e _ => ⟨x, kp b x e, rfl⟩) e0.funs, fun b hb => ?_, e0.hok.laid kp (Nat.le_refl _) new, e0.bare⟩
      · rw [upd_ne (Nat.ne_of_lt (Heap.lt_size (e0.bs b x e).1))]
        exact (e0.bs b x e).2
      · obtain ⟨_, x, hx, _⟩ := e0.funs.mem hb
        rw [upd_ne (Nat.ne_of_lt (Heap.lt_size hx))]
        exact e0.frf b hb
    exact h _ _ [a, b, V.ref s.heap.objs.size] [u1, u2, Value.ref s.heap.objs.size] e2 un rfl (fun e s' => hCX outer s H _ _ E e s' un kp rfl) (.cons r1 (.cons r2 (.cons rfl .nil))) rfl ⟨_, hn, rfl, rfl⟩
  · subst ex eH
    exact hbody A outer s2 _ _ Q E hr' (hq d hd)
end
end TfW
namespace L2
open PySem PySem.Spec PyProof.Rows
/-- C(e, .., k = v, ..) -/
def tMakeA2 (C : Addr) (sp : SpK) (E : XK) (t : TA) (tk : TA) : TE := fun σ H Q => t σ H fun xs H1 => tk σ H1 fun zs H2 => ∀ x dx, H2 x = none → H2 dx = none → dx ≠ x →
  sp (.ref x :: xs) zs (upd (upd H2 dx (.own x)) x (.ins C dx [])) (fun v H3 => v = .non ∧ Q (.ref x) H3) E
section
variable {X : Cx} {CX : CXT} {k : Nat} {f C : Addr} {ks : List Str} {sp : SpK} {E : XK} {x : Str} {p sp_ pos : Pos} {e fe : Expr} {es : List Expr} {kws : List Keyword} {t tk : TA} {te tf : TE}
theorem pe_makeA2 (M : Mk X.K C f) (F : FnA X.prog X.w X.K X.mg X.base CX k f ks sp) (hr : Room (k + 1) X.A) (hg : Gl X x) (hm : X.mg x = some (.ref C)) (hx : Passes CX X E) (ha : PA X (e :: es) t) (hkw : PK X kws tk)
    (hall : (backToKw pos (keywordEach kws X.env)).all (·.1.isSome) = true := by rfl) (hks : (backToKw pos (keywordEach kws X.env)).filterMap (·.1) = ks := by rfl) (hdb : (x == ("__debug__" : Str)) = false := by decide)
    (he : starEach (e :: es) X.env = (false, eval e X.env) :: starEach es X.env := by rfl) (hpl : ((backTo pos (starEach (e :: es) X.env)).any (·.1) || (backToKw pos (keywordEach kws X.env)).any (·.1.isNone)) = false := by rfl) :
    PE X (.Call (.Name x p) (e :: es) kws pos) (tMakeA2 C sp E t tk) := by
  refine ⟨fun pins s σ H Q I h => ?_⟩
  refine wpAny_Call_Name_kw (ld_glob I hg hm ?_ hdb)
  refine PySem.W.callWith_KW (h₀ := X.base) I.ok.mod.kin M.kp hall (thn (ha.run pos pins s σ H _ I h) fun us s1 ⟨vs, H1, I1, r, q⟩ => ?_) hpl he
  refine thn (hkw.run pos pins s1 σ H1 _ I1 q) fun ws s2 ⟨zs, H2, I2, rz, q2⟩ => ⟨I2.kIn, ?_⟩
  rw [hks]
  exact run_makeA M F hr hx I2 r rz q2
end
end L2

/-! Store(language, bob = .., ann = ..), Store(language) -/
namespace Tf
open PySem PySem.Spec PyProof.Rows L2 PySem.W
abbrev sSin : Stmt := inClass sStore 0
theorem scSin : FnScope ["self", "language", "things"] ["self", "language", "things"] (defScope sSin) := ⟨rfl, rfl, rfl, by decide +kernel, rfl, by decide +kernel, by decide +kernel⟩
def spSbody (CL C : Addr) : Sp := fun vs H Q _ => ∃ (H0 : Hp) (x dx la d : Addr) (ms ks : List Str) (kvs : List (Key × V)) (ps : Ps), vs = [.ref x, .ref la, .ref d] ∧ Same H0 H ∧ H0 x = none ∧ H x = some (.ins C dx []) ∧ LangAt CL H la ms ks ∧ H d = some (.dK kvs) ∧ PsR H kvs ps ∧ SIn ms ks ps ∧ d ≠ x ∧ la ≠ x ∧
  ∀ (t : Addr) (H' : Hp), Same H0 H' → H0 t = none → StoreAt CL C H' x la t ms ks (normS ps) → Q .non H'
def spSin0 (CL C : Addr) : Sp := fun vs H Q _ => ∃ (H0 : Hp) (x dx la : Addr) (ms ks : List Str), vs = [.ref x, .ref la] ∧ H = upd (upd H0 dx (.own x)) x (.ins C dx []) ∧ H0 x = none ∧ H0 dx = none ∧ dx ≠ x ∧ LangAt CL H0 la ms ks ∧
  ∀ (t : Addr) (H' : Hp), Same H0 H' → H0 t = none → StoreAt CL C H' x la t ms ks [] → Q .non H'
def spSin2 (CL C : Addr) (k1 k2 : Str) : SpK := fun vs zs H Q _ => ∃ (H0 : Hp) (x dx la : Addr) (y z : V) (p q : Pr) (ms ks : List Str), vs = [.ref x, .ref la] ∧ zs = [y, z] ∧ H = upd (upd H0 dx (.own x)) x (.ins C dx []) ∧ H0 x = none ∧ H0 dx = none ∧ dx ≠ x ∧ LangAt CL H0 la ms ks ∧ Tt H0 y p ∧ Tt H0 z q ∧ SIn ms ks [(k1, p), (k2, q)] ∧
  ∀ (t : Addr) (H' : Hp), Same H0 H' → H0 t = none → StoreAt CL C H' x la t ms ks (normS [(k1, p), (k2, q)]) → Q .non H'
theorem normS_nil : normS [] = [] := by
  have h := canon_len ([] : List Str)
  have e : canon ([] : List Str) = [] := List.length_eq_zero_iff.mp (Nat.le_zero.mp h)
  unfold normS
  rw [List.map_nil, e]
  rfl
theorem LangAt.ne {CL : Addr} {H : Hp} {la x : Addr} {ms ks : List Str} (h : LangAt CL H la ms ks) (n : H x = none) : la ≠ x := by
  obtain ⟨dx, fs, pm, pk, h1, _⟩ := h
  exact ne_of_none h1 n
section
variable {P : Program} {w : World} {K : PySem.W.Frag} {mg : Str → Option Value} {base : Heap}
theorem body_sin {f CL C : Addr} {k : Nat} (L : SCls K C) (GR : CdN P w K mg base k "require_language" ["language"] (spRl CL)) (GC : CdN P w K mg base k "checked_things" ["language", "things"] (spCk CL))
    (cdv : Value) (A : Around) (outer : List Env) (s : Shared) (H : Hp) (vs : List V) (Q : VK) (E : XK) (hr : Room k (A.deeper (envOfC "Store.__init__" (defScope sSin) s.heap.objs.size f cdv))) (h : spSbody CL C vs H Q E) :
    ∃ t, PSs (cxOf CX0 P w K mg base ["self", "language", "things"] "Store.__init__" (defScope sSin) f cdv A outer s H E).nox (defBody sSin) t ∧ t { nx := fun _ H' => Q .non H', rt := Q } (start ["self", "language", "things"] vs) H := by
  obtain ⟨H0, x, dx, la, d, ms, ks, kvs, ps, rfl, s0, nx, ex, hL, hd, hp, si, dn, ln, q⟩ := h
  refine ⟨_, pss_cons (ps_expr (pe_cdn GR hr (pa_cons (pv 1) pa_nil))) (pss_cons (ps_fld (pv 0) (pv 1) rfl) (pss_one (ps_fld (pv 0) (pe_cdn GC hr (pa_cons (pv 1) (pa_cons (pv 2) pa_nil))) rfl))), ?_⟩
  refine ⟨.ref la, rfl, la, ms, ks, rfl, hL, ?_⟩
  refine ⟨.ref la, rfl, .ref x, rfl, x, C, dx, [], rfl, ex, L.cl, L.nl, by decide, ?_⟩
  have s1 : Same H0 (upd H x (.ins C dx (putF "own_language" (.ref la) []))) := s0.mut nx
  have x1 : (upd H x (.ins C dx (putF "own_language" (.ref la) []))) x = some (.ins C dx [(("own_language" : Str), .ref la)]) := upd_same
  have hd1 : (upd H x (.ins C dx (putF "own_language" (.ref la) []))) d = some (.dK kvs) := by rw [upd_ne dn]; exact hd
  have hL1 : LangAt CL (upd H x (.ins C dx (putF "own_language" (.ref la) []))) la ms ks := by
    obtain ⟨dy, fs, pm, pk, h1, h2, h3, h4, h5, h6⟩ := hL
    exact ⟨dy, fs, pm, pk, by rw [upd_ne ln]; exact h1, h2, h3, by rw [upd_ne (ne_of h4 ex (fun z => nomatch z))]; exact h4, by rw [upd_ne (ne_of h5 ex (fun z => nomatch z))]; exact h5, h6⟩
  have kt : Kt H (upd H x (.ins C dx (putF "own_language" (.ref la) []))) := fun b xs e => by rw [upd_ne (ne_of e ex (fun z => nomatch z))]; exact e
  have hp1 := hp.kt kt
  generalize upd H x (.ins C dx (putF "own_language" (.ref la) [])) = H1 at s1 x1 hd1 hL1 hp1 ⊢
  refine ⟨.ref la, rfl, .ref d, rfl, la, d, ms, ks, kvs, ps, rfl, hL1, hd1, hp1, si, fun t kvs' H2 s2 nt et rt => ?_⟩
  refine ⟨.ref x, rfl, x, C, dx, _, rfl, s2 _ _ x1, L.cl, L.nt, (show 1 < 1000 by decide), ?_⟩
  have tx : t ≠ x := (ne_of_none x1 nt).symm
  have hL2 := hL1.kq s2.kq
  refine q t _ ((s1.trans s2).mut nx) (s1.free nt) ⟨dx, _, kvs', upd_same, rfl, rfl, ?_, by rw [upd_ne tx]; exact et, rt.kt fun b xs e => by rw [upd_ne (ne_of e (s2 _ _ x1) (fun z => nomatch z))]; exact e, rfl⟩
  obtain ⟨dy, fs, pm, pk, h1, h2, h3, h4, h5, h6⟩ := hL2
  exact ⟨dy, fs, pm, pk, by rw [upd_ne ln]; exact h1, h2, h3, by rw [upd_ne (ne_of h4 (s2 _ _ x1) (fun z => nomatch z))]; exact h4, by rw [upd_ne (ne_of h5 (s2 _ _ x1) (fun z => nomatch z))]; exact h5, h6⟩
theorem ok_sin0 {f CL C : Addr} {fd : FuncData} {k : Nat} (F : Fun K "__init__" "Store.__init__" sSin f fd) (L : SCls K C) (GR : CdN P w K mg base k "require_language" ["language"] (spRl CL)) (GC : CdN P w K mg base k "checked_things" ["language", "things"] (spCk CL)) : FnR P w K mg base CX0 (k + 1) f (spSin0 CL C) := by
  obtain ⟨oc, od, kV, doc, pm, an, cdv, ct, osl, rfl, lk, hcd⟩ := F.ex
  have G := TfW.fn_kw0 (CX := CX0) (p1 := "self") (p2 := "language") (pd := "things") (sp := spSbody CL C) lk hcd scSin StX.cxUp_none (fun a b => rfl) (fun A outer s H vs Q E hr h => by
    obtain ⟨t, h1, h2⟩ := body_sin L GR GC cdv A outer s H vs Q E hr h
    exact ⟨t, h1.nox, h2⟩)
  intro A outer s H us vs Q E hr e0 r hs
  obtain ⟨H0, x, dx, la, ms, ks, rfl, rfl, nx, nd, ne, hL, q⟩ := hs
  refine G A outer s _ us _ Q E hr e0 r ⟨.ref x, .ref la, rfl, fun d hd => ?_⟩
  have s0 : Same H0 (upd (upd H0 dx (.own x)) x (.ins C dx [])) := (same_new nd).mut nx
  have ex : (upd (upd H0 dx (.own x)) x (.ins C dx [])) x = some (.ins C dx []) := upd_same
  generalize upd (upd H0 dx (.own x)) x (.ins C dx []) = H1 at s0 ex hd ⊢
  have dn : d ≠ x := (ne_of_none ex hd).symm
  refine ⟨H0, x, dx, la, d, ms, ks, [], [], rfl, s0.new hd, nx, by rw [upd_ne dn.symm]; exact ex, hL.kq (s0.new hd).kq, upd_same, .nil, ⟨List.nodup_nil, (fun z hz => nomatch hz), (fun p hp => nomatch hp), Nat.zero_le _⟩, dn, hL.ne nx, by rw [normS_nil]; exact q⟩
theorem ok_sin2 {f CL C : Addr} {fd : FuncData} {k : Nat} (F : Fun K "__init__" "Store.__init__" sSin f fd) (L : SCls K C) (GR : CdN P w K mg base k "require_language" ["language"] (spRl CL)) (GC : CdN P w K mg base k "checked_things" ["language", "things"] (spCk CL)) : FnA P w K mg base CX0 (k + 1) f ["bob", "ann"] (spSin2 CL C "bob" "ann") := by
  obtain ⟨oc, od, kV, doc, pm, an, cdv, ct, osl, rfl, lk, hcd⟩ := F.ex
  refine fnA_imp (TfW.fn_kw2 (CX := CX0) (p1 := "self") (p2 := "language") (pd := "things") (k1 := "bob") (k2 := "ann") (sp := spSbody CL C) lk hcd scSin StX.cxUp_none (by decide) (fun a b u1 u2 => rfl) (fun A outer s H vs Q E hr h => by
    obtain ⟨t, h1, h2⟩ := body_sin L GR GC cdv A outer s H vs Q E hr h
    exact ⟨t, h1.nox, h2⟩)) ?_
  rintro vs zs H Q E ⟨H0, x, dx, la, y, z, p, q', ms, ks, rfl, rfl, rfl, nx, nd, ne, hL, ty, tz, si, q⟩
  refine ⟨.ref x, .ref la, y, z, rfl, rfl, fun d hd => ?_⟩
  have s0 : Same H0 (upd (upd H0 dx (.own x)) x (.ins C dx [])) := (same_new nd).mut nx
  have ex : (upd (upd H0 dx (.own x)) x (.ins C dx [])) x = some (.ins C dx []) := upd_same
  generalize upd (upd H0 dx (.own x)) x (.ins C dx []) = H1 at s0 ex hd ⊢
  have dn : d ≠ x := (ne_of_none ex hd).symm
  have S : Same H0 (upd H1 d (.dK [(Sum.inr ("bob" : Str), y), (Sum.inr ("ann" : Str), z)])) := s0.new hd
  exact ⟨H0, x, dx, la, d, ms, ks, _, _, rfl, S, nx, by rw [upd_ne dn.symm]; exact ex, hL.kq S.kq, upd_same, .cons ⟨rfl, ty.kq S.kq⟩ (.cons ⟨rfl, tz.kq S.kq⟩ .nil), si, dn, hL.ne nx, q⟩
end
end Tf

/-! _law_passed: the store as it is passed -/
namespace Tf
open PySem PySem.Spec PyProof.Rows L2 PySem.W
abbrev sPas : Stmt := top 39
abbrev nPas : List Str := ["_law_dice_here", "_law_store_here", "_law_found", "_law_name", "_law_marks", "_law_links_here"]
theorem scPas : FnScope nPas ["_law_dice_here", "_law_store_here"] (defScope sPas) := ⟨rfl, rfl, rfl, by decide +kernel, rfl, by decide +kernel, by decide +kernel⟩
theorem nodup_le {α : Type} [DecidableEq α] : ∀ {xs ys : List α}, xs.Nodup → (∀ x ∈ xs, x ∈ ys) → xs.length ≤ ys.length
  | [], _, _, _ => Nat.zero_le _
  | x :: xs, ys, nd, h => by
    have nd' := List.nodup_cons.mp nd
    have mx := h x List.mem_cons_self
    have ih := nodup_le (xs := xs) (ys := ys.erase x) nd'.2 fun y hy => (List.mem_erase_of_ne (fun e : y = x => nd'.1 (e ▸ hy))).mpr (h y (List.mem_cons_of_mem _ hy))
    have := List.length_erase_of_mem mx
    have pos : 0 < ys.length := List.length_pos_of_mem mx
    rw [List.length_cons]
    omega
section
variable {α : Type} [DecidableEq α] [Datum α] {H H' : Hp} {d l : Addr} {xs : List V} {as : List α}
theorem tts_pd (h : Tts H xs as) (hz : Datum.depth α ≤ 40 := by decide) : ∀ x ∈ xs, Pd H x := fun x hx => by
  obtain ⟨zs, rfl, rfl, hh⟩ := paired_zs h
  obtain ⟨z, mz, rfl⟩ := List.mem_map.mp hx
  exact (hh z mz).pd hz
theorem tts_in {x : V} (h : Tts H xs as) (hx : x ∈ xs) : ∃ a ∈ as, Tt H x a := by
  obtain ⟨zs, rfl, rfl, hh⟩ := paired_zs h
  obtain ⟨z, mz, rfl⟩ := List.mem_map.mp hx
  exact ⟨_, List.mem_map.mpr ⟨z, mz, rfl⟩, hh z mz⟩
theorem tts_perm {ys : List V} (h : Tts H xs as) (p : ys.Perm xs) : ∃ bs : List α, Tts H ys bs ∧ bs.Perm as := by
  obtain ⟨zs, rfl, rfl, hh⟩ := paired_zs h
  obtain ⟨M, m1, rfl⟩ := L2.perm_back (·.1) ys zs p
  refine ⟨M.map (·.2), ?_, m1.map _⟩
  have hM : ∀ z ∈ M, Tt H z.1 z.2 := fun z hz => hh z (m1.mem_iff.mp hz)
  clear m1 p h hh
  induction M with
  | nil => exact .nil
  | cons z M ih => exact .cons (hM z List.mem_cons_self) (ih fun y hy => hM y (List.mem_cons_of_mem _ hy))
/-- a list that may have grown by one of its items -/
structure Gr (H H' : Hp) (d l : Addr) (as : List α) : Prop where
  kp : ∀ b o, b ≠ d → b ≠ l → H b = some o → H' b = some o
  dc : Dice H' d
  ex : ∃ (xs : List V) (bs : List α), H' l = some (.lst xs) ∧ Tts H' xs bs ∧ (∀ a, a ∈ bs ↔ a ∈ as) ∧ bs.length ≤ as.length + 1
theorem Gr.nr {H1 : Hp} (g : Gr H H1 d l as) (n : Nr d H1 H') (dc : Dice H' d) (dn : d ≠ l) : Gr H H' d l as := by
  obtain ⟨kp, dc1, ys, bs, e, t, m, le⟩ := g
  exact ⟨fun b o h1 h2 z => n _ _ h1 (kp b o h1 h2 z), dc, ys, bs, n _ _ dn.symm e, Tts.kq t (n.kq dc1), m, le⟩
end
/-- the same marks and links, maybe one twice, in any order -/
structure Like (ps : Ps) (z : Str) (q : Pr) : Prop where
  m : ∀ x, x ∈ q.1.items ↔ x ∈ (getP ps z).1.items
  l : ∀ x, x ∈ q.2.items ↔ x ∈ (getP ps z).2.items
  l1 : q.1.items.length ≤ 60
  l2 : q.2.items.length ≤ 60
theorem Like.norm {ps : Ps} {z : Str} {q : Pr} (h : Like ps z q) : normP q = normP (getP ps z) := by
  unfold normP
  rw [← setO_str, ← setO_str, setO_congr h.m, setO_congr h.l]
theorem canon_congr {xs ys : List Str} (h : ∀ z, z ∈ xs ↔ z ∈ ys) : canon xs = canon ys := by rw [← setO_str, ← setO_str, setO_congr h]
theorem mem_names {ps : Ps} {z : Str} (nd : (ps.map (·.1)).Nodup) (m : z ∈ ps.map (·.1)) : (z, getP ps z) ∈ ps := by
  obtain ⟨p, hp, rfl⟩ := List.mem_map.mp m
  have e : (p.1, p.2) ∈ ps := hp
  rw [getP_mem nd e]
  exact e
theorem like_norm {ps qs : Ps} (nd : (qs.map (·.1)).Nodup) (pm : ∀ z, z ∈ qs.map (·.1) ↔ z ∈ ps.map (·.1)) (h : ∀ p ∈ qs, Like ps p.1 p.2) : normS qs = normS ps := by
  unfold normS
  rw [canon_congr pm]
  refine List.map_congr_left fun z hz => ?_
  have mz := (pm z).mpr (mem_canon.mp hz)
  have e := (h _ (mem_names nd mz)).norm
  rw [e]
/-- each once, ascending -/
def Nrm (ps : Ps) : Prop := ∀ p ∈ ps, normP p.2 = p.2
theorem PSt.nrm {ms ks : List Str} {ps : Ps} (h : PSt ms ks ps) : Nrm ps := fun p hp => by
  have t := h.th p hp
  unfold normP
  rw [t.cm, t.cl]
def spPas : Sp := fun vs H Q _ => ∃ (d t : Addr) (ms ks : List Str) (kvs : List (Key × V)) (ps : Ps), vs = [.ref d, .ref t] ∧ Dice H d ∧ H t = some (.dK kvs) ∧ PsR H kvs ps ∧ SIn ms ks ps ∧ (∀ p ∈ ps, p.2.1.items.length ≤ 59) ∧ (∀ p ∈ ps, p.2.2.items.length ≤ 59) ∧
  ∀ (p : Addr) (kvs' : List (Key × V)) (qs : Ps) (H' : Hp), Nr d H H' → Dice H' d → H p = none → H' p = some (.dK kvs') → PsR H' kvs' qs → SIn ms ks qs → normS qs = normS ps → Q (.ref p) H'
section
variable {P : Program} {w : World} {K : PySem.W.Frag} {mg : Str → Option Value} {base : Heap}
theorem ok_pas {f : Addr} {fd : FuncData} {k : Nat} (F : Fun K "_law_passed" "_law_passed" sPas f fd) (GM : CdN P w K mg base k "_law_mixed" ["_law_dice_here", "_law_items"] (spMix K)) (GR : CdN P w K mg base k "_law_roll" ["_law_dice_here", "_law_upto"] spRoll) (GP : CdN P w K mg base k "_law_pick" ["_law_dice_here", "_law_items"] (spPick K))
    (mT : mg "tuple" = none) (mS : mg "sorted" = none) (mL : mg "list" = none) : FnOk P w K mg base CX0 (k + 1) f fd ["_law_dice_here", "_law_store_here"] spPas := by
  refine F.ok scPas (fun vs H Q E h => ?_) (fun cdv A outer s H vs Q E hr h => ?_)
  · obtain ⟨d, t, ms, ks, kvs, ps, rfl, _⟩ := h
    rfl
  · obtain ⟨d, t, ms, ks, kvs, ps, rfl, hd, ht, hps, si, sh1, sh2, q⟩ := h
    have hu64 : (A.deeper (envOfC "_law_passed" (defScope sPas) s.heap.objs.size f cdv)).units + 64 < cLine := by have := hr.un; omega
    have hu : (A.deeper (envOfC "_law_passed" (defScope sPas) s.heap.objs.size f cdv)).units + 1 < cLine := by omega
    refine ⟨_, pss_cons (ps_set (i := 2) scPas.nd rfl (.inl rfl) pe_dnewK)
      (pss_cons (ps_for PassesOwn.never rfl (pi_list (pe_cdn GM hr (pa_cons (pv 0) (pa_cons (pe_callB (call_sortedD rfl) (by rfl) mS (by decide +kernel) (pa_cons (pv 1) pa_nil)) pa_nil)))) (pg_name (i := 3) scPas.nd rfl (Or.inl rfl))
        (pss_cons (ps_par (i := 4) (j := 5) (by rfl) scPas.nd rfl rfl (by decide) rfl rfl (pa_cons (pe_callTy call_list_of (by rfl) mL (by decide +kernel) (pa_cons (pe_ix ix_tup (pe_dget hu (pv 1) (pv 3) (fun _ _ => rfl)) pe_int (fun _ _ => rfl)) pa_nil)) (pa_cons (pe_callTy call_list_of (by rfl) mL (by decide +kernel) (pa_cons (pe_ix ix_tup (pe_dget hu (pv 1) (pv 3) (fun _ _ => rfl)) pe_int (fun _ _ => rfl)) pa_nil)) pa_nil)) (by rfl))
        (pss_cons (ps_mid (ps_if (PW.pt (pw_and (pt_cmpR (op_neP hu64) (pv 4) (pe_lst pa_nil) (nomark _)) (pw_and1 (pt_cmpR op_eq (pe_cdn GR hr (pa_cons (pv 0) (pa_cons pe_int pa_nil))) pe_int (nomark _))))) (pss_one (ps_expr (pe_bm PySem.F.plainAttrs_list PySem.F.slot_list_append PySem.F.type_list_append mt_append (pv 4) (pa_cons (pe_cdn GP hr (pa_cons (pv 0) (pa_cons (pv 4) pa_nil))) pa_nil)))) pss_nil))
        (pss_cons (ps_mid (ps_if (PW.pt (pw_and (pt_cmpR (op_neP hu64) (pv 5) (pe_lst pa_nil) (nomark _)) (pw_and1 (pt_cmpR op_eq (pe_cdn GR hr (pa_cons (pv 0) (pa_cons pe_int pa_nil))) pe_int (nomark _))))) (pss_one (ps_expr (pe_bm PySem.F.plainAttrs_list PySem.F.slot_list_append PySem.F.type_list_append mt_append (pv 5) (pa_cons (pe_cdn GP hr (pa_cons (pv 0) (pa_cons (pv 5) pa_nil))) pa_nil)))) pss_nil))
        (pss_one (ps_dput hu (pv 2) (pv 3) (pe_tup (pa_cons (pe_callTy call_tuple_of (by rfl) mT (by decide +kernel) (pa_cons (pe_cdn GM hr (pa_cons (pv 0) (pa_cons (pv 4) pa_nil))) pa_nil)) (pa_cons (pe_callTy call_tuple_of (by rfl) mT (by decide +kernel) (pa_cons (pe_cdn GM hr (pa_cons (pv 0) (pa_cons (pv 5) pa_nil))) pa_nil)) pa_nil))) rfl))))))
      (pss_one (ps_ret (pv 2)))), ?_⟩
    have lk : kvs.length = ps.length := Paired.length hps
    have lps := si.len
    intro pf nf
    have e1 : (upd H pf (.dK [])) pf = some (.dK []) := upd_same
    have s1 : Same H (upd H pf (.dK [])) := same_new nf
    generalize upd H pf (.dK []) = H1 at *
    have dc1 := hd.same s1
    have ndf : d ≠ pf := dice_ne hd nf
    have ntf : t ≠ pf := ne_of_none ht nf
    have ntd : t ≠ d := by
      obtain ⟨_, _, _, _, e⟩ := hd
      exact ne_of ht e (fun z => nomatch z)
    refine ⟨.ref d, rfl, .ref t, rfl, t, kvs, ps.map (·.1), rfl, .inl (s1 _ _ ht), ?_, by rw [List.length_map]; omega, fun ys pa pm so na => ?_⟩
    · rw [hps.keys, List.map_map]
      rfl
    have e2 : (upd H1 pa (.lst (ys.map V.str))) pa = some (.lst (ys.map V.str)) := upd_same
    have s2 : Same H1 (upd H1 pa (.lst (ys.map V.str))) := same_new na
    generalize upd H1 pa (.lst (ys.map V.str)) = H2 at *
    have dc2 := dc1.same s2
    refine ⟨d, pa, _, rfl, dc2, .inl (lst_of e2), pd_strs ys, by rw [List.length_map, pm.length_eq, List.length_map]; omega, fun us' pl H3 pm3 nr3 dc3 n3 e3 => ?_⟩
    obtain ⟨us, rfl, pm4⟩ := strs_back pm3
    have pmu : us.Perm (ps.map (·.1)) := pm4.trans pm
    have ndu : us.Nodup := pmu.nodup_iff.mpr si.nd
    have lu : us.length = ps.length := by rw [pmu.length_eq, List.length_map]
    have nrA : Nr d H H3 := (s1.trans s2).nr.trans nr3
    have f3 : H3 pf = some (.dK []) := nr3 _ _ ndf.symm (s2 _ _ e1)
    have nlf : pl ≠ pf := fun e => by rw [e, f3] at e3; cases e3
    have nld : pl ≠ d := by
      obtain ⟨_, _, _, _, e⟩ := dc3
      exact fun z => by rw [z, s2 _ _ (s1 _ _ hd.choose_spec.choose_spec.choose_spec.2)] at n3; cases n3
    refine ⟨pl, rfl, ⟨_, lst_of e3⟩, for_it (walk_list (xs := us.map V.str)) (fun i σ H' => ∃ (o3 o4 o5 : Option V) (ks' : List (Key × V)) (qs : Ps), σ = [some (.ref d), some (.ref t), some (.ref pf), o3, o4, o5] ∧ Nr d H H' ∧ Dice H' d ∧ H' pl = some (.lst (us.map V.str)) ∧ H' pf = some (.dK ks') ∧ PsR H' ks' qs ∧ qs.map (·.1) = us.take i ∧ ∀ p ∈ qs, Like ps p.1 p.2)
      ⟨none, none, none, [], [], rfl, nrA, dc3, e3, f3, .nil, rfl, fun p hp => (by cases hp)⟩ (fun i σ H' _ ⟨_, _, _, _, _, _, _, _, e, _⟩ => lst_of e) ?_ ?_⟩
    · rintro i y σ G G' hi ⟨o3, o4, o5, ks', qs, rfl, nrG, dcG, eG, fG, rG, kG, tG⟩ ⟨rfl, ey⟩
      rw [List.length_map] at hi
      rw [List.getElem?_map, List.getElem?_eq_getElem hi] at ey
      have ey' : V.str us[i] = y := Option.some.inj ey
      subst ey'
      generalize hz : us[i] = z at *
      have mz : z ∈ ps.map (·.1) := pmu.mem_iff.mp (by rw [← hz]; exact List.getElem_mem hi)
      obtain ⟨v, hv, tv, mv⟩ := hps.get si.nd mz
      obtain ⟨b, u1, u2, rfl, hb, t1, t2⟩ := tv.pair
      obtain ⟨am, vm, rfl, ham, tm⟩ := t1.tup
      obtain ⟨al, vl, rfl, hal, tl⟩ := t2.tup
      have kqG : Kq H G' := nrG.kq hd
      have htG := nrG _ _ ntd ht
      have lm1 := sh1 _ mv
      have ll1 := sh2 _ mv
      have lvm := Tts.length tm
      have lvl := Tts.length tl
      dsimp only at lm1 ll1
      refine ⟨.ref t, rfl, .str z, rfl, t, .ref b, rfl, .inl ⟨kvs, Sum.inr z, .inl htG, rfl, by rw [hv]⟩, b, _, 0, .ref am, rfl, rfl, tup_of (kqG.tup hb), rfl, am, _, rfl, .inr (tup_of (kqG.tup ham)), fun l4 n4 => ?_⟩
      have e4 : (upd G' l4 (.lst vm)) l4 = some (.lst vm) := upd_same
      have s4 : Same G' (upd G' l4 (.lst vm)) := same_new n4
      generalize upd G' l4 (.lst vm) = G1 at *
      refine ⟨.ref t, rfl, .str z, rfl, t, .ref b, rfl, .inl ⟨kvs, Sum.inr z, .inl (s4 _ _ htG), rfl, by rw [hv]⟩, b, _, 1, .ref al, rfl, rfl, tup_of (s4 _ _ (kqG.tup hb)), rfl, al, _, rfl, .inr (tup_of (s4 _ _ (kqG.tup hal))), fun l5 n5 => ?_⟩
      have e5 : (upd G1 l5 (.lst vl)) l5 = some (.lst vl) := upd_same
      have s5 : Same G1 (upd G1 l5 (.lst vl)) := same_new n5
      generalize upd G1 l5 (.lst vl) = G2 at *
      have S2 : Same G' G2 := s4.trans s5
      have e4' := s5 _ _ e4
      have dc5 := dcG.same S2
      have tm2 : Tts G2 vm (getP ps z).1.items := Tts.kq tm (kqG.trans S2.kq)
      have tl2 : Tts G2 vl (getP ps z).2.items := Tts.kq tl (kqG.trans S2.kq)
      have d4 : d ≠ l4 := dice_ne dcG n4
      have d5 : d ≠ l5 := dice_ne (dcG.same s4) n5
      have f4 : pf ≠ l4 := ne_of_none fG n4
      have f5 : pf ≠ l5 := ne_of_none (s4 _ _ fG) n5
      have p4 : pl ≠ l4 := ne_of_none eG n4
      have p5 : pl ≠ l5 := ne_of_none (s4 _ _ eG) n5
      have n45 : l4 ≠ l5 := ne_of_none e4 n5
      refine ⟨_, _, rfl, ?_⟩
      refine ⟨fun σ H' => σ = [some (.ref d), some (.ref t), some (.ref pf), some (.str z), some (.ref l4), some (.ref l5)] ∧ Gr G2 H' d l4 (getP ps z).1.items, ?_, ?_⟩
      · refine ⟨.ref l4, rfl, cmp_nil true (lst_of e4') (tts_pd tm2) fun H5 s5 => ?_⟩
        have e5 := s5 _ _ e4'
        have t5 := Tts.kq tm2 s5.kq
        have g5 : Gr G2 H5 d l4 (getP ps z).1.items := ⟨fun b o _ _ z => s5 _ _ z, dc5.same s5, _, _, e5, t5, fun _ => Iff.rfl, Nat.le_succ _⟩
        cases hx : vm with
        | nil => exact ⟨false, rfl, iteF (iteF ⟨rfl, g5⟩)⟩
        | cons y0 ys0 =>
          rw [← hx]
          refine ⟨true, by rw [hx]; rfl, iteT ⟨.ref d, rfl, d, 2, rfl, g5.dc, by decide, by decide, fun r H6 r0 r1 nr6 dc6 => ⟨rfl, _, rfl, ite2 (fun c => ?_) (fun c => ⟨rfl, g5.nr nr6 dc6 d4⟩)⟩⟩⟩
          have e6 := nr6 _ _ d4.symm e5
          have t6 := Tts.kq t5 (nr6.kq g5.dc)
          refine ⟨.ref l4, rfl, .inl ⟨rfl, _, lst_of e6⟩, .ref d, rfl, .ref l4, rfl, d, l4, _, rfl, dc6, e6, d4, by rw [hx]; exact List.cons_ne_nil _ _, ?_, fun x H7 mx nr7 dc7 => ?_⟩
          · have := Tts.length tm2
            omega
          have e7 := nr7 _ _ d4.symm e6
          have t7 := Tts.kq t6 (nr7.kq dc6)
          obtain ⟨a0, ma, ta⟩ := tts_in t7 mx
          refine ⟨l4, _, _, rfl, rfl, e7, small1000 (by have := Tts.length tm2; omega), rfl, ?_⟩
          have kq : Kq H7 (upd H7 l4 (.lst (vm ++ [x]))) := Kq.lst e7
          refine ⟨fun b o h1 h2 z => by rw [upd_ne h2]; exact nr7 _ _ h1 (nr6 _ _ h1 (s5 _ _ z)), ?_, _, (getP ps z).1.items ++ [a0], upd_same, Tts.append (Tts.kq t7 kq) (.cons (ta.kq kq) .nil), fun b => ?_, by rw [List.length_append]; exact Nat.le_refl _⟩
          · obtain ⟨x1, x2, x3, x4, x5⟩ := dc7
            exact ⟨x1, x2, x3, x4, by rw [upd_ne d4]; exact x5⟩
          · rw [List.mem_append, List.mem_singleton]
            exact ⟨fun z => z.elim id (fun z => by rw [z]; exact ma), .inl⟩
      rintro σ G3 ⟨rfl, g3⟩
      have e5' : G3 l5 = some (.lst vl) := g3.kp _ _ d5.symm n45.symm e5
      have tl3 : Tts G3 vl (getP ps z).2.items := Tts.kq tl2 ⟨fun b o st z' => ?_, fun b kk rd => ?_⟩
      rotate_left
      · refine g3.kp _ _ ?_ ?_ z'
        · obtain ⟨_, _, _, _, e⟩ := dc5
          rintro rfl
          rw [e] at z'
          cases z'
          rcases st with ⟨xs, q'⟩ | ⟨_, _, _, q'⟩ <;> cases q'
        · rintro rfl
          rw [e4'] at z'
          cases z'
          rcases st with ⟨xs, q'⟩ | ⟨_, _, _, q'⟩ <;> cases q'
      · have n1 : b ≠ d := by
          obtain ⟨_, _, _, _, e⟩ := dc5
          rintro rfl
          rcases rd with r | ⟨_, r⟩ <;> (rw [e] at r; cases r)
        have n2 : b ≠ l4 := by
          rintro rfl
          rcases rd with r | ⟨_, r⟩ <;> (rw [e4'] at r; cases r)
        rcases rd with r | ⟨o', r⟩
        · exact .inl (g3.kp _ _ n1 n2 r)
        · exact .inr ⟨o', g3.kp _ _ n1 n2 r⟩
      refine ⟨fun σ H' => σ = [some (.ref d), some (.ref t), some (.ref pf), some (.str z), some (.ref l4), some (.ref l5)] ∧ Gr G3 H' d l5 (getP ps z).2.items, ?_, ?_⟩
      · refine ⟨.ref l5, rfl, cmp_nil true (lst_of e5') (tts_pd tl3) fun H5 s5 => ?_⟩
        have e5 := s5 _ _ e5'
        have t5 := Tts.kq tl3 s5.kq
        have g5 : Gr G3 H5 d l5 (getP ps z).2.items := ⟨fun b o _ _ z => s5 _ _ z, g3.dc.same s5, _, _, e5, t5, fun _ => Iff.rfl, Nat.le_succ _⟩
        cases hx : vl with
        | nil => exact ⟨false, rfl, iteF (iteF ⟨rfl, g5⟩)⟩
        | cons y0 ys0 =>
          rw [← hx]
          refine ⟨true, by rw [hx]; rfl, iteT ⟨.ref d, rfl, d, 2, rfl, g5.dc, by decide, by decide, fun r H6 r0 r1 nr6 dc6 => ⟨rfl, _, rfl, ite2 (fun c => ?_) (fun c => ⟨rfl, g5.nr nr6 dc6 d5⟩)⟩⟩⟩
          have e6 := nr6 _ _ d5.symm e5
          have t6 := Tts.kq t5 (nr6.kq g5.dc)
          refine ⟨.ref l5, rfl, .inl ⟨rfl, _, lst_of e6⟩, .ref d, rfl, .ref l5, rfl, d, l5, _, rfl, dc6, e6, d5, by rw [hx]; exact List.cons_ne_nil _ _, ?_, fun x H7 mx nr7 dc7 => ?_⟩
          · have := Tts.length tl3
            omega
          have e7 := nr7 _ _ d5.symm e6
          have t7 := Tts.kq t6 (nr7.kq dc6)
          obtain ⟨a0, ma, ta⟩ := tts_in t7 mx
          refine ⟨l5, _, _, rfl, rfl, e7, small1000 (by have := Tts.length tl3; omega), rfl, ?_⟩
          have kq : Kq H7 (upd H7 l5 (.lst (vl ++ [x]))) := Kq.lst e7
          refine ⟨fun b o h1 h2 z => by rw [upd_ne h2]; exact nr7 _ _ h1 (nr6 _ _ h1 (s5 _ _ z)), ?_, _, (getP ps z).2.items ++ [a0], upd_same, Tts.append (Tts.kq t7 kq) (.cons (ta.kq kq) .nil), fun b => ?_, by rw [List.length_append]; exact Nat.le_refl _⟩
          · obtain ⟨x1, x2, x3, x4, x5⟩ := dc7
            exact ⟨x1, x2, x3, x4, by rw [upd_ne d5]; exact x5⟩
          · rw [List.mem_append, List.mem_singleton]
            exact ⟨fun z => z.elim id (fun z => by rw [z]; exact ma), .inl⟩
      rintro σ G4 ⟨rfl, g4⟩
      obtain ⟨kp3, dc3', xs3, as3, x3, t3, m3, le3⟩ := g3
      obtain ⟨kp4, dc4', xs4, as4, x4, t4, m4, le4⟩ := g4
      have x3' := kp4 _ _ d4.symm n45 x3
      have kq34 : Kq G3 G4 := by
        refine ⟨fun b o st z' => kp4 _ _ ?_ ?_ z', fun b kk rd => ?_⟩
        · obtain ⟨_, _, _, _, e⟩ := dc3'
          rintro rfl
          rw [e] at z'
          cases z'
          rcases st with ⟨xs, q'⟩ | ⟨_, _, _, q'⟩ <;> cases q'
        · rintro rfl
          rw [e5'] at z'
          cases z'
          rcases st with ⟨xs, q'⟩ | ⟨_, _, _, q'⟩ <;> cases q'
        · have n1 : b ≠ d := by
            obtain ⟨_, _, _, _, e⟩ := dc3'
            rintro rfl
            rcases rd with r | ⟨_, r⟩ <;> (rw [e] at r; cases r)
          have n2 : b ≠ l5 := by
            rintro rfl
            rcases rd with r | ⟨_, r⟩ <;> (rw [e5'] at r; cases r)
          rcases rd with r | ⟨o', r⟩
          · exact .inl (kp4 _ _ n1 n2 r)
          · exact .inr ⟨o', kp4 _ _ n1 n2 r⟩
      have t3' := Tts.kq t3 kq34
      have l3 := Tts.length t3
      have l4' := Tts.length t4
      -- everything of G' but d
      have K4 : ∀ b o, b ≠ d → G' b = some o → G4 b = some o := fun b o nb e => kp4 _ _ nb (ne_of_none (s4 _ _ e) n5) (kp3 _ _ nb (ne_of_none e n4) (S2 _ _ e))
      refine ⟨.ref d, rfl, .ref l4, rfl, d, l4, xs3, rfl, dc4', .inl (lst_of x3'), tts_pd t3', by omega, fun ys6 p6 G6 pm6 nr6 dc6 n6 e6 => ?_⟩
      refine ⟨p6, ys6, rfl, .inl ⟨lst_of e6, fun q6 nq6 => ?_⟩⟩
      obtain ⟨bs6, tb6, pb6⟩ := tts_perm (Tts.kq t3' (nr6.kq dc4')) pm6
      have e7 : (upd G6 q6 (.tup ys6)) q6 = some (.tup ys6) := upd_same
      have s7 : Same G6 (upd G6 q6 (.tup ys6)) := same_new nq6
      generalize upd G6 q6 (.tup ys6) = G7 at *
      have dc7 := dc6.same s7
      have x47 : G7 l5 = some (.lst xs4) := s7 _ _ (nr6 _ _ d5.symm x4)
      have t47 := Tts.kq (Tts.kq t4 (nr6.kq dc4')) s7.kq
      refine ⟨.ref d, rfl, .ref l5, rfl, d, l5, xs4, rfl, dc7, .inl (lst_of x47), tts_pd t47, by omega, fun ys8 p8 G8 pm8 nr8 dc8 n8 e8 => ?_⟩
      refine ⟨p8, ys8, rfl, .inl ⟨lst_of e8, fun q8 nq8 => ?_⟩⟩
      obtain ⟨bs8, tb8, pb8⟩ := tts_perm (Tts.kq t47 (nr8.kq dc7)) pm8
      have e9 : (upd G8 q8 (.tup ys8)) q8 = some (.tup ys8) := upd_same
      have s9 : Same G8 (upd G8 q8 (.tup ys8)) := same_new nq8
      generalize upd G8 q8 (.tup ys8) = G9 at *
      refine ⟨by show 2 ≤ sizeLine; decide, fun pc nc => ?_⟩
      have ea : (upd G9 pc (.tup [.ref q6, .ref q8])) pc = some (.tup [.ref q6, .ref q8]) := upd_same
      have sa : Same G9 (upd G9 pc (.tup [.ref q6, .ref q8])) := same_new nc
      generalize upd G9 pc (.tup [.ref q6, .ref q8]) = Ga at *
      have kq7 : Kq G7 Ga := (nr8.kq dc7).trans (s9.trans sa).kq
      have r6 : Tt Ga (.ref q6) (Tup.mk bs6) := tt_tup (kq7.tup e7) (Tts.kq (Tts.kq tb6 s7.kq) kq7)
      have r8 : Tt Ga (.ref q8) (Tup.mk bs8) := tt_tup (sa _ _ e9) (Tts.kq tb8 (s9.trans sa).kq)
      have KA : ∀ b o, b ≠ d → G' b = some o → Ga b = some o := fun b o nb e => sa _ _ (s9 _ _ (nr8 _ _ nb (s7 _ _ (nr6 _ _ nb (K4 b o nb e)))))
      have fA := KA _ _ ndf.symm fG
      have dcA := dc8.same (s9.trans sa)
      have nrGA : Nr d G' Ga := fun b o nb e => KA b o nb e
      have lq := Paired.length rG
      have lqs : qs.length = i := by
        have z' := congrArg List.length kG
        rw [List.length_map, List.length_take] at z'
        omega
      refine ⟨.ref pf, rfl, .str z, rfl, pf, _, rfl, DPut.k (k := Sum.inr z) fA (by rw [lq]; exact small1000 (by omega)), ?_⟩
      have miss : valV ks' (Sum.inr z) = none := rG.miss (by
        rw [kG]
        intro hm'
        obtain ⟨j, hj, e⟩ := List.getElem_of_mem hm'
        rw [List.getElem_take, ← hz] at e
        rw [List.length_take] at hj
        have e2 := (List.getElem_inj ndu).mp e
        omega)
      rw [putK_new _ miss]
      have kt : Kt Ga (upd Ga pf (.dK (ks' ++ [(Sum.inr z, .ref pc)]))) := kt_dk fA
      have tkn : us.take (i + 1) = us.take i ++ [z] := by rw [List.take_add_one, List.getElem?_eq_getElem hi, hz]; rfl
      refine ⟨_, _, _, _, qs ++ [(z, (Tup.mk bs6, Tup.mk bs8))], rfl, fun b' o nb e => ?_, ?_, ?_, upd_same, ?_, ?_, fun p hp => ?_⟩
      · rw [upd_ne (ne_of_none e nf)]
        exact KA _ _ nb (nrG _ _ nb e)
      · obtain ⟨x1, x2, x3, x4, x5⟩ := dcA
        exact ⟨x1, x2, x3, x4, by rw [upd_ne ndf]; exact x5⟩
      · rw [upd_ne nlf]
        exact KA _ _ nld eG
      · exact PsR.append ((rG.kq (nrGA.kq dcG)).kt kt) (.cons ⟨rfl, (tt_pair ea r6 r8).kt kt⟩ .nil)
      · rw [List.map_append, kG, tkn]
        rfl
      · rcases List.mem_append.mp hp with hp | hp
        · exact tG p hp
        · rw [List.mem_singleton.mp hp]
          have q1 := pb6.length_eq
          have q2 := pb8.length_eq
          exact ⟨fun x => (pb6.mem_iff).trans (m3 x), fun x => (pb8.mem_iff).trans (m4 x), by show bs6.length ≤ 60; omega, by show bs8.length ≤ 60; omega⟩
    · rintro σ G ⟨o3, o4, o5, ks', qs, rfl, nrG, dcG, eG, fG, rG, kG, tG⟩
      rw [List.length_map, List.take_length] at kG
      have mem : ∀ z, z ∈ qs.map (·.1) ↔ z ∈ ps.map (·.1) := fun z => by rw [kG]; exact pmu.mem_iff
      have ndq : (qs.map (·.1)).Nodup := by rw [kG]; exact ndu
      refine ⟨.ref pf, rfl, q pf ks' qs G nrG dcG nf fG rG ⟨ndq, fun z hz => si.wd z ((mem z).mp hz), fun p hp => ?_, ?_⟩ (like_norm ndq mem tG)⟩
      · have lk := tG p hp
        have mz : p.1 ∈ ps.map (·.1) := (mem _).mp (List.mem_map.mpr ⟨p, hp, rfl⟩)
        have pt := si.th _ (mem_names si.nd mz)
        exact ⟨fun x hx => pt.mm x ((lk.m x).mp hx), fun e he => ⟨(pt.ml e ((lk.l e).mp he)).1, (mem _).mpr (pt.ml e ((lk.l e).mp he)).2⟩, lk.l1, lk.l2⟩
      · have z := congrArg List.length kG
        rw [List.length_map] at z
        omega
end
end Tf

/-! _law_near: a store with one thing otherwise -/
namespace Tf
open PySem PySem.Spec PyProof.Rows L2 PySem.W
abbrev sNear : Stmt := top 40
abbrev nNear : List Str := ["_law_dice_here", "_law_language_here", "_law_store_here", "_law_name", "_law_found", "_law_marks", "_law_links_here", "_law_lot", "_law_mark"]
theorem scNear : FnScope nNear ["_law_dice_here", "_law_language_here", "_law_store_here"] (defScope sNear) := ⟨rfl, rfl, rfl, by decide +kernel, rfl, by decide +kernel, by decide +kernel⟩
theorem merge_acc : ∀ (more acc : List (Key × V)), ((acc ++ more).map (·.1)).Nodup → mergeK acc more = acc ++ more
  | [], acc, _ => by rw [List.append_nil]; rfl
  | kv :: more, acc, nd => by
    have miss : valV acc kv.1 = none := by
      cases hv : valV acc kv.1 with
      | none => rfl
      | some v =>
        exfalso
        have a : (acc.any fun x => decide (x.1 = kv.1)) = true := by rw [valV_any, hv]; rfl
        obtain ⟨x, mx, ex⟩ := List.any_eq_true.mp a
        rw [List.map_append, List.nodup_append] at nd
        exact nd.2.2 x.1 (List.mem_map.mpr ⟨x, mx, rfl⟩) kv.1 (by rw [List.map_cons]; exact List.mem_cons_self) (of_decide_eq_true ex)
    have e : mergeK acc (kv :: more) = mergeK (acc ++ [kv]) more := by
      show mergeK (putK acc kv.1 kv.2) more = _
      rw [putK_new _ miss]
    rw [e, merge_acc more (acc ++ [kv]) (by rw [List.append_assoc]; exact nd), List.append_assoc]
    rfl
theorem keys_nodup {H : Hp} {kvs : List (Key × V)} {ps : Ps} (h : PsR H kvs ps) (nd : (ps.map (·.1)).Nodup) : (kvs.map (·.1)).Nodup := by
  rw [h.keys, show (ps.map fun x => (Sum.inr x.1 : Key)) = (ps.map (·.1)).map Sum.inr by rw [List.map_map]; rfl]
  exact List.Pairwise.map _ (fun a b hab e => hab (Sum.inr.inj e)) nd
theorem merge_self {H : Hp} {kvs : List (Key × V)} {ps : Ps} (h : PsR H kvs ps) (nd : (ps.map (·.1)).Nodup) : mergeK [] kvs = kvs := merge_acc kvs [] (keys_nodup h nd)
def putP (ps : Ps) (z : Str) (x : Pr) : Ps := ps.map fun p => if p.1 = z then (p.1, x) else p
theorem putP_names (ps : Ps) (z : Str) (x : Pr) : (putP ps z x).map (·.1) = ps.map (·.1) := by
  unfold putP
  rw [List.map_map]
  refine List.map_congr_left fun p _ => ?_
  show (if p.1 = z then (p.1, x) else p).1 = p.1
  split <;> rfl
theorem mem_putP {ps : Ps} {z : Str} {x : Pr} {p : Str × Pr} (h : p ∈ putP ps z x) : p ∈ ps ∨ p = (z, x) := by
  obtain ⟨q, hq, rfl⟩ := List.mem_map.mp h
  by_cases c : q.1 = z
  · rw [if_pos c, c]
    exact .inr rfl
  · rw [if_neg c]
    exact .inl hq
theorem PsR.put {H : Hp} {kvs : List (Key × V)} {ps : Ps} {z : Str} {x : Pr} {v : V} (h : PsR H kvs ps) (m : z ∈ ps.map (·.1)) (tv : Tt H v x) : PsR H (putK kvs (Sum.inr z) v) (putP ps z x) := by
  have a : (kvs.any fun kv => decide (kv.1 = Sum.inr z)) = true := by
    obtain ⟨u, _, hv, _⟩ := h.hit m
    rw [valV_any, hv]
    rfl
  unfold putK
  rw [if_pos a]
  clear a m
  unfold putP
  induction h with
  | nil => exact .nil
  | @cons kv y kvs ps h r ih =>
    refine .cons ?_ ih
    dsimp only
    by_cases c : y.1 = z
    · have c' : kv.1 = Sum.inr z := by rw [h.1, c]
      rw [if_pos c, if_pos c']
      exact ⟨h.1, tv⟩
    · have c' : ¬ kv.1 = Sum.inr z := by rw [h.1]; exact fun e => c (Sum.inr.inj e)
      rw [if_neg c, if_neg c']
      exact h
def spNear : Sp := fun vs H Q _ => ∃ (d pg pm pk t : Addr) (ms ks : List Str) (kvs : List (Key × V)) (ps : Ps), vs = [.ref d, .ref pg, .ref t] ∧ Dice H d ∧ H pg = some (.tup [.ref pm, .ref pk]) ∧ H pm = some (.tup (ms.map V.str)) ∧ H pk = some (.tup (ks.map V.str)) ∧ canon ms = ms ∧ ms.length ≤ 60 ∧ 1 ≤ ks.length ∧ H t = some (.dK kvs) ∧ PsR H kvs ps ∧ SIn ms ks ps ∧ Nrm ps ∧ (∀ p ∈ ps, p.2.2.items.length ≤ 59) ∧ 1 ≤ ps.length ∧
  ∀ (p : Addr) (kvs' : List (Key × V)) (qs : Ps) (H' : Hp), Nr d H H' → Dice H' d → H p = none → H' p = some (.dK kvs') → PsR H' kvs' qs → SIn ms ks qs → Nrm qs → qs.map (·.1) = ps.map (·.1) → Q (.ref p) H'
section
variable {P : Program} {w : World} {K : PySem.W.Frag} {mg : Str → Option Value} {base : Heap}
theorem ok_near {f : Addr} {fd : FuncData} {k : Nat} (F : Fun K "_law_near" "_law_near" sNear f fd) (GR : CdN P w K mg base k "_law_roll" ["_law_dice_here", "_law_upto"] spRoll) (GP : CdN P w K mg base k "_law_pick" ["_law_dice_here", "_law_items"] (spPick K))
    (mT : mg "tuple" = none) (mS : mg "sorted" = none) (mL : mg "list" = none) (mD : mg "dict" = none) (mE : mg "set" = none) : FnOk P w K mg base CX0 (k + 1) f fd ["_law_dice_here", "_law_language_here", "_law_store_here"] spNear := by
  refine F.ok scNear (fun vs H Q E h => ?_) (fun cdv A outer s H vs Q E hr h => ?_)
  · obtain ⟨d, pg, pm, pk, t, ms, ks, kvs, ps, rfl, _⟩ := h
    rfl
  · obtain ⟨d, pg, pm, pk, t, ms, ks, kvs, ps, rfl, hd, hg, hpm, hpk, cms, lms, k1, ht, hps, si, nrm, sh2, p1, q⟩ := h
    have hu70 : (A.deeper (envOfC "_law_near" (defScope sNear) s.heap.objs.size f cdv)).units + 70 < cLine := by have := hr.un; omega
    have hu64 : (A.deeper (envOfC "_law_near" (defScope sNear) s.heap.objs.size f cdv)).units + 64 < cLine := by omega
    have hu20 : (A.deeper (envOfC "_law_near" (defScope sNear) s.heap.objs.size f cdv)).units + 20 < cLine := by omega
    have hu : (A.deeper (envOfC "_law_near" (defScope sNear) s.heap.objs.size f cdv)).units + 1 < cLine := by omega
    refine ⟨_, pss_cons (ps_par (i := 3) (j := 4) (by rfl) scNear.nd rfl rfl (by decide) rfl rfl (pa_cons (pe_cdn GP hr (pa_cons (pv 0) (pa_cons (pe_callB (call_sortedD rfl) (by rfl) mS (by decide +kernel) (pa_cons (pv 2) pa_nil)) pa_nil))) (pa_cons (pe_callTy (call_dictP rfl) (by rfl) mD (by decide +kernel) (pa_cons (LiI.pe_listItems rfl (pv 2) (by rfl) mL (by decide +kernel)) pa_nil)) pa_nil)) (by rfl))
      (pss_cons (ps_par (i := 5) (j := 6) (by rfl) scNear.nd rfl rfl (by decide) rfl rfl (pa_cons (pe_callTy call_list_of (by rfl) mL (by decide +kernel) (pa_cons (pe_ix ix_tup (pe_dget hu (pv 4) (pv 3) (fun _ _ => rfl)) pe_int (fun _ _ => rfl)) pa_nil)) (pa_cons (pe_callTy call_list_of (by rfl) mL (by decide +kernel) (pa_cons (pe_ix ix_tup (pe_dget hu (pv 4) (pv 3) (fun _ _ => rfl)) pe_int (fun _ _ => rfl)) pa_nil)) pa_nil)) (by rfl))
      (pss_cons (ps_set (i := 7) scNear.nd rfl (.inl rfl) (pe_cdn GR hr (pa_cons (pv 0) (pa_cons pe_int pa_nil))))
      (pss_cons (ps_mid (ps_if (PW.pt (pw_and (pt_cmpR op_eq (pv 7) pe_int (nomark _)) (pw_and1 (pt_cmpR (op_neP hu64) (pv 5) (pe_lst pa_nil) (nomark _))))) (pss_one (ps_expr (pe_bm0 PySem.F.plainAttrs_list PySem.F.slot_list_pop PySem.F.type_list_pop mt_pop (pv 5)))) pss_nil))
      (pss_cons (ps_mid (ps_if (pt_cmpR op_eq (pv 7) pe_int (nomark _)) (pss_one (ps_setLc (i := 5) (own := [("_law_mark", 8)]) (g := gName 8) (tt := tYes) (te := tVar 8) (by rfl) scNear.nd rfl (by rfl) (by rfl) (pi_tup (pe_ix ix_tup (pv 1) pe_int (fun _ _ => rfl))) (blkOk_by (own := [("_law_mark", 8)]) (N := nNear) (sc := defScope sNear) (by decide +kernel)) (fun _ _ _ _ _ => pg_name (i := 8) scNear.nd rfl (Or.inl rfl)) (fun _ _ _ _ _ => pts_nil) (fun _ _ _ _ _ => pv 8))) pss_nil))
      (pss_cons (ps_mid (ps_if (PW.pt (pw_and (pt_cmpR op_eq (pv 7) pe_int (nomark _)) (pw_and1 (pt_cmpR (op_neP hu64) (pv 6) (pe_lst pa_nil) (nomark _))))) (pss_one (ps_expr (pe_bm PySem.F.plainAttrs_list PySem.F.slot_list_pop PySem.F.type_list_pop mt_popAt (pv 6) (pa_cons pe_int pa_nil)))) pss_nil))
      (pss_cons (ps_mid (ps_if (pt_cmpR op_eq (pv 7) pe_int (nomark _)) (pss_one (ps_expr (pe_bm PySem.F.plainAttrs_list PySem.F.slot_list_append PySem.F.type_list_append mt_append (pv 6) (pa_cons (pe_tup (pa_cons (pe_ix ix_tup (pe_ix ix_tup (pv 1) pe_int (fun _ _ => rfl)) pe_int (fun _ _ => rfl)) (pa_cons (pv 3) pa_nil))) pa_nil)))) pss_nil))
      (pss_cons (ps_dput hu (pv 4) (pv 3) (pe_tup (pa_cons (pe_callTy call_tuple_of (by rfl) mT (by decide +kernel) (pa_cons (pv 5) pa_nil)) (pa_cons (pe_callTy call_tuple_of (by rfl) mT (by decide +kernel) (pa_cons (pe_callB (cr_sortN (α := Str × Str) rfl hu70) (by rfl) mS (by decide +kernel) (pa_cons (pe_callTy (cr_setN (α := Str × Str) rfl hu20) (by rfl) mE (by decide +kernel) (pa_cons (pv 6) pa_nil)) pa_nil)) pa_nil)) pa_nil))) rfl)
      (pss_one (ps_ret (pv 4)))))))))), ?_⟩
    have lk : kvs.length = ps.length := Paired.length hps
    have lps := si.len
    have ntd : t ≠ d := by
      obtain ⟨_, _, _, _, e⟩ := hd
      exact ne_of ht e (fun z => nomatch z)
    refine ⟨.ref d, rfl, .ref t, rfl, t, kvs, ps.map (·.1), rfl, .inl ht, ?_, by rw [List.length_map]; omega, fun ys pa pmx so na => ?_⟩
    · rw [hps.keys, List.map_map]
      rfl
    have e1 : (upd H pa (.lst (ys.map V.str))) pa = some (.lst (ys.map V.str)) := upd_same
    have s1 : Same H (upd H pa (.lst (ys.map V.str))) := same_new na
    generalize upd H pa (.lst (ys.map V.str)) = H1 at *
    have dc1 := hd.same s1
    have ly : ys.length = ps.length := by rw [pmx.length_eq, List.length_map]
    refine ⟨d, pa, _, rfl, dc1, e1, dice_ne hd na, fun e => ?_, by rw [List.length_map]; omega, fun v H2 mv nr2 dc2 => ?_⟩
    · have z := List.map_eq_nil_iff.mp e
      rw [z] at ly
      simp at ly
      omega
    obtain ⟨z, mz, rfl⟩ := List.mem_map.mp mv
    have mzp : z ∈ ps.map (·.1) := pmx.mem_iff.mp mz
    have nrA : Nr d H H2 := s1.nr.trans nr2
    refine ⟨.ref t, rfl, t, kvs, rfl, nrA _ _ ntd ht, fun H3 pl ts s3' npl nts nin epl prs => ?_⟩
    have s3 : Same H2 H3 := s3'
    have dc3 := dc2.same s3
    refine ⟨pl, ts, kvs, rfl, lst_of epl, Paired.mapP prs fun _ _ h => tup_of h, fun pf nf => ?_⟩
    rw [merge_self hps si.nd]
    have nfH : H pf = none := nr_free (nrA.trans s3.nr) dc3 nf
    have e4 : (upd H3 pf (.dK kvs)) pf = some (.dK kvs) := upd_same
    have s4 : Same H3 (upd H3 pf (.dK kvs)) := same_new nf
    generalize upd H3 pf (.dK kvs) = H4 at *
    have nrB : Nr d H H4 := (nrA.trans s3.nr).trans s4.nr
    have dc4 := dc3.same s4
    have kqB : Kq H H4 := nrB.kq hd
    have ndf : d ≠ pf := dice_ne hd nfH
    refine ⟨_, _, rfl, ?_⟩
    obtain ⟨v, hv, tv, mvv⟩ := hps.get si.nd mzp
    obtain ⟨b, u1, u2, rfl, hb, t1, t2⟩ := tv.pair
    obtain ⟨am, vm, rfl, ham, tm⟩ := t1.tup
    obtain ⟨al, vl, rfl, hal, tl⟩ := t2.tup
    have em := Tts.strs tm
    subst em
    obtain ⟨zl, rfl, el, tz⟩ := Tts.refs tl
    have pin := si.th _ mvv
    have nmz := nrm _ mvv
    have ll := sh2 _ mvv
    dsimp only at ll nmz
    have lzl : zl.length ≤ 59 := by rw [el, List.length_map] at ll; exact ll
    have cmz : canon (getP ps z).1.items = (getP ps z).1.items := congrArg (fun p : Pr => p.1.items) nmz
    refine ⟨.ref pf, rfl, .str z, rfl, pf, .ref b, rfl, .inl ⟨kvs, Sum.inr z, .inl e4, rfl, by rw [hv]⟩, b, _, 0, .ref am, rfl, rfl, tup_of (kqB.tup hb), rfl, am, _, rfl, .inr (tup_of (kqB.tup ham)), fun l5 n5 => ?_⟩
    have e5 : (upd H4 l5 (.lst ((getP ps z).1.items.map V.str))) l5 = some (.lst ((getP ps z).1.items.map V.str)) := upd_same
    have s5 : Same H4 (upd H4 l5 (.lst ((getP ps z).1.items.map V.str))) := same_new n5
    generalize upd H4 l5 (.lst ((getP ps z).1.items.map V.str)) = H5 at *
    refine ⟨.ref pf, rfl, .str z, rfl, pf, .ref b, rfl, .inl ⟨kvs, Sum.inr z, .inl (s5 _ _ e4), rfl, by rw [hv]⟩, b, _, 1, .ref al, rfl, rfl, tup_of (s5 _ _ (kqB.tup hb)), rfl, al, _, rfl, .inr (tup_of (s5 _ _ (kqB.tup hal))), fun l6 n6 => ?_⟩
    have e6 : (upd H5 l6 (.lst (zl.map fun z => V.ref z.1))) l6 = some (.lst (zl.map fun z => V.ref z.1)) := upd_same
    have s6 : Same H5 (upd H5 l6 (.lst (zl.map fun z => V.ref z.1))) := same_new n6
    generalize upd H5 l6 (.lst (zl.map fun z => V.ref z.1)) = H6 at *
    refine ⟨_, _, rfl, ?_⟩
    have S6 : Same H4 H6 := s5.trans s6
    have dc6 := dc4.same S6
    refine ⟨.ref d, rfl, d, 5, rfl, dc6, by decide, by decide, fun r H7 r0 r1 nr7 dc7 => ?_⟩
    have nrC : Nr d H H7 := (nrB.trans S6.nr).trans nr7
    have kqC : Kq H H7 := nrC.kq hd
    have d5 : d ≠ l5 := dice_ne dc4 n5
    have d6 : d ≠ l6 := dice_ne (dc4.same s5) n6
    have n56 : l5 ≠ l6 := ne_of_none e5 n6
    have f5 : pf ≠ l5 := ne_of_none e4 n5
    have f6 : pf ≠ l6 := ne_of_none (s5 _ _ e4) n6
    have e5' : H7 l5 = some (.lst ((getP ps z).1.items.map V.str)) := nr7 _ _ d5.symm (s6 _ _ e5)
    have e6' : H7 l6 = some (.lst (zl.map fun z => V.ref z.1)) := nr7 _ _ d6.symm e6
    have e4' : H7 pf = some (.dK kvs) := nr7 _ _ ndf.symm (S6 _ _ e4)
    have H5n : H l5 = none := nr_free nrB dc4 n5
    have H6n : H l6 = none := nr_free (nrB.trans s5.nr) (dc4.same s5) n6
    have tz7 : ∀ c ∈ zl, Tt H7 (.ref c.1) c.2 := fun c hc => (tz c hc).kq kqC
    -- a mark less
    refine ⟨fun σ G => ∃ zs : List Str, σ = [some (.ref d), some (.ref pg), some (.ref t), some (.str z), some (.ref pf), some (.ref l5), some (.ref l6), some (.int r), none] ∧ (∀ b o, b ≠ l5 → H7 b = some o → G b = some o) ∧ G l5 = some (.lst (zs.map V.str)) ∧ zs.Sublist (getP ps z).1.items, ?_, ?_⟩
    · refine ⟨_, rfl, rfl, _, rfl, ite2 (fun c => ?_) (fun c => iteF ⟨_, rfl, fun b o _ e => e, e5', List.Sublist.refl _⟩)⟩
      refine ⟨.ref l5, rfl, cmp_nil true (lst_of e5') (pd_strs _) fun G s' => ?_⟩
      cases hx : (getP ps z).1.items with
      | nil => exact ⟨false, rfl, iteF ⟨[], rfl, fun b o _ e => s' _ _ e, by rw [s' _ _ e5', hx], List.Sublist.refl _⟩⟩
      | cons y0 ys0 =>
        rw [hx] at e5'
        refine ⟨true, rfl, iteT ?_⟩
        refine ⟨.ref l5, rfl, .inl ⟨rfl, _, lst_of (s' _ _ e5')⟩, l5, _, (((y0 :: ys0).map V.str)[((y0 :: ys0).map V.str).length - 1]'(by rw [List.length_map]; exact Nat.lt_succ_self _)), rfl, rfl, s' _ _ e5', List.getElem?_eq_getElem _, ?_⟩
        refine ⟨(y0 :: ys0).dropLast, rfl, fun b o nb e => by rw [upd_ne nb]; exact s' _ _ e, ?_, List.dropLast_sublist _⟩
        rw [upd_same, List.map_dropLast]
    rintro σ G1 ⟨zs, rfl, kp1, m1, sub1⟩
    -- all marks
    have ghg : ∀ {b o}, b ≠ l5 → H b = some o → b ≠ d → G1 b = some o := fun nb e nd => kp1 _ _ nb (nrC _ _ nd e)
    have dg : pg ≠ d := by
      obtain ⟨_, _, _, _, e⟩ := hd
      exact ne_of hg e (fun z => nomatch z)
    have dm : pm ≠ d := by
      obtain ⟨_, _, _, _, e⟩ := hd
      exact ne_of hpm e (fun z => nomatch z)
    have dk : pk ≠ d := by
      obtain ⟨_, _, _, _, e⟩ := hd
      exact ne_of hpk e (fun z => nomatch z)
    refine ⟨fun σ G => ∃ (m5 : Addr) (zs : List Str), σ = [some (.ref d), some (.ref pg), some (.ref t), some (.str z), some (.ref pf), some (.ref m5), some (.ref l6), some (.int r), none] ∧ (∀ b o, b ≠ l5 → H7 b = some o → G b = some o) ∧ G m5 = some (.lst (zs.map V.str)) ∧ m5 ≠ l6 ∧ (zs.Sublist (getP ps z).1.items ∨ zs = ms), ?_, ?_⟩
    · refine ⟨_, rfl, rfl, _, rfl, ite2 (fun c => ?_) (fun c => ⟨l5, zs, rfl, kp1, m1, n56, .inl sub1⟩)⟩
      have hm1 : G1 pm = some (.tup (ms.map V.str)) := ghg (ne_of_none hpm H5n) hpm dm
      refine ⟨.ref pg, rfl, pg, _, 0, .ref pm, rfl, rfl, tup_of (ghg (ne_of_none hg H5n) hg dg), rfl, pm, rfl, ⟨_, tup_of hm1⟩, fun D nD => lc_map (h := V.str) (xs := ms) (by have := walk_tup (K := K) (a := pm) (xs := ms.map V.str); rw [List.length_map] at this; exact this) rfl V.str nD (fun H2 s2 => tup_of (s2 _ _ hm1)) (by omega) (fun x hx H2 s2 Q' q' => ⟨_, rfl, q' H2 (Same.refl H2)⟩) fun G2 s2 e2 => ?_⟩
      exact ⟨D, ms, rfl, fun b o nb e => s2 _ _ (kp1 b o nb e), e2, (ne_of_none (kp1 _ _ n56.symm e6') nD).symm, .inr rfl⟩
    rintro σ G2 ⟨m5, zs', rfl, kp2, m2, n56', sub2⟩
    have x6 : G2 l6 = some (.lst (zl.map fun z => V.ref z.1)) := kp2 _ _ n56.symm e6'
    have kqt : ∀ (G : Hp), (∀ b o, b ≠ l5 → b ≠ l6 → H7 b = some o → G b = some o) → Kt H7 G := fun G kp b xs e => by
      refine kp b _ ?_ ?_ e
      · rintro rfl
        rw [e5'] at e
        cases e
      · rintro rfl
        rw [e6'] at e
        cases e
    -- a link less
    refine ⟨fun σ G => ∃ ws : List (Addr × (Str × Str)), σ = [some (.ref d), some (.ref pg), some (.ref t), some (.str z), some (.ref pf), some (.ref m5), some (.ref l6), some (.int r), none] ∧ (∀ b o, b ≠ l5 → b ≠ l6 → H7 b = some o → G b = some o) ∧ G m5 = some (.lst (zs'.map V.str)) ∧ G l6 = some (.lst (ws.map fun z => V.ref z.1)) ∧ (∀ c ∈ ws, c ∈ zl) ∧ ws.length ≤ zl.length, ?_, ?_⟩
    · refine ⟨_, rfl, rfl, _, rfl, ite2 (fun c => ?_) (fun c => iteF ⟨zl, rfl, fun b o n1 _ e => kp2 b o n1 e, m2, x6, fun c hc => hc, Nat.le_refl _⟩)⟩
      have tz2 : ∀ x ∈ zl.map (fun z => V.ref z.1), Pd G2 x := fun x hx => by
        obtain ⟨c, hc, rfl⟩ := List.mem_map.mp hx
        exact ((tz7 c hc).kt (kqt G2 fun b o n1 _ e => kp2 b o n1 e)).pd
      refine ⟨.ref l6, rfl, cmp_nil true (lst_of x6) tz2 fun G s' => ?_⟩
      cases hx : zl with
      | nil => exact ⟨false, rfl, iteF ⟨[], rfl, fun b o n1 _ e => s' _ _ (kp2 b o n1 e), s' _ _ m2, by rw [s' _ _ x6, hx], (fun c hc => hc), Nat.le_refl _⟩⟩
      | cons c0 cs0 =>
        rw [hx] at x6
        refine ⟨true, rfl, iteT ?_⟩
        refine ⟨.ref l6, rfl, .inl ⟨rfl, _, lst_of (s' _ _ x6)⟩, l6, _, 0, 0, .ref c0.1, rfl, rfl, s' _ _ x6, by decide, by decide, ?_, rfl, ?_⟩
        · rw [List.map_cons, List.length_cons]
          unfold seqIndex?
          simp
        · refine ⟨cs0, rfl, fun b o n1 n2 e => by rw [upd_ne n2]; exact s' _ _ (kp2 b o n1 e), by rw [upd_ne n56']; exact s' _ _ m2, upd_same, fun c hc => List.mem_cons_of_mem _ hc, by rw [List.length_cons]; exact Nat.le_succ _⟩
    rintro σ G3 ⟨ws, rfl, kp3, m3, x3, sub3, lw3⟩
    -- a link more
    refine ⟨fun σ G => ∃ ws : List (Addr × (Str × Str)), σ = [some (.ref d), some (.ref pg), some (.ref t), some (.str z), some (.ref pf), some (.ref m5), some (.ref l6), some (.int r), none] ∧ (∀ b o, b ≠ l5 → b ≠ l6 → H7 b = some o → G b = some o) ∧ G m5 = some (.lst (zs'.map V.str)) ∧ G l6 = some (.lst (ws.map fun z => V.ref z.1)) ∧ (∀ c ∈ ws, Tt G (.ref c.1) c.2 ∧ c.2.1 ∈ ks ∧ c.2.2 ∈ ps.map (·.1)) ∧ ws.length ≤ 60, ?_, ?_⟩
    · have old : ∀ c ∈ zl, c.2.1 ∈ ks ∧ c.2.2 ∈ ps.map (·.1) := fun c hc => pin.ml c.2 (by
        show c.2 ∈ (getP ps z).2.items
        rw [el]
        exact List.mem_map.mpr ⟨c, hc, rfl⟩)
      refine ⟨_, rfl, rfl, _, rfl, ite2 (fun c => ?_) (fun c => ⟨ws, rfl, kp3, m3, x3, fun c hc => ⟨(tz7 c (sub3 c hc)).kt (kqt G3 kp3), old c (sub3 c hc)⟩, by omega⟩)⟩
      have hg3 : G3 pg = some (.tup [.ref pm, .ref pk]) := kp3 _ _ (ne_of_none hg H5n) (ne_of_none hg H6n) (nrC _ _ dg hg)
      have hk3 : G3 pk = some (.tup (ks.map V.str)) := kp3 _ _ (ne_of_none hpk H5n) (ne_of_none hpk H6n) (nrC _ _ dk hpk)
      refine ⟨.ref l6, rfl, .inl ⟨rfl, _, lst_of x3⟩, .ref pg, rfl, pg, _, 1, .ref pk, rfl, rfl, tup_of hg3, rfl, pk, _, 0, .str ks[0], rfl, rfl, tup_of hk3, at_of (j := 0) rfl (by rw [List.getElem?_map, List.getElem?_eq_getElem k1]; rfl), .str z, rfl, by show 2 ≤ sizeLine; decide, fun tp ntp => ?_⟩
      have e4'' : (upd G3 tp (.tup [.str ks[0], .str z])) tp = some (.tup [.str ks[0], .str z]) := upd_same
      have s4' : Same G3 (upd G3 tp (.tup [.str ks[0], .str z])) := same_new ntp
      generalize upd G3 tp (.tup [.str ks[0], .str z]) = G4 at *
      refine ⟨l6, _, _, rfl, rfl, s4' _ _ x3, by rw [List.length_map]; exact small1000 (by omega), ?_⟩
      have kl : Kt G4 (upd G4 l6 (.lst ((ws.map fun z => V.ref z.1) ++ [.ref tp]))) := (Kq.lst (s4' _ _ x3)).kt
      refine ⟨ws ++ [(tp, (ks[0], z))], rfl, fun b o n1 n2 e => by rw [upd_ne n2]; exact s4' _ _ (kp3 b o n1 n2 e), by rw [upd_ne n56']; exact s4' _ _ m3, by rw [upd_same, List.map_append]; rfl, fun c hc => ?_, by rw [List.length_append, List.length_singleton]; omega⟩
      rcases List.mem_append.mp hc with hc | hc
      · exact ⟨(((tz7 c (sub3 c hc)).kt (kqt G3 kp3)).kt s4'.kq.kt).kt kl, old c (sub3 c hc)⟩
      · rw [List.mem_singleton.mp hc]
        exact ⟨tt_pair (kl _ _ e4'') tt_str tt_str, List.getElem_mem k1, mzp⟩
    rintro σ G5 ⟨ws5, rfl, kp5, m5', x5, tw5, lw5⟩
    -- put in its place
    refine ⟨.ref m5, rfl, m5, _, rfl, .inl ⟨lst_of m5', fun q6 nq6 => ?_⟩⟩
    have e6'' : (upd G5 q6 (.tup (zs'.map V.str))) q6 = some (.tup (zs'.map V.str)) := upd_same
    have s6' : Same G5 (upd G5 q6 (.tup (zs'.map V.str))) := same_new nq6
    generalize upd G5 q6 (.tup (zs'.map V.str)) = G6 at *
    refine ⟨.ref l6, rfl, l6, ws5, rfl, lst_of (s6' _ _ x5), fun c hc => ((tw5 c hc).1.kq s6'.kq).dt, lw5, fun p7 o7 n7 h7 => ?_⟩
    have e7 : (upd G6 p7 (o7)) p7 = some (o7) := upd_same
    have s7 : Same G6 (upd G6 p7 (o7)) := same_new n7
    generalize upd G6 p7 (o7) = G7 at *
    refine ⟨p7, ws5, o7, rfl, e7, h7, fun c hc => (((tw5 c hc).1.kq s6'.kq).kq s7.kq).dt, lw5, fun cs p8 mc ec n8 => ?_⟩
    have e8 : (upd G7 p8 (.lst (cs.map fun c => .ref c.1))) p8 = some (.lst (cs.map fun c => .ref c.1)) := upd_same
    have s8 : Same G7 (upd G7 p8 (.lst (cs.map fun c => .ref c.1))) := same_new n8
    generalize upd G7 p8 (.lst (cs.map fun c => .ref c.1)) = G8 at *
    refine ⟨p8, _, rfl, .inl ⟨lst_of e8, fun p9 n9 => ?_⟩⟩
    have e9 : (upd G8 p9 (.tup (cs.map fun c => .ref c.1))) p9 = some (.tup (cs.map fun c => .ref c.1)) := upd_same
    have s9 : Same G8 (upd G8 p9 (.tup (cs.map fun c => .ref c.1))) := same_new n9
    generalize upd G8 p9 (.tup (cs.map fun c => .ref c.1)) = G9 at *
    have S9 : Same G5 G9 := s6'.trans (s7.trans (s8.trans s9))
    refine ⟨by show 2 ≤ sizeLine; decide, fun pc nc => ?_⟩
    have ea : (upd G9 pc (.tup [.ref q6, .ref p9])) pc = some (.tup [.ref q6, .ref p9]) := upd_same
    have sa : Same G9 (upd G9 pc (.tup [.ref q6, .ref p9])) := same_new nc
    generalize upd G9 pc (.tup [.ref q6, .ref p9]) = Ga at *
    have SA : Same G5 Ga := S9.trans sa
    have fA : Ga pf = some (.dK kvs) := SA _ _ (kp5 _ _ f5 f6 e4')
    have KA : Nr d H Ga := fun b o nb e => SA _ _ (kp5 _ _ (ne_of_none e H5n) (ne_of_none e H6n) (nrC _ _ nb e))
    have dcA : Dice Ga d := by
      obtain ⟨x1, x2, x3, x4, x5⟩ := dc7
      exact ⟨x1, x2, x3, x4, SA _ _ (kp5 _ _ d5 d6 x5)⟩
    refine ⟨.ref pf, rfl, .str z, rfl, pf, _, rfl, DPut.k (k := Sum.inr z) fA (by rw [lk]; exact small1000 (by omega)), ?_⟩
    have kt : Kt Ga (upd Ga pf (.dK (putK kvs (Sum.inr z) (.ref pc)))) := kt_dk fA
    have r6 : Tt Ga (.ref q6) (Tup.mk zs') := tt_tup (sa _ _ (s9 _ _ (s8 _ _ (s7 _ _ e6'')))) (tts_strs _)
    have r9 : Tt Ga (.ref p9) (Tup.mk (cs.map (·.2))) := tt_tup (sa _ _ e9) (tts_of fun c hc => (tw5 c (mc c hc)).1.kq SA.kq)
    have hpA : PsR Ga kvs ps := hps.kq (KA.kq hd)
    have nmA := putP_names ps z (Tup.mk zs', Tup.mk (cs.map (·.2)))
    have czs : canon zs' = zs' := by
      rcases sub2 with h | h
      · exact canon_sub cmz h
      · rw [h]
        exact cms
    refine ⟨.ref pf, rfl, q pf _ (putP ps z (Tup.mk zs', Tup.mk (cs.map (·.2)))) _ (fun b o nb e => ?_) ?_ nfH upd_same ((hpA.put mzp (tt_pair ea r6 r9)).kt kt) ⟨by rw [nmA]; exact si.nd, fun x hx => si.wd x (by rw [← nmA]; exact hx), fun p hp => ?_, ?_⟩ (fun p hp => ?_) nmA⟩
    · rw [upd_ne (ne_of_none e nfH)]
      exact KA _ _ nb e
    · obtain ⟨x1, x2, x3, x4, x5⟩ := dcA
      exact ⟨x1, x2, x3, x4, by rw [upd_ne ndf]; exact x5⟩
    · rw [nmA]
      rcases mem_putP hp with h | h
      · exact si.th p h
      · rw [h]
        refine ⟨fun x hx => ?_, fun e he => ?_, ?_, ?_⟩
        · have hx' : x ∈ zs' := hx
          rcases sub2 with h | h
          · exact pin.mm x (h.subset hx')
          · rw [← h]
            exact hx'
        · obtain ⟨c, hc, rfl⟩ := List.mem_map.mp (show e ∈ cs.map (·.2) from he)
          exact (tw5 c (mc c hc)).2
        · show zs'.length ≤ 60
          rcases sub2 with h | h
          · exact Nat.le_trans h.length_le pin.l1
          · rw [h]
            exact lms
        · show (cs.map (·.2)).length ≤ 60
          rw [ec]
          exact Nat.le_trans (setO_len _) (by rw [List.length_map]; exact lw5)
    · have z' := congrArg List.length nmA
      rw [List.length_map, List.length_map] at z'
      omega
    · rcases mem_putP hp with h | h
      · exact nrm p h
      · rw [h]
        show ((⟨canon zs'⟩, ⟨setO (cs.map (·.2))⟩) : Pr) = (Tup.mk zs', Tup.mk (cs.map (·.2)))
        rw [czs, ec, setO_setO]
end
end Tf

/-! _law_told_right: what a store tells -/
namespace Tf
open PySem PySem.Spec PyProof.Rows L2 PySem.W
abbrev sTold : Stmt := top 41
abbrev nTold : List Str := ["_law_language_here", "_law_store_here", "_law_made", "_law_total", "_law_name", "_law_marks", "_law_links_here", "_law_sort", "_law_due", "_law_one", "_law_end", "_law_value"]
theorem scTold : FnScope nTold ["_law_language_here", "_law_store_here", "_law_made"] (defScope sTold) := ⟨rfl, rfl, rfl, by decide +kernel, rfl, by decide +kernel, by decide +kernel⟩
theorem firsts_nd {zs : List Str} (nd : zs.Nodup) : firsts zs = zs := by
  have gen : ∀ (zs L : List Str), (L ++ zs).Nodup → zs.foldl (fun L x => if x ∈ L then L else L ++ [x]) L = L ++ zs := by
    intro zs
    induction zs with
    | nil => intro L _; rw [List.append_nil]; rfl
    | cons z zs ih =>
      intro L nd
      have nz : z ∉ L := fun m => by
        have := (List.nodup_append.mp nd).2.2 z m z List.mem_cons_self
        exact this rfl
      rw [List.foldl_cons, if_neg nz, ih _ (by rw [List.append_assoc]; exact nd), List.append_assoc]
      rfl
  exact gen _ [] nd
theorem canon_nd {zs : List Str} (nd : zs.Nodup) : (canon zs).Perm zs := by
  have h := canon_perm zs
  rw [firsts_nd nd] at h
  exact h
theorem sorted_canon {ys zs : List Str} (nd : zs.Nodup) (p : ys.Perm zs) (s : sortedS ys = true) : ys = canon zs := canon_is (by rw [firsts_nd nd]; exact p) s
theorem get_self {ps : Ps} (nd : (ps.map (·.1)).Nodup) : (ps.map (·.1)).map (fun z => (z, getP ps z)) = ps := by
  rw [List.map_map]
  have e : ∀ p ∈ ps, ((fun z => (z, getP ps z)) ∘ fun p => p.1) p = p := fun p hp => by
    show (p.1, getP ps p.1) = p
    rw [getP_mem nd (show (p.1, p.2) ∈ ps from hp)]
  exact (List.map_congr_left e).trans (List.map_id _)
theorem normS_nrm {ps : Ps} (nd : (ps.map (·.1)).Nodup) (nm : Nrm ps) : normS ps = (canon (ps.map (·.1))).map fun z => (z, getP ps z) := by
  unfold normS
  refine List.map_congr_left fun z hz => ?_
  have h := nm _ (mem_names nd (mem_canon.mp hz))
  dsimp only at h
  rw [h]
theorem normS_perm {ps : Ps} (nd : (ps.map (·.1)).Nodup) (nm : Nrm ps) : (normS ps).Perm ps := by
  rw [normS_nrm nd nm]
  have h := (canon_nd nd).map fun z => (z, getP ps z)
  rw [get_self nd] at h
  exact h
theorem normS_nd (ps : Ps) : ((normS ps).map (·.1)).Nodup := by rw [normS_names]; exact nodup_canon _
theorem get_norm {ps : Ps} {z : Str} (nd : (ps.map (·.1)).Nodup) (nm : Nrm ps) (m : z ∈ ps.map (·.1)) : getP (normS ps) z = getP ps z :=
  getP_mem (normS_nd ps) ((normS_perm nd nm).mem_iff.mpr (mem_names nd m))
theorem same_perm {xs ys : Ps} (nd : (ys.map (·.1)).Nodup) (p : xs.Perm ys) : sameD xs ys = true := by
  unfold sameD
  rw [Bool.and_eq_true]
  refine ⟨beq_iff_eq.mpr p.length_eq, List.all_eq_true.mpr fun q hq => decide_eq_true ?_⟩
  exact look_mem nd (show (q.1, q.2) ∈ ys from p.mem_iff.mp hq)
theorem sum_perm {α : Type} (f : α → Nat) {xs ys : List α} (p : xs.Perm ys) : (xs.map f).sum = (ys.map f).sum := by
  induction p with
  | nil => rfl
  | cons x _ ih => rw [List.map_cons, List.map_cons, List.sum_cons, List.sum_cons, ih]
  | swap x y l => rw [List.map_cons, List.map_cons, List.map_cons, List.map_cons, List.sum_cons, List.sum_cons, List.sum_cons, List.sum_cons]; omega
  | trans _ _ h1 h2 => exact h1.trans h2
theorem links_norm {ps : Ps} (nd : (ps.map (·.1)).Nodup) (nm : Nrm ps) : links (normS ps) = links ps := sum_perm _ (normS_perm nd nm)
theorem lenA {a b : Str} {m n : Nat} (ha : a.length ≤ m) (hb : b.length ≤ n) : (a ++ b).length ≤ m + n := Nat.le_trans (len2 a b) (Nat.add_le_add ha hb)
theorem sumA {a b : Str} {m n : Nat} (ha : a.length ≤ m) (hb : b.length ≤ n) (h : m + n ≤ 1000 := by decide) : a.length + b.length ≤ sizeLine := Nat.le_trans (Nat.add_le_add ha hb) (Nat.le_trans h (by decide))
theorem store_is (m k : Nat) : storeText m k = ((((("store of " : Str) ++ ((toString (m : Int) : String) : Str)) ++ (" things, " : Str)) ++ ((toString (k : Int) : String) : Str)) ++ (" links" : Str)) := by
  unfold storeText
  have e : (Str.empty ++ ("store of " : Str) : Str) = ("store of " : Str) := by decide +kernel
  rw [e]
theorem links_le {ps : Ps} (h : ∀ p ∈ ps, p.2.2.items.length ≤ 60) (l : ps.length ≤ 60) : links ps ≤ 3600 := by
  have gen : ∀ qs : Ps, (∀ p ∈ qs, p.2.2.items.length ≤ 60) → links qs ≤ qs.length * 60 := by
    intro qs
    induction qs with
    | nil => intro _; exact Nat.zero_le _
    | cons q qs ih =>
      intro h
      have h1 := h q List.mem_cons_self
      have h2 := ih fun p hp => h p (List.mem_cons_of_mem _ hp)
      unfold links at h2 ⊢
      rw [List.map_cons, List.sum_cons, List.length_cons]
      omega
  have := gen ps h
  omega
def odds : List Str := ["nothing", "A"]
theorem odds_off : ∀ z ∈ odds, z ∉ words := by decide +kernel
def spTold (K : PySem.W.Frag) (CL C : Addr) : Sp := fun vs H Q _ => ∃ (pg pm pk t a la u : Addr) (ms ks : List Str) (kvs : List (Key × V)) (ps : Ps), vs = [.ref pg, .ref t, .ref a] ∧ H pg = some (.tup [.ref pm, .ref pk]) ∧ H pk = some (.tup (ks.map V.str)) ∧ ks.length ≤ 60 ∧ H t = some (.dK kvs) ∧ PsR H kvs ps ∧ SIn ms ks ps ∧ Nrm ps ∧ (∀ z ∈ ps.map (·.1), z ∈ words) ∧ StoreAt CL C H a la u ms ks (normS ps) ∧ t ≠ u ∧
  ∀ H', Same H H' → Q (.bl true) H'
/-- what is known of stores of the class at C -/
structure SAll (P : Program) (w : World) (K : PySem.W.Frag) (mg : Str → Option Value) (base : Heap) (k : Nat) (CL C : Addr) : Prop where
  S : SCls K C
  pl : PpN P w K mg base (k + 1) C "language" (spSla CL C)
  pn : PpN P w K mg base (k + 1) C "names" (spSnm CL C)
  pt : PpN P w K mg base (k + 1) C "things" (spSth CL C)
  mo : MtN P w K mg base (k + 2) C "marks_of" ["self", "thing"] (spSmo CL C)
  lo : MtN P w K mg base (k + 2) C "links_of" ["self", "thing"] (spSlo CL C)
  en : MtN P w K mg base (k + 2) C "ends" ["self", "thing", "kind"] (spSen CL C)
  ha : OwN P w K mg base (k + 2) C "__contains__" (spSha K CL C)
  le : OwN P w K mg base (k + 1) C "__len__" (spSle CL C)
  st : OwN P w K mg base k C "__str__" (spSst CL C)
theorem look_none {fs : List (Str × V)} {m : Str} : ∀ {ns : List Str}, fs.map (·.1) = ns → m ∉ ns → fs.lookup m = none := by
  induction fs with
  | nil => intro ns _ _; rfl
  | cons p fs ih =>
    intro ns e h
    obtain ⟨k, v⟩ := p
    subst e
    rw [List.map_cons, List.mem_cons, not_or] at h
    rw [List.lookup_cons, beq_eq_false_iff_ne.mpr h.1]
    exact ih rfl h.2
section
variable {P : Program} {w : World} {K : PySem.W.Frag} {mg : Str → Option Value} {base : Heap}
theorem ok_told {f CL C : Addr} {fd : FuncData} {k : Nat} (F : Fun K "_law_told_right" "_law_told_right" sTold f fd) (T : SAll P w K mg base k CL C)
    (mT : mg "tuple" = none) (mS : mg "sorted" = none) (mL : mg "list" = none) (mN : mg "len" = none) (mR : mg "str" = none) : FnOk P w K mg base CX0 (k + 3) f fd ["_law_language_here", "_law_store_here", "_law_made"] (spTold K CL C) := by
  refine F.ok scTold (fun vs H Q E h => ?_) (fun cdv A outer s H vs Q E hr h => ?_)
  · obtain ⟨pg, pm, pk, t, a, la, u, ms, ks, kvs, ps, rfl, _⟩ := h
    rfl
  · obtain ⟨pg, pm, pk, t, a, la, u, ms, ks, kvs, ps, rfl, hg, hk, lks, ht, hps, si, nm, wd, st, ntu, q⟩ := h
    have hu70 : (A.deeper (envOfC "_law_told_right" (defScope sTold) s.heap.objs.size f cdv)).units + 70 < cLine := by have := hr.un; omega
    have hu64 : (A.deeper (envOfC "_law_told_right" (defScope sTold) s.heap.objs.size f cdv)).units + 64 < cLine := by omega
    have hu : (A.deeper (envOfC "_law_told_right" (defScope sTold) s.heap.objs.size f cdv)).units + 1 < cLine := by omega
    refine ⟨_, pss_cons (ps_if (PW.pt (pw_or (pt_cmpR (op_neP hu64) (pe_ppn T.S.cl T.pn hr (pv 2)) (pe_callTy call_tuple_of (by rfl) mT (by decide +kernel) (pa_cons (pe_callB (call_sortedD rfl) (by rfl) mS (by decide +kernel) (pa_cons (pv 1) pa_nil)) pa_nil)) (nomark _)) (pw_or1 (pt_cmpR (op_neK (α := Pr) hu70) (pe_ppn T.S.cl T.pt hr (pv 2)) (pv 1) (nomark _))))) (pss_one (ps_ret pe_bl)) pss_nil)
      (pss_cons (ps_if (pt_cmpR (op_neP hu64) (pe_callTy (call_list_dK rfl) (by rfl) mL (by decide +kernel) (pa_cons (pe_ppn T.S.cl T.pt hr (pv 2)) pa_nil)) (pe_callB (call_sortedD rfl) (by rfl) mS (by decide +kernel) (pa_cons (pv 1) pa_nil)) (nomark _)) (pss_one (ps_ret pe_bl)) pss_nil)
      (pss_cons (ps_set (i := 3) scTold.nd rfl (.inl rfl) pe_int)
      (pss_cons (ps_lock (ps_for PassesOwn.never rfl (pi_keys (pv 1)) (pg_name (i := 4) scTold.nd rfl (Or.inl rfl))
        (pss_cons (ps_asg (pe_dget hu (pv 1) (pv 4) (fun _ _ => rfl)) (pg_tup (by rfl) (pgs_cons (pg_name (i := 5) scTold.nd rfl (.inl rfl)) (pgs_cons (pg_name (i := 6) scTold.nd rfl (.inl rfl)) pgs_nil))))
        (pss_cons (ps_set (i := 3) scTold.nd rfl (.inl rfl) (pe_op op_add (pv 3) (pe_callB call_lenS (by rfl) mN PySem.boot_len (pa_cons (pv 6) pa_nil))))
        (pss_cons (ps_if (PW.pt (pw_or (pt_cmpR (op_neP hu64) (pe_mtn T.S.cl T.mo hr (pv 2) (pa_cons (pv 4) pa_nil)) (pv 5) (nomark _)) (pw_or1 (pt_cmpR (op_neP hu64) (pe_mtn T.S.cl T.lo hr (pv 2) (pa_cons (pv 4) pa_nil)) (pv 6) (nomark _))))) (pss_one (ps_ret pe_bl)) pss_nil)
        (pss_cons (ps_if (pt_cmpR (op_notInN T.ha hr) (pv 4) (pv 2) (by rfl)) (pss_one (ps_ret pe_bl)) pss_nil)
        (pss_one (ps_for PassesOwn.never rfl (pi_tup (pe_ix ix_tup (pv 0) pe_int (fun _ _ => rfl))) (pg_name (i := 7) scTold.nd rfl (.inr rfl))
          (pss_cons (ps_setLc (i := 8) (own := [("_law_one", 9), ("_law_end", 10)]) (g := gTup K 2 (gCons (gName 9) (gCons (gName 10) gNil))) (te := tVar 10) (by rfl) scTold.nd rfl (by rfl) (by rfl) (pi_tup (pv 6)) (blkOk_by (own := [("_law_one", 9), ("_law_end", 10)]) (N := nTold) (sc := defScope sTold) (by decide +kernel)) (fun _ _ _ _ _ => pg_tup (by rfl) (pgs_cons (pg_name (i := 9) scTold.nd rfl (Or.inl rfl)) (pgs_cons (pg_name (i := 10) scTold.nd rfl (Or.inl rfl)) pgs_nil))) (fun _ _ _ _ _ => pts_one (pt_cmpR op_eq (pv 9) (pv 7) (nomark _))) (fun _ _ _ _ _ => pv 10))
          (pss_one (ps_if (pt_cmpR (op_neP hu64) (pe_mtn T.S.cl T.en hr (pv 2) (pa_cons (pv 4) (pa_cons (pv 7) pa_nil))) (pe_callTy call_tuple_of (by rfl) mT (by decide +kernel) (pa_cons (pv 8) pa_nil)) (nomark _)) (pss_one (ps_ret pe_bl)) pss_nil)))))))))))
      (pss_cons (ps_if (pt_cmpR (op_neP hu64) (pe_lc (own := [("_law_value", 11)]) (g := gName 11) (tt := tTest (tOp (rInO C (spSha K CL C) E0 false) (tVar 11) (tVar 2))) (te := tVar 11) (by rfl) scTold.nd (pi_tup (pe_tup (pa_cons pe_non (pa_cons pe_str (pa_cons pe_int (pa_cons (pe_tup (pa_cons pe_str pa_nil)) (pa_cons (pe_lst pa_nil) (pa_cons pe_dnewK (pa_cons pe_str pa_nil))))))))) (blkOk_by (own := [("_law_value", 11)]) (N := nTold) (sc := defScope sTold) (by decide +kernel)) (fun _ _ _ _ _ => pg_name (i := 11) scTold.nd rfl (Or.inl rfl)) (fun _ _ _ _ _ => pts_one (pt_cmpR (op_inN T.ha hr) (pv 11) (pv 2) (by rfl))) (fun _ _ _ _ _ => pv 11)) (pe_lst pa_nil) (nomark _)) (pss_one (ps_ret pe_bl)) pss_nil)
      (pss_cons (ps_set (i := 8) scTold.nd rfl (.inl rfl) (pe_op op_add_str (pe_op op_add_str (pe_op op_add_str (pe_op op_add_str pe_str (pe_callTy call_str_int (by rfl) mR (by decide +kernel) (pa_cons (pe_callB call_lenD (by rfl) mN PySem.boot_len (pa_cons (pv 1) pa_nil)) pa_nil))) pe_str) (pe_callTy call_str_int (by rfl) mR (by decide +kernel) (pa_cons (pv 3) pa_nil))) pe_str))
      (pss_one (ps_ret (pe_and (pe_cmpR op_eq (pe_callB (call_lenN T.le hr) (by rfl) mN PySem.boot_len (pa_cons (pv 2) pa_nil)) (pe_callB call_lenD (by rfl) mN PySem.boot_len (pa_cons (pv 1) pa_nil)) (nomark _)) (pe_one (pe_cmpR op_eq (pe_callTy (call_strN T.st hr) (by rfl) mR (by decide +kernel) (pa_cons (pv 2) pa_nil)) (pv 8) (nomark _))))))))))), ?_⟩
    have ndp := si.nd
    have pmn := normS_perm ndp nm
    have st0 := st
    obtain ⟨dx, fs, jvs, g1, g2, g3, g4, g5, g6, g7⟩ := st0
    have kk : kvs.map (·.1) = (ps.map (·.1)).map Sum.inr := by
      rw [hps.keys, List.map_map]
      rfl
    have lps := si.len
    have lkv : kvs.length = ps.length := Paired.length hps
    have l64 : (ps.map (·.1)).length < 64 := by rw [List.length_map]; omega
    have nmn : (normS ps).map (·.1) = canon (ps.map (·.1)) := normS_names ps
    -- names
    refine ⟨.ref a, rfl, a, dx, fs, rfl, g1, a, la, u, ms, ks, normS ps, rfl, st, fun p1 H1 s1 n1 e1 => ?_⟩
    rw [nmn] at e1
    refine ⟨.ref t, rfl, t, kvs, ps.map (·.1), rfl, .inl (s1 _ _ ht), kk, l64, fun ys p2 pm2 so2 n2 => ?_⟩
    have ey := sorted_canon ndp pm2 so2
    subst ey
    have e2 : (upd H1 p2 (.lst ((canon (ps.map (·.1))).map V.str))) p2 = some (.lst ((canon (ps.map (·.1))).map V.str)) := upd_same
    have s2 : Same H1 (upd H1 p2 (.lst ((canon (ps.map (·.1))).map V.str))) := same_new n2
    generalize upd H1 p2 (.lst ((canon (ps.map (·.1))).map V.str)) = H2 at *
    refine ⟨p2, _, rfl, .inl ⟨lst_of e2, fun p3 n3 => ?_⟩⟩
    have e3 : (upd H2 p3 (.tup ((canon (ps.map (·.1))).map V.str))) p3 = some (.tup ((canon (ps.map (·.1))).map V.str)) := upd_same
    have s3 : Same H2 (upd H2 p3 (.tup ((canon (ps.map (·.1))).map V.str))) := same_new n3
    generalize upd H2 p3 (.tup ((canon (ps.map (·.1))).map V.str)) = H3 at *
    refine ne_t (dt_tup (tup_of (s3 _ _ (s2 _ _ e1))) (dts_strs _)) (dt_tup (tup_of e3) (dts_strs _)) ⟨_, rfl, ?_⟩
    rw [decide_eq_true rfl]
    refine iteF ?_
    have S3 : Same H H3 := s1.trans (s2.trans s3)
    -- things
    refine ⟨.ref a, rfl, a, dx, fs, rfl, S3 _ _ g1, a, la, u, ms, ks, normS ps, rfl, st.same S3, fun p4 kvs4 H4 s4 n4 e4 r4 => ?_⟩
    have S4 := S3.trans s4
    refine ⟨.ref t, rfl, p4, t, normS ps, ps, rfl, rfl, r4.dk (.inl e4), (hps.kq S4.kq).dk (.inl (S4 _ _ ht)), _, rfl, ?_⟩
    rw [if_pos rfl, same_perm ndp pmn]
    refine iteF ?_
    -- their order
    refine ⟨.ref a, rfl, a, dx, fs, rfl, S4 _ _ g1, a, la, u, ms, ks, normS ps, rfl, st.same S4, fun p5 kvs5 H5 s5 n5 e5 r5 => ⟨p5, kvs5, rfl, e5, fun p6 n6 => ?_⟩⟩
    rw [ps_keys r5, nmn]
    have e6 : (upd H5 p6 (.lst ((canon (ps.map (·.1))).map V.str))) p6 = some (.lst ((canon (ps.map (·.1))).map V.str)) := upd_same
    have s6 : Same H5 (upd H5 p6 (.lst ((canon (ps.map (·.1))).map V.str))) := same_new n6
    generalize upd H5 p6 (.lst ((canon (ps.map (·.1))).map V.str)) = H6 at *
    have S6 : Same H H6 := S4.trans (s5.trans s6)
    refine ⟨.ref t, rfl, t, kvs, ps.map (·.1), rfl, .inl (S6 _ _ ht), kk, l64, fun ys p7 pm7 so7 n7 => ?_⟩
    have ey := sorted_canon ndp pm7 so7
    subst ey
    have e7 : (upd H6 p7 (.lst ((canon (ps.map (·.1))).map V.str))) p7 = some (.lst ((canon (ps.map (·.1))).map V.str)) := upd_same
    have s7 : Same H6 (upd H6 p7 (.lst ((canon (ps.map (·.1))).map V.str))) := same_new n7
    generalize upd H6 p7 (.lst ((canon (ps.map (·.1))).map V.str)) = H8 at *
    have S8 : Same H H8 := S6.trans s7
    refine ne_t (dt_list (lst_of (s7 _ _ e6)) (dts_strs _)) (dt_list (lst_of e7) (dts_strs _)) ⟨_, rfl, ?_⟩
    rw [decide_eq_true rfl]
    refine iteF ?_
    -- each thing
    have ht8 := S8 _ _ ht
    refine ⟨t, _, ht8, trivial, fun od => ⟨.ref t, rfl, t, od, rfl, .inl ⟨_, upd_same, ?_⟩⟩⟩
    have k9 : Kq H (upd H8 t (.frz od (.dK kvs))) := S8.kq.trans (Kq.lock ht8)
    have e9 : (upd H8 t (.frz od (.dK kvs))) t = some (.frz od (.dK kvs)) := upd_same
    have st9 : StoreAt CL C (upd H8 t (.frz od (.dK kvs))) a la u ms ks (normS ps) := st.kq k9 fun o e => by rw [upd_ne ntu.symm]; exact S8 _ _ e
    have u9 : ∀ H', Same (upd H8 t (.frz od (.dK kvs))) H' → Same H (upd H' t (.dK kvs)) := fun H' s' => S8.trans (Same.unlock ht8 s')
    generalize upd H8 t (.frz od (.dK kvs)) = H9 at k9 e9 st9 u9 ⊢
    refine for_it walk_keysY (fun i σ H' => ∃ o4 o5 o6 o7 o8 : Option V, σ = [some (.ref pg), some (.ref t), some (.ref a), some (.int ((links (ps.take i) : Nat) : Int)), o4, o5, o6, o7, o8, none, none, none] ∧ Same H9 H') ⟨none, none, none, none, none, rfl, Same.refl H9⟩ (fun i σ H' _ ⟨_, _, _, _, _, _, s'⟩ => s' _ _ e9) ?_ ?_
    · rintro i y σ G G' hi ⟨o4, o5, o6, o7, o8, rfl, sG⟩ ⟨rfl, ey⟩
      rw [List.getElem?_map, List.getElem?_eq_getElem hi] at ey
      obtain ⟨p, ep, ek, _⟩ := paired_get hps (List.getElem?_eq_getElem hi)
      have ey' : V.str p.1 = y := by
        have z : kV kvs[i].1 = y := Option.some.inj ey
        rw [ek] at z
        exact z
      subst ey'
      have mp : p ∈ ps := List.mem_of_getElem? ep
      have mz : p.1 ∈ ps.map (·.1) := List.mem_map.mpr ⟨p, mp, rfl⟩
      have gp : getP ps p.1 = p.2 := getP_mem ndp (show (p.1, p.2) ∈ ps from mp)
      have gn : getP (normS ps) p.1 = p.2 := (get_norm ndp nm mz).trans gp
      have mzn : p.1 ∈ (normS ps).map (·.1) := by rw [nmn]; exact mem_canon.mpr mz
      obtain ⟨v, hv, tv, _⟩ := hps.get ndp mz
      rw [gp] at tv
      have pin := si.th _ mp
      obtain ⟨b, u1, u2, rfl, hb, t1, t2⟩ := tv.pair
      obtain ⟨am, vm, rfl, ham, tm⟩ := t1.tup
      obtain ⟨al, vl, rfl, hal, tl⟩ := t2.tup
      have kG := k9.trans sG.kq
      have stG := st9.same sG
      have gG : G' a = some (.ins C dx fs) := kG.ins g1
      refine ⟨.ref t, rfl, .str p.1, rfl, t, .ref b, rfl, .inl ⟨kvs, Sum.inr p.1, .inr ⟨od, sG _ _ e9⟩, rfl, by rw [hv]⟩, b, _, rfl, tup_of (kG.tup hb), rfl, _, _, rfl, _, _, rfl, rfl, ?_⟩
      refine ⟨_, rfl, .ref al, rfl, al, vl, rfl, .inr (tup_of (kG.tup hal)), _, _, rfl, rfl, ?_⟩
      have lv : vl.length = p.2.2.items.length := Tts.length tl
      have tot : ((links (ps.take i) : Nat) : Int) + (vl.length : Int) = ((links (ps.take (i + 1)) : Nat) : Int) := by
        have tk : ps.take (i + 1) = ps.take i ++ [p] := by rw [List.take_add_one, ep]; rfl
        unfold links
        rw [tk, List.map_append, List.sum_append, List.map_singleton, List.sum_singleton, lv, Int.natCast_add]
      show gName 3 (V.int (((links (ps.take i) : Nat) : Int) + (vl.length : Int))) _ _ _
      rw [tot]
      -- its marks and links
      refine ⟨.ref a, rfl, a, dx, fs, rfl, gG, look_none g7 (by decide +kernel), .str p.1, rfl, a, la, u, ms, ks, normS ps, p.1, rfl, stG, normS_nd ps, mzn, fun v1 tv1 => ?_⟩
      rw [gn] at tv1
      refine ⟨.ref am, rfl, ne_t tv1.dt (t1.kq kG).dt ⟨_, rfl, ?_⟩⟩
      rw [decide_eq_true rfl]
      refine iteF ?_
      refine ⟨.ref a, rfl, a, dx, fs, rfl, gG, look_none g7 (by decide +kernel), .str p.1, rfl, a, la, u, ms, ks, normS ps, p.1, rfl, stG, normS_nd ps, mzn, fun v2 tv2 => ?_⟩
      rw [gn] at tv2
      refine ⟨.ref al, rfl, ne_t tv2.dt (t2.kq kG).dt ⟨_, rfl, ?_⟩⟩
      rw [decide_eq_true rfl]
      refine iteF ?_
      -- in
      refine ⟨.str p.1, rfl, .ref a, rfl, a, dx, fs, rfl, gG, a, la, u, ms, ks, normS ps, _, rfl, stG, .inr ⟨p.1, rfl, ?_⟩⟩
      rw [decide_eq_true mzn]
      refine ⟨true, rfl, false, rfl, iteF ?_⟩
      -- ends
      obtain ⟨zl, rfl, el, tz⟩ := Tts.refs tl
      have lz : zl.length ≤ 60 := by
        have z := pin.l2
        rw [el, List.length_map] at z
        exact z
      have hgG := kG.tup hg
      have hkG := kG.tup hk
      refine ⟨.ref pg, rfl, pg, _, 1, .ref pk, rfl, rfl, tup_of hgG, rfl, pk, rfl, ⟨_, tup_of hkG⟩, for_it (walk_tup (xs := ks.map V.str)) (fun j σ H' => ∃ o7 o8 : Option V, σ = [some (.ref pg), some (.ref t), some (.ref a), some (.int ((links (ps.take (i + 1)) : Nat) : Int)), some (.str p.1), some (.ref am), some (.ref al), o7, o8, none, none, none] ∧ Same G' H') ⟨_, _, rfl, Same.refl G'⟩ (fun j σ H' _ ⟨_, _, _, s'⟩ => tup_of (s' _ _ hkG)) ?_ fun σ H' ⟨o7', o8', e, s'⟩ => ⟨_, _, _, o7', o8', e, sG.trans s'⟩⟩
      rintro j x σ J J' hj ⟨o7', o8', rfl, sJ⟩ ⟨rfl, ex⟩
      rw [List.length_map] at hj
      rw [List.getElem?_map, List.getElem?_eq_getElem hj] at ex
      have ex' : V.str ks[j] = x := Option.some.inj ex
      subst ex'
      generalize hy : ks[j] = yk at *
      have my : yk ∈ ks := by rw [← hy]; exact List.getElem_mem hj
      have halJ := sJ _ _ (kG.tup hal)
      refine ⟨.ref al, rfl, al, rfl, ⟨_, tup_of halJ⟩, fun D nD => ?_⟩
      refine lc_ong (h := fun z : Addr × (Str × Str) => V.ref z.1) (xs := zl) (vs := [9, 10]) (by have := walk_tup (K := K) (a := al) (xs := zl.map fun z => V.ref z.1); rw [List.length_map] at this; exact this) rfl (fun e => [some (.ref pg), some (.ref t), some (.ref a), some (.int ((links (ps.take (i + 1)) : Nat) : Int)), some (.str p.1), some (.ref am), some (.ref al), some (.str yk), o8', some (.str e.2.1), some (.str e.2.2), none]) (fun e => decide (e.2.1 = yk)) (fun e => .str e.2.2) nD (fun H4 s4 => tup_of (s4 _ _ halJ)) (by omega) (fun e he H4 s4 R hR => ?_) (fun e he => rfl) (fun e he H4 s4 Q' q' => ?_) (fun e he _ H4 s4 Q' q' => ⟨_, rfl, q' H4 (Same.refl H4)⟩) fun J4 s4 e4 => ?_
      · obtain ⟨c, x1, x2, ec, hc, y1, y2⟩ := ((tz e he).kq kG).pair
        have ec' : e.1 = c := by injection ec
        subst ec'
        rw [y1.str, y2.str] at hc
        exact ⟨e.1, _, rfl, tup_of (s4 _ _ (sJ _ _ hc)), rfl, _, _, rfl, _, _, rfl, rfl, hR⟩
      · refine ⟨_, rfl, _, rfl, rfl, _, rfl, ?_⟩
        have ed : decide (V.str e.2.1 = V.str yk) = decide (e.2.1 = yk) := decide_eq_decide.mpr ⟨fun z => by injection z, fun z => by rw [z]⟩
        rw [ed]
        exact q' H4 (Same.refl H4)
      · have ee : (zl.filter fun e => decide (e.2.1 = yk)).map (fun e => V.str e.2.2) = (endsP p.2.2.items yk).map V.str := by
          unfold endsP
          rw [el, List.filter_map, List.map_map, List.map_map]
          rfl
        rw [ee] at e4
        have SJ := sJ.trans s4
        refine ⟨.ref a, rfl, a, dx, fs, rfl, SJ _ _ gG, look_none g7 (by decide +kernel), .str p.1, rfl, .str yk, rfl, a, la, u, ms, ks, normS ps, p.1, yk, rfl, stG.same SJ, normS_nd ps, mzn, my, by rw [gn]; exact pin.l2, fun p8 J8 s8 n8 e8 => ?_⟩
        rw [gn] at e8
        refine ⟨.ref D, rfl, D, _, rfl, .inl ⟨lst_of (s8 _ _ e4), fun p9 n9 => ?_⟩⟩
        have e9' : (upd J8 p9 (.tup ((endsP p.2.2.items yk).map V.str))) p9 = some (.tup ((endsP p.2.2.items yk).map V.str)) := upd_same
        have s9 : Same J8 (upd J8 p9 (.tup ((endsP p.2.2.items yk).map V.str))) := same_new n9
        generalize upd J8 p9 (.tup ((endsP p.2.2.items yk).map V.str)) = J9 at *
        refine ne_t (dt_tup (tup_of (s9 _ _ e8)) (dts_strs _)) (dt_tup (tup_of e9') (dts_strs _)) ⟨_, rfl, ?_⟩
        rw [decide_eq_true rfl]
        exact iteF ⟨_, _, rfl, SJ.trans (s8.trans s9)⟩
    rintro σ G ⟨o4, o5, o6, o7, o8, rfl, sG⟩
    refine ⟨sG _ _ e9, ?_⟩
    have SU : Same H (upd G t (.dK kvs)) := u9 G sG
    generalize upd G t (.dK kvs) = U at SU ⊢
    rw [show kvs.length = ps.length from lkv, List.take_length]
    -- what is not in it
    refine ⟨by show 1 ≤ sizeLine; decide, fun q1 m1 => ?_⟩
    have f1 : (upd U q1 (.tup [.str "a"])) q1 = some (.tup [.str "a"]) := upd_same
    have s1' : Same U (upd U q1 (.tup [.str "a"])) := same_new m1
    generalize upd U q1 (.tup [.str "a"]) = U1 at *
    refine ⟨Nat.zero_le _, fun q2 m2 => ?_⟩
    have f2 : (upd U1 q2 (.lst [])) q2 = some (.lst []) := upd_same
    have s2' : Same U1 (upd U1 q2 (.lst [])) := same_new m2
    generalize upd U1 q2 (.lst []) = U2 at *
    intro q3 m3
    have f3 : (upd U2 q3 (.dK [])) q3 = some (.dK []) := upd_same
    have s3' : Same U2 (upd U2 q3 (.dK [])) := same_new m3
    generalize upd U2 q3 (.dK []) = U3 at *
    refine ⟨by show 7 ≤ sizeLine; decide, fun tq nq => ?_⟩
    have f4 : (upd U3 tq (.tup [.non, .str "nothing", .int 0, .ref q1, .ref q2, .ref q3, .str "A"])) tq = some (.tup [.non, .str "nothing", .int 0, .ref q1, .ref q2, .ref q3, .str "A"]) := upd_same
    have s4' : Same U3 (upd U3 tq (.tup [.non, .str "nothing", .int 0, .ref q1, .ref q2, .ref q3, .str "A"])) := same_new nq
    generalize upd U3 tq (.tup [.non, .str "nothing", .int 0, .ref q1, .ref q2, .ref q3, .str "A"]) = U4 at *
    have SU4 : Same H U4 := SU.trans (s1'.trans (s2'.trans (s3'.trans s4')))
    have inW : ∀ z ∈ odds, decide (z ∈ (normS ps).map (·.1)) = false := fun z hz => decide_eq_false fun m => odds_off z hz (wd z (mem_canon.mp (by rw [← nmn]; exact m)))
    have no : ∀ v ∈ [V.non, .str "nothing", .int 0, .ref q1, .ref q2, .ref q3, .str "A"], ∀ H5, Same U4 H5 → (NoTxt K H5 v ∨ ∃ z ∈ odds, v = .str z) := by
      simp only [List.forall_mem_cons]
      exact ⟨fun H5 s5 => .inl ⟨_, .base .non, kit_ty (by decide +kernel)⟩, fun H5 s5 => .inr ⟨_, by decide, rfl⟩, fun H5 s5 => .inl ⟨_, .base (.int _), kit_ty (by decide +kernel)⟩, fun H5 s5 => .inl ⟨_, .base (.tup (s5 _ _ (s4' _ _ (s3' _ _ (s2' _ _ f1))))), kit_ty (by decide +kernel)⟩, fun H5 s5 => .inl ⟨_, .base (.lst (s5 _ _ (s4' _ _ (s3' _ _ f2)))), kit_ty (by decide +kernel)⟩, fun H5 s5 => .inl ⟨_, .base (.dK (s5 _ _ (s4' _ _ f3))), kit_ty (by decide +kernel)⟩, fun H5 s5 => .inr ⟨_, by decide, rfl⟩, fun v hv => by cases hv⟩
    refine ⟨tq, rfl, ⟨_, tup_of f4⟩, fun D nD => lc_on (h := fun x : V => x) (xs := [V.non, .str "nothing", .int 0, .ref q1, .ref q2, .ref q3, .str "A"]) (by rw [List.map_id']; exact walk_tup) rfl (fun _ => false) (fun x => x) nD (fun H5 s5 => tup_of (s5 _ _ f4)) (by show 7 < 100000; decide) (fun v hv H5 s5 Q' q' => ?_) (fun v hv c => by cases c) fun U5 s5 e5' => ?_⟩
    · have S5 := SU4.trans s5
      refine ⟨_, rfl, .ref a, rfl, a, dx, fs, rfl, S5 _ _ g1, a, la, u, ms, ks, normS ps, _, rfl, st.same S5, ?_⟩
      rcases no v hv H5 s5 with h | ⟨z, hz, rfl⟩
      · exact .inl ⟨h, false, rfl, _, rfl, q' H5 (Same.refl H5)⟩
      · refine .inr ⟨z, rfl, _, rfl, ?_⟩
        rw [inW z hz]
        exact ⟨_, rfl, q' H5 (Same.refl H5)⟩
    have S5 := SU4.trans s5
    refine cmp_nil (xs := []) true (lst_of e5') (fun x hx => by cases hx) fun U6 s6' => ⟨false, rfl, iteF ?_⟩
    have S6' := S5.trans s6'
    -- the text
    have lnk : links ps ≤ 3600 := links_le (fun p hp => (si.th p hp).l2) lps
    have z1 := int_short (n := ps.length) (by omega)
    have z2 := int_short (n := links ps) (by omega)
    have htU := S6' _ _ ht
    refine ⟨.ref t, rfl, t, kvs, rfl, htU, _, rfl, by rw [lkv]; exact int_small (by omega), _, _, rfl, rfl, ?_, ?_⟩
    · rw [lkv]
      exact sumA (show _ ≤ 100 by decide +kernel) z1
    rw [lkv]
    refine ⟨_, _, rfl, rfl, sumA (lenA (show _ ≤ 100 by decide +kernel) z1) (show _ ≤ 100 by decide +kernel), ?_⟩
    refine ⟨_, rfl, _, rfl, int_small (by omega), _, _, rfl, rfl, sumA (lenA (lenA (show _ ≤ 100 by decide +kernel) z1) (show _ ≤ 100 by decide +kernel)) z2, ?_⟩
    refine ⟨_, _, rfl, rfl, sumA (lenA (lenA (lenA (show _ ≤ 100 by decide +kernel) z1) (show _ ≤ 100 by decide +kernel)) z2) (show _ ≤ 100 by decide +kernel), ?_⟩
    -- len and str
    have ln : (normS ps).length = ps.length := pmn.length_eq
    refine ⟨.ref a, rfl, a, dx, fs, rfl, S6' _ _ g1, a, la, u, ms, ks, normS ps, rfl, st.same S6', _, rfl, Int.natCast_nonneg _, by rw [ln]; exact Int.lt_of_le_of_lt (show ((ps.length : Nat) : Int) ≤ 60 by omega) (by decide), ?_⟩
    refine ⟨.ref t, rfl, t, kvs, rfl, htU, rfl, _, rfl, ?_⟩
    rw [ln, lkv, decide_eq_true rfl]
    refine ⟨.ref a, rfl, a, dx, fs, rfl, S6' _ _ g1, a, la, u, ms, ks, normS ps, rfl, st.same S6', by omega, by rw [links_norm ndp nm]; omega, fun U7 s7' => ⟨_, rfl, _, rfl, rfl, ?_⟩⟩
    rw [ln, links_norm ndp nm, store_is, decide_eq_true rfl]
    exact q U7 (S6'.trans s7')
end
end Tf

/-! _law_right: stores made, told, compared -/
namespace L2
open PySem PySem.Spec PyProof.Rows PySem.W
theorem TyL.of {X : Cx} {H : Hp} {x : V} {t : Value} (h : TyX X.K H x t) : TyL X H x t := fun pins σ s u I r => by
  obtain ⟨P, kx, p, _⟩ := kit_of I r h
  exact kx.ty _ _ I.kIn p
def rEqY (K : PySem.W.Frag) (C : Addr) (sp : Sp) (neg : Bool) : R2 := fun x y H Q => ∃ a dx fs tb, x = .ref a ∧ H a = some (.ins C dx fs) ∧ TyX K H y tb ∧ PySem.W.notFirst K C tb = true ∧ sp [.ref a, y] H (fun v H' => ∃ b, v = .bl b ∧ Q (.bl (if neg then !b else b)) H') E0
section
variable {X : Cx} {k : Nat} {C : Addr} {sp : Sp}
theorem op_eqY (F : OwN X.prog X.w X.K X.mg X.base k C "__eq__" sp) (hr : Room k X.A) : OpR X (compareOp .Eq) (rEqY X.K C sp false) := by
  intro pins s σ H x y u v Q I rx ry h
  obtain ⟨a, dx, fs, tb, e1, e2, ty, nf, h⟩ := h
  exact op_eqN F hr pins s σ H x y u v Q I rx ry ⟨a, dx, fs, tb, e1, e2, TyL.of ty, nf, h⟩
theorem pe_cmn {o e : Expr} {es : List Expr} {ta : TE} {t : TA} {m : Str} {apos pos : Pos} {pl : Sem Bool} (F : CmN X.prog X.w X.K X.mg X.base k C m sp) (hr : Room k X.A) (he : PE X o ta) (ha : PA X (e :: es) t)
    (hst : starEach (e :: es) X.env = (false, eval e X.env) :: starEach es X.env := by rfl) (hpl : (backTo pos (starEach es X.env)).any (·.1) = false := by rfl)
    (ht : eval (.Call (.Attribute o m apos) (e :: es) [] pos) X.env = (do
      let ov ← eval o X.env
      standAt apos.atName
      let (f, first) ← holding [ov] (getMethod ov m pl)
      callWith pos f first (backTo pos (starEach (e :: es) X.env)) (backToKw pos (keywordEach [] X.env))) := by rfl) : PE X (.Call (.Attribute o m apos) (e :: es) [] pos) (ClX.tCMeth C sp E0 ta t) := by
  obtain ⟨mc, p, g, r, c, G⟩ := F
  exact ClX.pe_cmeth he r c G hr pass0 ha hst hpl ht
end
end L2
namespace Tf
open PySem PySem.Spec PyProof.Rows L2 PySem.W
abbrev sRt4 : Stmt := top 42
abbrev nRt : List Str := ["_law_dice_here", "_law_language_here", "_law_store_here", "_law_base", "_law_passed_here", "_law_made", "_law_near_here", "_law_other", "_law_bare", "_law_wide", "_law_odd", "_law_name", "_law_value"]
theorem scRt4 : FnScope nRt ["_law_dice_here"] (defScope sRt4) := ⟨rfl, rfl, rfl, by decide +kernel, rfl, by decide +kernel, by decide +kernel⟩
theorem sub_perm {α : Type} [DecidableEq α] : ∀ {xs ys : List α}, xs.Nodup → (∀ x ∈ xs, x ∈ ys) → xs.length = ys.length → xs.Perm ys
  | [], [], _, _, _ => .nil
  | [], _ :: _, _, _, l => by cases l
  | x :: xs, ys, nd, h, l => by
    have nd' := List.nodup_cons.mp nd
    have mx := h x List.mem_cons_self
    have le := List.length_erase_of_mem mx
    have ih := sub_perm (xs := xs) (ys := ys.erase x) nd'.2 (fun y hy => (List.mem_erase_of_ne (fun e : y = x => nd'.1 (e ▸ hy))).mpr (h y (List.mem_cons_of_mem _ hy))) (by rw [le, ← l]; rfl)
    exact (ih.cons x).trans (List.perm_cons_erase mx).symm
theorem look_some {ys : Ps} {z : Str} {x : Pr} (h : look ys z = some x) : (z, x) ∈ ys := by
  unfold look at h
  obtain ⟨p, hp, rfl⟩ := Option.map_eq_some_iff.mp h
  have m := List.mem_of_find?_eq_some hp
  have f := List.find?_some hp
  have e : p.1 = z := of_decide_eq_true f
  rw [← e]
  exact m
theorem nd_of {xs : Ps} (nd : (xs.map (·.1)).Nodup) : xs.Nodup := by
  induction xs with
  | nil => exact List.nodup_nil
  | cons x xs ih =>
    rw [List.map_cons, List.nodup_cons] at nd
    exact List.nodup_cons.mpr ⟨fun m => nd.1 (List.mem_map.mpr ⟨x, m, rfl⟩), ih nd.2⟩
theorem sameD_iff {xs ys : Ps} (ndx : (xs.map (·.1)).Nodup) (ndy : (ys.map (·.1)).Nodup) : sameD xs ys = true ↔ xs.Perm ys := by
  refine ⟨fun h => ?_, same_perm ndy⟩
  unfold sameD at h
  rw [Bool.and_eq_true] at h
  exact sub_perm (nd_of ndx) (fun p hp => look_some (of_decide_eq_true (List.all_eq_true.mp h.2 p hp))) (beq_iff_eq.mp h.1)
theorem same_norm {xs ys : Ps} (ndx : (xs.map (·.1)).Nodup) (ndy : (ys.map (·.1)).Nodup) (nx : Nrm xs) (ny : Nrm ys) : sameD (normS xs) (normS ys) = sameD xs ys := by
  rw [Bool.eq_iff_iff, sameD_iff (normS_nd xs) (normS_nd ys), sameD_iff ndx ndy]
  exact ⟨fun p => (normS_perm ndx nx).symm.trans (p.trans (normS_perm ndy ny)), fun p => (normS_perm ndx nx).trans (p.trans (normS_perm ndy ny).symm)⟩
theorem same_symm {xs ys : Ps} (ndx : (xs.map (·.1)).Nodup) (ndy : (ys.map (·.1)).Nodup) : sameD xs ys = sameD ys xs := by
  rw [Bool.eq_iff_iff, sameD_iff ndx ndy, sameD_iff ndy ndx]
  exact ⟨fun p => p.symm, fun p => p.symm⟩
/-- marks alone -/
def bareP (ps : Ps) : Ps := ps.map fun p => (p.1, (p.2.1, Tup.mk []))
theorem bareP_names (ps : Ps) : (bareP ps).map (·.1) = ps.map (·.1) := by
  unfold bareP
  rw [List.map_map]
  rfl
theorem further_off : ("further" : Str) ∉ words := by decide +kernel
theorem further_name : nameB "further" = true := by decide +kernel
theorem canon1 (z : Str) : canon [z] = [z] := canon_self (by simp) (by simp)
/-- what is known while stores are made -/
structure Kn (CL : Addr) (H : Hp) (d pg pm pk t la : Addr) (ms ks : List Str) (kvs : List (Key × V)) (ps : Ps) : Prop where
  dc : Dice H d
  hg : H pg = some (.tup [.ref pm, .ref pk])
  hm : H pm = some (.tup (ms.map V.str))
  hk : H pk = some (.tup (ks.map V.str))
  ht : H t = some (.dK kvs)
  hp : PsR H kvs ps
  hl : LangAt CL H la ms ks
section
variable {CL d pg pm pk t la : Addr} {H H' : Hp} {ms ks : List Str} {kvs : List (Key × V)} {ps : Ps}
theorem Kn.same (k : Kn CL H d pg pm pk t la ms ks kvs ps) (s : Same H H') : Kn CL H' d pg pm pk t la ms ks kvs ps := ⟨k.dc.same s, s _ _ k.hg, s _ _ k.hm, s _ _ k.hk, s _ _ k.ht, k.hp.kq s.kq, k.hl.kq s.kq⟩
theorem Kn.nr (k : Kn CL H d pg pm pk t la ms ks kvs ps) (n : Nr d H H') (dc : Dice H' d) : Kn CL H' d pg pm pk t la ms ks kvs ps := by
  have q := n.kq k.dc
  refine ⟨dc, q.tup k.hg, q.tup k.hm, q.tup k.hk, n _ _ ?_ k.ht, k.hp.kq q, k.hl.kq q⟩
  obtain ⟨_, _, _, _, e⟩ := k.dc
  exact ne_of k.ht e (fun z => nomatch z)
theorem kq_upd {p : Addr} {kvs : List (Key × V)} {o : HO} (h : H p = some (.dK kvs)) : (∀ b o', b ≠ p → H b = some o' → upd H p o b = some o') := fun b o' nb e => by rw [upd_ne nb]; exact e
theorem LangAt.put {p : Addr} {kvs : List (Key × V)} {o : HO} (h : LangAt CL H la ms ks) (hp : H p = some (.dK kvs)) : LangAt CL (upd H p o) la ms ks := by
  obtain ⟨dy, fs, pm, pk, h1, h2, h3, h4, h5, h6⟩ := h
  exact ⟨dy, fs, pm, pk, by rw [upd_ne (ne_of h1 hp (fun z => nomatch z))]; exact h1, h2, h3, by rw [upd_ne (ne_of h4 hp (fun z => nomatch z))]; exact h4, by rw [upd_ne (ne_of h5 hp (fun z => nomatch z))]; exact h5, h6⟩
theorem StoreAt.put {C a u p : Addr} {kvs : List (Key × V)} {o : HO} (h : StoreAt CL C H a la u ms ks ps) (hp : H p = some (.dK kvs)) (n : u ≠ p) : StoreAt CL C (upd H p o) a la u ms ks ps := by
  obtain ⟨dx, fs, jvs, h1, h2, h3, h4, h5, h6, h7⟩ := h
  exact ⟨dx, fs, jvs, by rw [upd_ne (ne_of h1 hp (fun z => nomatch z))]; exact h1, h2, h3, h4.put hp, by rw [upd_ne n]; exact h5, h6.kt (kt_dk hp), h7⟩
theorem Kn.put {p : Addr} {jvs : List (Key × V)} {o : HO} (k : Kn CL H d pg pm pk t la ms ks kvs ps) (hp : H p = some (.dK jvs)) (n : t ≠ p) : Kn CL (upd H p o) d pg pm pk t la ms ks kvs ps := by
  have kt := kt_dk (o := o) hp
  refine ⟨?_, kt _ _ k.hg, kt _ _ k.hm, kt _ _ k.hk, by rw [upd_ne n]; exact k.ht, k.hp.kt kt, k.hl.put hp⟩
  obtain ⟨x1, x2, x3, x4, x5⟩ := k.dc
  exact ⟨x1, x2, x3, x4, by rw [upd_ne (ne_of x5 hp (fun z => nomatch z))]; exact x5⟩
end
theorem StoreAt.t_dk {CL C : Addr} {H : Hp} {a la t : Addr} {ms ks : List Str} {ps : Ps} (h : StoreAt CL C H a la t ms ks ps) : ∃ kvs, H t = some (.dK kvs) := by
  obtain ⟨dx, fs, kvs, h1, h2, h3, h4, h5, h6, h7⟩ := h
  exact ⟨kvs, h5⟩
theorem StoreAt.ins {CL C : Addr} {H : Hp} {a la t : Addr} {ms ks : List Str} {ps : Ps} (h : StoreAt CL C H a la t ms ks ps) : ∃ dx fs, H a = some (.ins C dx fs) := by
  obtain ⟨dx, fs, kvs, h1, h2, h3, h4, h5, h6, h7⟩ := h
  exact ⟨dx, fs, h1⟩
theorem LangAt.ins {CL : Addr} {H : Hp} {a : Addr} {ms ks : List Str} (h : LangAt CL H a ms ks) : ∃ dx fs, H a = some (.ins CL dx fs) := by
  obtain ⟨dx, fs, pm, pk, h1, _⟩ := h
  exact ⟨dx, fs, h1⟩
/-- values that are no stores -/
structure TyS (K : PySem.W.Frag) (CL CS CM : Addr) : Prop where
  k0 : PySem.W.kitOne K (.type "NoneType") (.ref CS) = some false
  k3 : PySem.W.kitOne K (.type "str") (.ref CS) = some false
  k5 : PySem.W.kitOne K (.type "tuple") (.ref CS) = some false
  k6 : PySem.W.kitOne K (.type "dict") (.ref CS) = some false
  kL : PySem.W.kitOne K (.ref CL) (.ref CS) = some false
  n0 : PySem.W.notFirst K CM (.type "NoneType") = true
  n3 : PySem.W.notFirst K CM (.type "str") = true
  n5 : PySem.W.notFirst K CM (.type "tuple") = true
  n6 : PySem.W.notFirst K CM (.type "dict") = true
  nL : PySem.W.notFirst K CM (.ref CL) = true
  nM : PySem.W.notFirst K CM (.ref CM) = true
  nLL : PySem.W.notFirst K CL (.ref CL) = true
/-- what != asks of a class -/
structure NeO (K : PySem.W.Frag) (C : Addr) : Prop where
  ne : PySem.W.findIn K (.ref C) "__ne__" = some (some (.builtin "object.__ne__"))
  mo : PySem.W.mroIn K C (.type "object") = some true
def spRt4 : Sp := fun vs H Q _ => ∃ d : Addr, vs = [.ref d] ∧ Dice H d ∧ ∀ H' : Hp, Nr d H H' → Dice H' d → Q (.bl true) H'
section
variable {P : Program} {w : World} {K : PySem.W.Frag} {mg : Str → Option Value} {base : Heap}
theorem ok_rt4 {f CL CS CM : Addr} {fd : FuncData} {k : Nat} (F : Fun K "_law_right" "_law_right" sRt4 f fd)
    (GL : CdN P w K mg base (k + 3) "_law_language" ["_law_dice_here", "_law_marks", "_law_sorts"] spLg) (GS : CdN P w K mg base (k + 3) "_law_store" ["_law_dice_here", "_law_language_here", "_law_most"] spSto)
    (GP : CdN P w K mg base (k + 3) "_law_passed" ["_law_dice_here", "_law_store_here"] spPas) (GN : CdN P w K mg base (k + 3) "_law_near" ["_law_dice_here", "_law_language_here", "_law_store_here"] spNear) (GT : CdN P w K mg base (k + 3) "_law_told_right" ["_law_language_here", "_law_store_here", "_law_made"] (spTold K CL CM))
    (LO : CmN P w K mg base (k + 3) CL "of" (spLof K CL)) (SO : CmN P w K mg base (k + 3) CS "of" (spSof CL CS CM)) (gL : mg "Language" = some (.ref CL)) (gS : mg "Store" = some (.ref CS)) (L : LCls K CL) (I : LIs K CL) (T : SAll P w K mg base k CL CM) (SM : SIs K CS CM)
    (EL : OwN P w K mg base (k + 2) CL "__eq__" (spLeq K CL)) (NL : NeO K CL) (ES : OwN P w K mg base (k + 2) CM "__eq__" (spSeq K CL CS CM CM)) (NM : NeO K CM) (Y : TyS K CL CS CM)
    (mR : mg "repr" = none) (mD : mg "dict" = none) : FnOk P w K mg base CX0 (k + 4) f fd ["_law_dice_here"] spRt4 := by
  refine F.ok scRt4 (fun vs H Q E h => ?_) (fun cdv A outer s H vs Q E hr h => ?_)
  · obtain ⟨d, rfl, _⟩ := h
    rfl
  · obtain ⟨d, rfl, hd, q⟩ := h
    have hu70 : (A.deeper (envOfC "_law_right" (defScope sRt4) s.heap.objs.size f cdv)).units + 70 < cLine := by have := hr.un; omega
    have hu64 : (A.deeper (envOfC "_law_right" (defScope sRt4) s.heap.objs.size f cdv)).units + 64 < cLine := by omega
    have hu : (A.deeper (envOfC "_law_right" (defScope sRt4) s.heap.objs.size f cdv)).units + 1 < cLine := by omega
    have hr2 : Room (k + 2) (A.deeper (envOfC "_law_right" (defScope sRt4) s.heap.objs.size f cdv)) := hr.mono (by omega)
    refine ⟨_, pss_cons (ps_set (i := 1) scRt4.nd rfl (.inl rfl) (pe_cdn GL hr (pa_cons (pv 0) (pa_cons pe_int (pa_cons pe_int pa_nil)))))
      (pss_cons (ps_asg (pe_tup (pa_cons (pe_cdn GS hr (pa_cons (pv 0) (pa_cons (pv 1) (pa_cons pe_int pa_nil)))) (pa_cons (pe_cmn LO hr (pe_glob (v := .ref CL) rfl gL rfl) (pa_cons (pe_ix ix_tup (pv 1) pe_int (fun _ _ => rfl)) (pa_cons (pe_ix ix_tup (pv 1) pe_int (fun _ _ => rfl)) pa_nil))) pa_nil))) (pg_tup (by rfl) (pgs_cons (pg_name (i := 2) scRt4.nd rfl (.inr rfl)) (pgs_cons (pg_name (i := 3) scRt4.nd rfl (.inl rfl)) pgs_nil))))
      (pss_cons (ps_set (i := 4) scRt4.nd rfl (.inl rfl) (pe_cdn GP hr (pa_cons (pv 0) (pa_cons (pv 2) pa_nil))))
      (pss_cons (ps_set (i := 5) scRt4.nd rfl (.inr rfl) (pe_cmn SO hr (pe_glob (v := .ref CS) rfl gS rfl) (pa_cons (pv 3) (pa_cons (pv 4) pa_nil))))
      (pss_cons (ps_if (PW.pt (pw_or (pt_not (pt_val (pe_cdn GT hr (pa_cons (pv 1) (pa_cons (pv 2) (pa_cons (pv 5) pa_nil)))))) (pw_or1 (pt_cmpR (op_neN EL NL.ne NL.mo hr) (pe_ppn T.S.cl T.pl hr2 (pv 5)) (pv 3) (nomark _))))) (pss_one (ps_ret pe_bl)) pss_nil)
      (pss_cons (ps_expr (pe_dclear (pv 4)))
      (pss_cons (ps_expr (pe_dclear (pe_ppn T.S.cl T.pt hr2 (pv 5))))
      (pss_cons (ps_set (i := 6) scRt4.nd rfl (.inl rfl) (pe_cdn GN hr (pa_cons (pv 0) (pa_cons (pv 1) (pa_cons (pv 2) pa_nil)))))
      (pss_cons (ps_set (i := 7) scRt4.nd rfl (.inl rfl) (pe_cmn SO hr (pe_glob (v := .ref CS) rfl gS rfl) (pa_cons (pv 3) (pa_cons (pv 6) pa_nil))))
      (pss_cons (ps_if (PW.pt (pw_or (pt_not (pt_val (pe_cdn GT hr (pa_cons (pv 1) (pa_cons (pv 2) (pa_cons (pv 5) pa_nil)))))) (pw_or1 (pt_not (pt_val (pe_cdn GT hr (pa_cons (pv 1) (pa_cons (pv 6) (pa_cons (pv 7) pa_nil))))))))) (pss_one (ps_ret pe_bl)) pss_nil)
      (pss_cons (ps_if (PW.pt (pw_or (pt_cmpR op_ne (pe_callB call_repr_bl (by rfl) mR (by decide +kernel) (pa_cons (pe_cmpR (op_eqN ES hr2) (pv 5) (pv 7) (nomark _)) pa_nil)) (pe_callB call_repr_bl (by rfl) mR (by decide +kernel) (pa_cons (pe_cmpR (op_eqK (α := Pr) hu70) (pv 2) (pv 6) (nomark _)) pa_nil)) (nomark _)) (pw_or1 (pt_cmpR op_ne (pe_callB call_repr_bl (by rfl) mR (by decide +kernel) (pa_cons (pe_cmpR (op_neN ES NM.ne NM.mo hr) (pv 7) (pv 5) (nomark _)) pa_nil)) (pe_callB call_repr_bl (by rfl) mR (by decide +kernel) (pa_cons (pe_cmpR (op_neK (α := Pr) hu70) (pv 2) (pv 6) (nomark _)) pa_nil)) (nomark _))))) (pss_one (ps_ret pe_bl)) pss_nil)
      (pss_cons (ps_set (i := 8) scRt4.nd rfl (.inl rfl) (pe_callTy (call_dictP rfl) (by rfl) mD (by decide +kernel) (pa_cons (pe_lock (pe_lc (own := [("_law_name", 11)]) (g := gName 11) (tt := tYes) (te := tTup (tCons (tVar 11) (tCons (tTup (tCons (tOp (rIxT K) (tDGet (tVar 2) (tVar 11)) (tC (.int 0))) (tCons (tTup tNil) tNil))) tNil))) (by rfl) scRt4.nd (pi_keys (pv 2)) (blkOk_by (own := [("_law_name", 11)]) (N := nRt) (sc := defScope sRt4) (by decide +kernel)) (fun _ _ _ _ _ => pg_name (i := 11) scRt4.nd rfl (Or.inl rfl)) (fun _ _ _ _ _ => pts_nil) (fun _ _ _ _ _ => pe_tup (pa_cons (pv 11) (pa_cons (pe_tup (pa_cons (pe_ix ix_tup (pe_dget hu (pv 2) (pv 11) (fun _ _ => rfl)) pe_int (fun _ _ => rfl)) (pa_cons (pe_tup pa_nil) pa_nil))) pa_nil))))) pa_nil)))
      (pss_cons (ps_par (i := 9) (j := 10) (by rfl) scRt4.nd rfl rfl (by decide) rfl rfl (pa_cons (pe_cmn SO hr (pe_glob (v := .ref CS) rfl gS rfl) (pa_cons (pe_cmn LO hr (pe_glob (v := .ref CL) rfl gL rfl) (pa_cons (pe_ix ix_tup (pv 1) pe_int (fun _ _ => rfl)) (pa_cons (pe_tup (pa_cons pe_str pa_nil)) pa_nil))) (pa_cons (pv 8) pa_nil))) (pa_cons (pe_lst (pa_cons pe_non (pa_cons (pv 2) (pa_cons pe_str (pa_cons (pv 3) (pa_cons pe_dnewK (pa_cons (pe_tup pa_nil) pa_nil))))))) pa_nil)) (by rfl))
      (pss_one (ps_ret (pe_and (pe_cmpR (op_neN ES NM.ne NM.mo hr) (pv 5) (pv 9) (nomark _)) (pe_one (pe_cmpR (op_eqP hu64) (pe_lc (own := [("_law_value", 12)]) (g := gName 12) (tt := tTest (tOp (rEqY K CM (spSeq K CL CS CM CM) false) (tVar 5) (tVar 12))) (te := tVar 12) (by rfl) scRt4.nd (pi_list (pv 10)) (blkOk_by (own := [("_law_value", 12)]) (N := nRt) (sc := defScope sRt4) (by decide +kernel)) (fun _ _ _ _ _ => pg_name (i := 12) scRt4.nd rfl (Or.inl rfl)) (fun _ _ _ _ _ => pts_one (pt_cmpR (op_eqY ES hr2) (pv 5) (pv 12) (nomark _))) (fun _ _ _ _ _ => pv 12)) (pe_lst pa_nil) (nomark _)))))))))))))))))), ?_⟩
    -- the language and the store
    refine ⟨.ref d, rfl, d, 3, 3, rfl, hd, by decide, by decide, fun pg pm pk ms ks H1 nr1 dc1 ng nm nk hg hm hk lg => ?_⟩
    have l3 := lg.lm
    have k3 := lg.lk
    have k1 := lg.l1
    refine ⟨.ref d, rfl, .ref pg, rfl, d, pg, pm, pk, ms, ks, 8, rfl, dc1, hg, hm, hk, lg.cm, by omega, k1, by omega, by decide, by decide, fun t kvs ps H2 nr2 dc2 nt ht hps pst wd p1 p8 => ?_⟩
    have kq2 := nr2.kq dc1
    have hg2 := kq2.tup hg
    have nms : Nms ms := fun z hz => words_ok z (lg.wm z hz)
    have nks : Nms ks := fun z hz => words_ok z (lg.wk z hz)
    have lok : langOk ms ks = true := ok_of_parts (by rw [lg.cm]; omega) (by rw [lg.ck]; omega) (by rw [lg.ck]; omega) (by rw [lg.ck, lg.cm]; exact lg.off)
    refine ⟨rfl, .ref pg, rfl, pg, _, 0, .ref pm, rfl, rfl, tup_of hg2, rfl, .ref pg, rfl, pg, _, 1, .ref pk, rfl, rfl, tup_of hg2, rfl, pm, pk, ms, ks, rfl, tup_of (kq2.tup hm), tup_of (kq2.tup hk), nms, nks, by omega, by omega, lok, fun la H3 s3 nla hla => ?_⟩
    rw [lg.cm, lg.ck] at hla
    refine ⟨by show 2 ≤ sizeLine; decide, fun tp ntp => ?_⟩
    have e4 : (upd H3 tp (.tup [.ref t, .ref la])) tp = some (.tup [.ref t, .ref la]) := upd_same
    have s4 : Same H3 (upd H3 tp (.tup [.ref t, .ref la])) := same_new ntp
    generalize upd H3 tp (.tup [.ref t, .ref la]) = H4 at *
    refine ⟨tp, _, rfl, tup_of e4, rfl, _, _, rfl, _, _, rfl, rfl, ?_⟩
    have S4 := s3.trans s4
    have kn4 : Kn CL H4 d pg pm pk t la ms ks kvs ps := ⟨dc2.same S4, S4 _ _ hg2, S4 _ _ (kq2.tup hm), S4 _ _ (kq2.tup hk), S4 _ _ ht, hps.kq S4.kq, hla.kq s4.kq⟩
    have NR4 : Nr d H H4 := nr1.trans (nr2.trans S4.nr)
    clear e4 s4 s3 S4 kq2 hg2 hla hps ht nr1 nr2 dc1 dc2 hg hm hk ntp nla
    -- passed
    have sin := pst.sin
    have nrm := pst.nrm
    have shm : ∀ p ∈ ps, p.2.1.items.length ≤ 59 := fun p hp => by
      have th := pst.th p hp
      have nd : p.2.1.items.Nodup := by rw [← th.cm]; exact nodup_canon _
      have := nodup_le nd th.mm
      omega
    have shl : ∀ p ∈ ps, p.2.2.items.length ≤ 59 := fun p hp => Nat.le_trans (pst.th p hp).l2 (by decide)
    refine ⟨.ref d, rfl, .ref t, rfl, d, t, ms, ks, kvs, ps, rfl, kn4.dc, kn4.ht, kn4.hp, sin, shm, shl, fun pd jvs qs H5 nr5 dc5 npd hpd hqs si5 nqs => ?_⟩
    have kn5 := kn4.nr nr5 dc5
    have NR5 := NR4.trans nr5
    have fpd : H pd = none := nr_free NR4 kn4.dc npd
    have ntpd : t ≠ pd := ne_of_none kn4.ht npd
    -- made
    refine ⟨rfl, .ref la, rfl, .ref pd, rfl, la, pd, ms, ks, jvs, qs, rfl, kn5.hl, hpd, hqs, si5, fun a u H6 s6 na nu st6 => ?_⟩
    rw [nqs] at st6
    have kn6 := kn5.same s6
    have ntu : t ≠ u := ne_of_none kn5.ht nu
    have npu : pd ≠ u := ne_of_none hpd nu
    refine ⟨.ref pg, rfl, .ref t, rfl, .ref a, rfl, pg, pm, pk, t, a, la, u, ms, ks, kvs, ps, rfl, kn6.hg, kn6.hk, by omega, kn6.ht, kn6.hp, sin, nrm, wd, st6, ntu, fun H7 s7 => ⟨true, rfl, iteF ?_⟩⟩
    have kn7 := kn6.same s7
    have st7 := st6.same s7
    obtain ⟨dx, fs, ga⟩ := st7.ins
    obtain ⟨dl, fl, gl⟩ := kn7.hl.ins
    refine ⟨.ref a, rfl, a, dx, fs, rfl, ga, a, la, u, ms, ks, normS ps, rfl, st7, .ref la, rfl, la, dl, fl, .ref CL, rfl, gl, TyL.ins gl, Y.nLL, la, .ref la, ms, ks, rfl, kn7.hl, .inr ⟨la, ms, ks, rfl, kn7.hl, _, rfl, _, rfl, ?_⟩⟩
    rw [if_pos rfl, decide_eq_true rfl, decide_eq_true rfl]
    refine iteF ?_
    -- no access
    have hpd7 : H7 pd = some (.dK jvs) := s7 _ _ (s6 _ _ hpd)
    refine ⟨.ref pd, rfl, (.inr (.inr (.inl ⟨rfl, .inl ⟨_, hpd7⟩⟩))), pd, jvs, rfl, rfl, hpd7, ?_⟩
    have kn8 : Kn CL (upd H7 pd (.dK [])) d pg pm pk t la ms ks kvs ps := kn7.put hpd7 ntpd
    have st8 : StoreAt CL CM (upd H7 pd (.dK [])) a la u ms ks (normS ps) := st7.put hpd7 npu.symm
    have NR8 : Nr d H (upd H7 pd (.dK [])) := fun b o nb e => by
      rw [upd_ne (ne_of_none e fpd)]
      exact s7 _ _ (s6 _ _ (NR5 b o nb e))
    clear hpd7 kn7 st7 kn6 st6 kn5 ga gl
    generalize upd H7 pd (.dK []) = H8 at kn8 st8 NR8 ⊢
    obtain ⟨dx, fs, ga⟩ := st8.ins
    refine ⟨.ref a, rfl, a, dx, fs, rfl, ga, a, la, u, ms, ks, normS ps, rfl, st8, fun p9 kvs9 H9 s9 n9 e9 r9 => ⟨(.inr (.inr (.inl ⟨rfl, .inl ⟨_, e9⟩⟩))), p9, kvs9, rfl, rfl, e9, ?_⟩⟩
    obtain ⟨uvs, hu8⟩ := st8.t_dk
    have kn10 : Kn CL (upd H9 p9 (.dK [])) d pg pm pk t la ms ks kvs ps := (kn8.same s9).put e9 (ne_of_none kn8.ht n9)
    have st10 : StoreAt CL CM (upd H9 p9 (.dK [])) a la u ms ks (normS ps) := (st8.same s9).put e9 (ne_of_none hu8 n9)
    have f9 : H p9 = none := nr_free NR8 kn8.dc n9
    have NR10 : Nr d H (upd H9 p9 (.dK [])) := fun b o nb e => by
      rw [upd_ne (ne_of_none e f9)]
      exact s9 _ _ (NR8 b o nb e)
    clear ga hu8
    generalize upd H9 p9 (.dK []) = H10 at kn10 st10 NR10 ⊢
    -- near
    refine ⟨.ref d, rfl, .ref pg, rfl, .ref t, rfl, d, pg, pm, pk, t, ms, ks, kvs, ps, rfl, kn10.dc, kn10.hg, kn10.hm, kn10.hk, lg.cm, by omega, k1, kn10.ht, kn10.hp, sin, nrm, shl, p1, fun pn kvn rs H11 nr11 dc11 npn hpn hrs si11 nrm11 nam => ?_⟩
    have kn11 := kn10.nr nr11 dc11
    have st11 := st10.nr nr11 kn10.dc
    have NR11 := NR10.trans nr11
    refine ⟨rfl, .ref la, rfl, .ref pn, rfl, la, pn, ms, ks, kvn, rs, rfl, kn11.hl, hpn, hrs, si11, fun b v H12 s12 nb nv st12 => ?_⟩
    have kn12 := kn11.same s12
    have nnv : pn ≠ v := ne_of_none hpn nv
    refine ⟨.ref pg, rfl, .ref t, rfl, .ref a, rfl, pg, pm, pk, t, a, la, u, ms, ks, kvs, ps, rfl, kn12.hg, kn12.hk, by omega, kn12.ht, kn12.hp, sin, nrm, wd, st11.same s12, ntu, fun H13 s13 => ⟨true, rfl, iteF ?_⟩⟩
    have kn13 := kn12.same s13
    have S13 := s12.trans s13
    refine ⟨.ref pg, rfl, .ref pn, rfl, .ref b, rfl, pg, pm, pk, pn, b, la, v, ms, ks, kvn, rs, rfl, kn13.hg, kn13.hk, by omega, S13 _ _ hpn, hrs.kq S13.kq, si11, nrm11, by rw [nam]; exact wd, st12.same s13, nnv, fun H14 s14 => ⟨true, rfl, iteF ?_⟩⟩
    have kn14 := kn13.same s14
    have S14 := S13.trans s14
    have sta := st11.same S14
    have stb := st12.same (s13.trans s14)
    have hpn14 := S14 _ _ hpn
    have hrs14 := hrs.kq S14.kq
    have NR14 : Nr d H H14 := NR11.trans S14.nr
    obtain ⟨dx, fs, ga⟩ := sta.ins
    obtain ⟨dy, gs, gb⟩ := stb.ins
    have ndp := sin.nd
    have ndr := si11.nd
    -- compared
    refine ⟨.ref a, rfl, .ref b, rfl, a, dx, fs, .ref CM, rfl, ga, TyL.ins gb, Y.nM, a, la, u, ms, ks, normS ps, .ref b, rfl, sta, .inr ⟨b, la, v, ms, ks, normS rs, rfl, stb, _, rfl, _, rfl, ?_⟩⟩
    refine ⟨.ref t, rfl, .ref pn, rfl, t, pn, ps, rs, rfl, rfl, kn14.hp.dk (.inl kn14.ht), hrs14.dk (.inl hpn14), _, rfl, rfl, _, rfl, ?_⟩
    rw [if_neg Bool.false_ne_true, if_neg Bool.false_ne_true, decide_eq_true (rfl : ms = ms), decide_eq_true (rfl : ks = ks), same_norm ndp ndr nrm nrm11, Bool.and_self, Bool.true_and, decide_eq_true rfl]
    refine iteF ?_
    refine ⟨.ref b, rfl, .ref a, rfl, b, dy, gs, .ref CM, rfl, gb, TyL.ins ga, Y.nM, b, la, v, ms, ks, normS rs, .ref a, rfl, stb, .inr ⟨a, la, u, ms, ks, normS ps, rfl, sta, _, rfl, _, rfl, ?_⟩⟩
    refine ⟨.ref t, rfl, .ref pn, rfl, t, pn, ps, rs, rfl, rfl, kn14.hp.dk (.inl kn14.ht), hrs14.dk (.inl hpn14), _, rfl, rfl, _, rfl, ?_⟩
    rw [if_pos rfl, if_pos rfl, decide_eq_true (rfl : ms = ms), decide_eq_true (rfl : ks = ks), same_norm ndr ndp nrm11 nrm, same_symm ndr ndp, Bool.and_self, Bool.true_and, decide_eq_true rfl]
    refine iteF ?_
    -- without links
    refine ⟨t, _, kn14.ht, trivial, fun od => ⟨.ref t, rfl, t, od, rfl, .inl ⟨_, upd_same, fun D nD => ?_⟩⟩⟩
    have eL : (upd H14 t (.frz od (.dK kvs))) t = some (.frz od (.dK kvs)) := upd_same
    have kqL : Kq H14 (upd H14 t (.frz od (.dK kvs))) := Kq.lock kn14.ht
    have unL : ∀ H', Same (upd H14 t (.frz od (.dK kvs))) H' → Same H14 (upd H' t (.dK kvs)) := fun H' s' => Same.unlock kn14.ht s'
    have nDt : D ≠ t := fun e => by rw [e, eL] at nD; cases nD
    generalize upd H14 t (.frz od (.dK kvs)) = HL at nD eL kqL unL ⊢
    have lkv : kvs.length = ps.length := Paired.length kn14.hp
    have lps := sin.len
    refine lc_it walk_keysY (fun j G => Same HL G ∧ ∃ (ws : List Addr) (kb : List (Key × V)), G D = some (.lst (ws.map V.ref)) ∧ Paired (fun w kv => G w = some (.tup [kV kv.1, kv.2])) ws kb ∧ PsR G kb (bareP (ps.take j))) ⟨same_new nD, [], [], upd_same, .nil, .nil⟩ (fun j G _ p => p.1 _ _ eL) (fun j x G G' hj p y => ?_) fun G p => ?_
    · obtain ⟨sG, ws, kb, eD, pw, pr⟩ := p
      obtain ⟨rfl, ex⟩ := y
      rw [List.getElem?_map, List.getElem?_eq_getElem hj] at ex
      obtain ⟨pp, ep, ek, tv⟩ := paired_get kn14.hp (List.getElem?_eq_getElem hj)
      have ex' : V.str pp.1 = x := by
        have z : kV kvs[j].1 = x := Option.some.inj ex
        rw [ek] at z
        exact z
      subst ex'
      have mp : pp ∈ ps := List.mem_of_getElem? ep
      have mz : pp.1 ∈ ps.map (·.1) := List.mem_map.mpr ⟨pp, mp, rfl⟩
      have gp : getP ps pp.1 = pp.2 := getP_mem ndp (show (pp.1, pp.2) ∈ ps from mp)
      obtain ⟨v', hv', tv', _⟩ := kn14.hp.get ndp mz
      rw [gp] at tv'
      obtain ⟨bb, u1, u2, rfl, hb, t1, t2⟩ := tv'.pair
      have kG := kqL.trans sG.kq
      have tk : ps.take (j + 1) = ps.take j ++ [pp] := by rw [List.take_add_one, ep]; rfl
      refine ⟨by simp [wipe], ?_⟩
      unfold tYes
      simp only [↓reduceIte]
      refine ⟨.str pp.1, rfl, .ref t, rfl, .str pp.1, rfl, t, .ref bb, rfl, .inl ⟨kvs, Sum.inr pp.1, .inr ⟨od, sG _ _ eL⟩, rfl, by rw [hv']⟩, bb, _, 0, u1, rfl, rfl, tup_of (kG.tup hb), rfl, Nat.zero_le _, fun e0 ne0 => ?_⟩
      have f1 : (upd G' e0 (.tup [])) e0 = some (.tup []) := upd_same
      have s1 : Same G' (upd G' e0 (.tup [])) := same_new ne0
      generalize upd G' e0 (.tup []) = G1 at *
      refine ⟨by show 2 ≤ sizeLine; decide, fun e1 ne1 => ?_⟩
      have f2 : (upd G1 e1 (.tup [u1, .ref e0])) e1 = some (.tup [u1, .ref e0]) := upd_same
      have s2 : Same G1 (upd G1 e1 (.tup [u1, .ref e0])) := same_new ne1
      generalize upd G1 e1 (.tup [u1, .ref e0]) = G2 at *
      refine ⟨by show 2 ≤ sizeLine; decide, fun e2 ne2 => ?_⟩
      have f3 : (upd G2 e2 (.tup [.str pp.1, .ref e1])) e2 = some (.tup [.str pp.1, .ref e1]) := upd_same
      have s3 : Same G2 (upd G2 e2 (.tup [.str pp.1, .ref e1])) := same_new ne2
      generalize upd G2 e2 (.tup [.str pp.1, .ref e1]) = G3 at *
      have S3 : Same G' G3 := s1.trans (s2.trans s3)
      have eD3 := S3 _ _ eD
      have lw : ws.length = kb.length := Paired.length pw
      have lb : kb.length ≤ 60 := by
        have z := Paired.length pr
        unfold bareP at z
        rw [List.length_map, List.length_take] at z
        omega
      have kqD : Kq G3 (upd G3 D (.lst (ws.map V.ref ++ [.ref e2]))) := Kq.lst eD3
      refine ⟨_, eD3, by rw [List.length_map]; exact small1000 (by omega), ?_, ws ++ [e2], kb ++ [(Sum.inr pp.1, .ref e1)], by rw [upd_same, List.map_append]; rfl, ?_, ?_⟩
      · exact (sG.trans S3).mut nD
      · have app : ∀ {xs : List Addr} {ys : List (Key × V)} {R : Addr → Key × V → Prop}, Paired R xs ys → ∀ {w : Addr} {kv : Key × V}, R w kv → Paired R (xs ++ [w]) (ys ++ [kv]) := by
          intro xs ys R h w kv r
          induction h with
          | nil => exact .cons r .nil
          | cons h1 _ ih => exact .cons h1 ih
        exact app (Paired.mapP pw fun _ _ h => kqD.tup (S3 _ _ h)) (kqD.tup f3)
      · unfold bareP
        rw [tk, List.map_append]
        refine PsR.append ((pr.kq S3.kq).kq kqD) (.cons ⟨rfl, ?_⟩ .nil)
        exact tt_pair (kqD.tup (s3 _ _ f2)) (((t1.kq kG).kq S3.kq).kq kqD) (tt_tup (kqD.tup (s3 _ _ (s2 _ _ f1))) .nil)
    obtain ⟨sG, ws, kb, eD, pw, pr⟩ := p
    rw [lkv, List.take_length] at pr
    have eG := sG _ _ eL
    refine ⟨eG, ?_⟩
    have S15 : Same H14 (upd G t (.dK kvs)) := unL G sG
    have kqU : Kq G (upd G t (.dK kvs)) := Kq.unlock eG
    have eD15 : (upd G t (.dK kvs)) D = some (.lst (ws.map V.ref)) := by rw [upd_ne nDt]; exact eD
    have pw15 := Paired.mapP pw fun (w : Addr) (kv : Key × V) (h : G w = some (.tup [kV kv.1, kv.2])) => kqU.tup h
    have pr15 := pr.kq kqU
    generalize upd G t (.dK kvs) = H15 at S15 eD15 pw15 pr15 ⊢
    refine ⟨D, ws, kb, rfl, lst_of eD15, Paired.mapP pw15 fun _ _ h => tup_of h, fun pb npb => ?_⟩
    have ndb : ((bareP ps).map (·.1)).Nodup := by rw [bareP_names]; exact ndp
    rw [merge_self pr15 ndb]
    have e16 : (upd H15 pb (.dK kb)) pb = some (.dK kb) := upd_same
    have s16 : Same H15 (upd H15 pb (.dK kb)) := same_new npb
    generalize upd H15 pb (.dK kb) = H16 at *
    have S16 := S15.trans s16
    have kn16 := kn14.same S16
    have sta16 := sta.same S16
    -- of another language
    refine ⟨rfl, rfl, .ref pg, rfl, pg, _, 0, .ref pm, rfl, rfl, tup_of kn16.hg, rfl, by show 1 ≤ sizeLine; decide, fun pf npf => ?_⟩
    have e17 : (upd H16 pf (.tup [.str "further"])) pf = some (.tup [.str "further"]) := upd_same
    have s17 : Same H16 (upd H16 pf (.tup [.str "further"])) := same_new npf
    generalize upd H16 pf (.tup [.str "further"]) = H17 at *
    have kn17 := kn16.same s17
    have fok : langOk ms ["further"] = true := ok_of_parts (by rw [lg.cm]; omega) (by rw [canon1]; decide) (by rw [canon1]; decide) (by
      rw [canon1, lg.cm]
      intro z hz hm'
      rw [List.mem_singleton.mp hz] at hm'
      exact further_off (lg.wm _ hm'))
    refine ⟨pm, pf, ms, ["further"], rfl, tup_of kn17.hm, tup_of e17, nms, (fun z hz => by rw [List.mem_singleton.mp hz]; exact further_name), by omega, by decide, fok, fun lw H18 s18 nlw hlw => ?_⟩
    rw [lg.cm, canon1] at hlw
    have S18 := s17.trans s18
    have sib : SIn ms ["further"] (bareP ps) := by
      refine ⟨ndb, by rw [bareP_names]; exact sin.wd, fun p hp => ?_, by unfold bareP; rw [List.length_map]; exact lps⟩
      obtain ⟨p0, hp0, rfl⟩ := List.mem_map.mp hp
      have th := sin.th p0 hp0
      exact ⟨th.mm, (fun e he => nomatch he), th.l1, Nat.zero_le _⟩
    refine ⟨.ref pb, rfl, lw, pb, ms, ["further"], kb, bareP ps, rfl, hlw, S18 _ _ e16, (pr15.kq s16.kq).kq S18.kq, sib, fun x ux H19 s19 nx nux stx => ?_⟩
    have S19 := S18.trans s19
    have kn19 := kn16.same S19
    -- other values
    refine ⟨.ref t, rfl, .ref la, rfl, ?_⟩
    intro e1 ne1
    have f20 : (upd H19 e1 (.dK [])) e1 = some (.dK []) := upd_same
    have s20 : Same H19 (upd H19 e1 (.dK [])) := same_new ne1
    generalize upd H19 e1 (.dK []) = H20 at *
    refine ⟨Nat.zero_le _, fun e2 ne2 => ?_⟩
    have f21 : (upd H20 e2 (.tup [])) e2 = some (.tup []) := upd_same
    have s21 : Same H20 (upd H20 e2 (.tup [])) := same_new ne2
    generalize upd H20 e2 (.tup []) = H21 at *
    refine ⟨by show 6 ≤ sizeLine; decide, fun lo nlo => ?_⟩
    have f22 : (upd H21 lo (.lst [.non, .ref t, .str "a", .ref la, .ref e1, .ref e2])) lo = some (.lst [.non, .ref t, .str "a", .ref la, .ref e1, .ref e2]) := upd_same
    have s22 : Same H21 (upd H21 lo (.lst [.non, .ref t, .str "a", .ref la, .ref e1, .ref e2])) := same_new nlo
    generalize upd H21 lo (.lst [.non, .ref t, .str "a", .ref la, .ref e1, .ref e2]) = H22 at *
    refine ⟨_, _, rfl, ?_⟩
    have S22 : Same H19 H22 := s20.trans (s21.trans s22)
    have kn22 := kn19.same S22
    have sta22 := sta16.same (S19.trans S22)
    have stx22 := stx.same S22
    obtain ⟨dx, fs, ga⟩ := sta22.ins
    obtain ⟨dz, hs, gx⟩ := stx22.ins
    have NR22 : Nr d H H22 := NR14.trans (S16.trans (S19.trans S22)).nr
    refine ⟨.ref a, rfl, .ref x, rfl, a, dx, fs, .ref CM, rfl, ga, TyL.ins gx, Y.nM, a, la, u, ms, ks, normS ps, .ref x, rfl, sta22, .inr ⟨x, lw, ux, ms, ["further"], normS (bareP ps), rfl, stx22, _, rfl, _, rfl, ?_⟩⟩
    have kf : ¬ ks = [("further" : Str)] := fun e => further_off (lg.wk _ (by rw [e]; exact List.mem_singleton.mpr rfl))
    rw [if_pos rfl, decide_eq_false kf, Bool.and_false, Bool.false_and]
    refine ⟨.ref lo, rfl, lo, rfl, ⟨_, lst_of f22⟩, fun D2 nD2 => lc_on (h := fun x : V => x) (xs := [V.non, .ref t, .str "a", .ref la, .ref e1, .ref e2]) (by rw [List.map_id']; exact walk_list) rfl (fun _ => false) (fun x => x) nD2 (fun H5 s5 => lst_of (s5 _ _ f22)) (by show 6 < 100000; decide) (fun v hv H5 s5 Q' q' => ?_) (fun v hv c => by cases c) fun H23 s23 e23 => ?_⟩
    · have no : ∀ v ∈ [V.non, .ref t, .str "a", .ref la, .ref e1, .ref e2], ∃ tb, TyX K H5 v tb ∧ PySem.W.kitOne K tb (.ref CS) = some false ∧ PySem.W.notFirst K CM tb = true := by
        obtain ⟨dl, fl, gl⟩ := (kn22.hl.kq s5.kq).ins
        simp only [List.forall_mem_cons]
        exact ⟨⟨_, .base .non, Y.k0, Y.n0⟩, ⟨_, .base (.dK (s5 _ _ kn22.ht)), Y.k6, Y.n6⟩, ⟨_, .base (.str _), Y.k3, Y.n3⟩, ⟨_, .base (.ins gl L.cl I.ha I.hn I.ht I.hm), Y.kL, Y.nL⟩, ⟨_, .base (.dK (s5 _ _ (s22 _ _ (s21 _ _ f20)))), Y.k6, Y.n6⟩, ⟨_, .base (.tup (s5 _ _ (s22 _ _ f21))), Y.k5, Y.n5⟩, fun v hv => by cases hv⟩
      obtain ⟨tb, ty, kt, nf⟩ := no v hv
      exact ⟨.ref a, rfl, v, rfl, a, dx, fs, tb, rfl, s5 _ _ ga, ty, nf, a, la, u, ms, ks, normS ps, v, rfl, sta22.same s5, .inl ⟨⟨tb, ty, kt⟩, false, rfl, _, rfl, q' H5 (Same.refl H5)⟩⟩
    · exact cmp_nil (xs := []) false (lst_of e23) (fun x hx => by cases hx) fun H24 s24 => q H24 (NR22.trans (s23.trans s24).nr) (kn22.dc.same (s23.trans s24))
end
end Tf

/-! bool(o), o with an own __len__ and no __bool__ -/
namespace PySem
namespace TfO
open PySem.W PySem.Calls PyProof.Rows
section
variable {prog : Program} {w : World} {A : Around} {E : Value → Shared → Prop} {s : Shared} {K : Frag} {x C f : Addr} {ox : Obj} {od : Option Obj}
theorem len_own {Q : Value → Shared → Prop} (X : K.In s.heap) (I : InstAt s.heap x ox C od) (hs : findIn K (.ref C) "__len__" = some (some (.ref f))) (hf : isFn K (.ref f) = true)
    (h : wpAny (model prog w) A (call (.ref f) [.ref x]) (fun v s' => ∃ n t, v = .int n t ∧ 0 ≤ n ∧ n < 2 ^ 63 ∧ ∀ tk, Q (.int n tk) { s' with toks := s'.toks + 1 }) E s) : wpAny (model prog w) A (Builtin.«len» ⟨[.ref x], []⟩) (fun fin s' => ∃ r, fin = .done (.ret r) ∧ Q r s') E s := by
  unfold Builtin.«len»
  refine wpAny_bind (m := oneArg "len" _) (wpAny_pure ?_)
  have two : wpAny (model prog w) A (callSpecial? (.ref x) (Str.ofString "__len__")) (fun o s' => ∃ n t, o = some (.int n t) ∧ 0 ≤ n ∧ n < 2 ^ 63 ∧ ∀ tk, Q (.int n tk) { s' with toks := s'.toks + 1 }) E s := special_fn X I hs (beq_iff_eq.mp hf) (wpAny_mono h (fun r s' ⟨n, t, e, z⟩ => ⟨n, t, by rw [e], z⟩) fun _ _ y => y)
  refine wpAny_bind (wpAny_mono two (fun o s' z => ?_) fun _ _ y => y)
  obtain ⟨n, t, rfl, h0, h1, hq⟩ := z
  refine wpAny_bind (wpAny_holding (wpAny_pure (wpAny_bind (wpAny_letGo ?_))))
  show wpAny _ _ (ite (n < 0) _ _) _ _ _
  rw [if_neg (Int.not_lt.mpr h0)]
  show wpAny _ _ (ite (n ≥ 2 ^ 63) _ _) _ _ _
  rw [if_neg (Int.not_le.mpr h1)]
  exact wpAny_bind (wpAny_mkInt (wpAny_pure ⟨_, rfl, hq _⟩))
theorem truthy_own {Q : Bool → Shared → Prop} (X : K.In s.heap) (I : InstAt s.heap x ox C od) (hb : findIn K (.ref C) "__bool__" = some none) (hs : findIn K (.ref C) "__len__" = some (some (.ref f))) (hf : isFn K (.ref f) = true)
    (h : wpAny (model prog w) A.in1 (call (.ref f) [.ref x]) (fun v s' => ∃ n t, v = .int n t ∧ 0 ≤ n ∧ n < 2 ^ 63 ∧ Q (n != 0) { s' with toks := s'.toks + 1 }) E s) : wpAny (model prog w) A (truthy (.ref x)) Q E s := by
  have key : wpAny (model prog w) A (runValue (.builtin "len" ⟨[.ref x], []⟩)) (fun r s' => ∃ n t, r = .int n t ∧ Q (n != 0) s') E s := by
    refine wpAny_runValue (codeAny_builtin entry_len ?_)
    rw [Around.under_plainId plain_len _]
    refine wpAny_mono (len_own (Q := fun r s' => ∃ n t, r = .int n t ∧ Q (n != 0) s') X I hs hf (wpAny_mono h (fun v s' ⟨n, t, e, h0, h1, z⟩ => ⟨n, t, e, h0, h1, fun tk => ⟨n, tk, rfl, z⟩⟩) fun _ _ y => y)) (fun fin s' z => ?_) fun _ _ y => y
    obtain ⟨r, rfl, z⟩ := z
    exact z
  have no : ∀ {R : Option Value → Shared → Prop}, R none s → wpAny (model prog w) A (callSpecial? (.ref x) (Str.ofString "__bool__")) R E s := fun r => by
    refine wpAny_bind (wpAny_bind (I.type.here ((looks_findIn X hb).here (wpAny_pure r))))
  have sp : ∀ {R : Option Value → Shared → Prop}, R (some (.ref f)) s → wpAny (model prog w) A (specialOf (.ref x) "__len__") R E s := fun r => by
    unfold specialOf
    exact wpAny_bind (I.type.here ((looks_findIn X hs).here r))
  unfold truthy
  first
    | refine wpAny_bind (no ?_)
    | refine wpAny_bind (wpAny_pure (wpAny_bind (no ?_)))
  first
    | refine wpAny_bind (sp ?_)
    | refine wpAny_bind (wpAny_pure (wpAny_bind (sp ?_)))
  have fin : ∀ {t : Value → Sem Bool}, (∀ n k, t (.int n k) = pure (n != 0)) → wpAny (model prog w) A (runValue (.builtin "len" ⟨[.ref x], []⟩) >>= t) Q E s := fun ht => by
    refine wpAny_bind (wpAny_mono key (fun r s' z => ?_) fun _ _ y => y)
    obtain ⟨n, k, rfl, z⟩ := z
    rw [ht]
    exact wpAny_pure z
  first
    | exact fin fun n k => rfl
    | exact wpAny_bind (wpAny_pure (fin fun n k => rfl))
theorem bool_own {Q : Value → Shared → Prop} (X : K.In s.heap) (I : InstAt s.heap x ox C od) (hb : findIn K (.ref C) "__bool__" = some none) (hs : findIn K (.ref C) "__len__" = some (some (.ref f))) (hf : isFn K (.ref f) = true)
    (h : wpAny (model prog w) A.in1.in1.in1 (call (.ref f) [.ref x]) (fun v s' => ∃ n t, v = .int n t ∧ 0 ≤ n ∧ n < 2 ^ 63 ∧ Q (.bool (n != 0)) { s' with toks := s'.toks + 1 }) E s) : wpAny (model prog w) A (call (.type "bool") [.ref x]) Q E s := by
  refine callType_codes (T := "bool") (Bi := Builtin.«object.__init__») (Q₁ := fun r s₁ => ∃ b, r = .bool b ∧ Q r s₁) PySem.F.called_bool (PySem.F.typeCall_bool_1 _) PySem.F.entry_object_init ?_ ?_
  · refine codeAny_of_tree ?_
    show wpAny _ A.in1.in1 (do checkBuiltinCall "bool.__new__" ⟨[.type "bool", .ref x], []⟩; again (.builtin "bool.__new__" ⟨[.type "bool", .ref x], []⟩)) _ _ s
    refine wpAny_bind (wpAny_of_eq (PySem.F.newCall_bool_1 _) (wpAny_pure ⟨plainId_quiet (by decide +kernel) _, codeAny_builtin PySem.F.entry_bool_new ?_⟩))
    rw [Around.under_plainId (by decide +kernel) _]
    unfold Builtin.«bool.__new__»
    have tr := truthy_own (A := A.in1.in1) (Q := fun b s₁ => Q (.bool b) s₁) X I hb hs hf h
    refine wpAny_bind (wpAny_of_eq (show isType (.type "bool") = pure true from rfl) ?_)
    refine wpAny_bind (wpAny_of_eq PySem.F.conv_sub_bool ?_)
    refine wpAny_bind (wpAny_of_eq (show someArgs "bool" 0 1 _ = pure [Value.ref x] from rfl) ?_)
    exact wpAny_bind (wpAny_mono tr (fun b s₁ z => wpAny_pure ⟨b, rfl, z⟩) fun _ _ y => y)
  · rintro obj s₁ ⟨b, rfl, hq⟩
    exact ⟨typeIs_bool _ _, PySem.F.args_object_init_2 _ _, object_init_meets PySem.F.called_bool.init.lookup PySem.F.called_bool.made (by decide) prog w A.in1 _ s₁ ⟨typeIs_bool _ _, rfl, hq⟩⟩
end
end TfO
end PySem
namespace L2
open PySem PySem.Spec PyProof.Rows
section
variable {X : Cx} {CX : CXT} {k : Nat} {f C : Addr} {sp : Sp} {E : XK}
theorem sub3 (hr : Room (k + 3) X.A) : Sub X k X.A.in1.in1.in1 := ⟨hr.in1.in1.in1, rfl⟩
/-- bool(o) -/
def rBoolO (C : Addr) (sp : Sp) (E : XK) : List V → Hp → VK → Prop := fun xs H Q => ∃ a dx fs, xs = [.ref a] ∧ H a = some (.ins C dx fs) ∧ sp [.ref a] H (fun v H' => ∃ n : Int, v = .int n ∧ 0 ≤ n ∧ n < 2 ^ 63 ∧ Q (.bl (n != 0)) H') E
theorem call_boolO (o : OwnM X.K C "__len__" f) (hb : PySem.W.findIn X.K (.ref C) "__bool__" = some none) (F : FnR X.prog X.w X.K X.mg X.base CX k f sp) (hr : Room (k + 3) X.A) (hx : Passes CX X E) : CallR X (.type "bool") (rBoolO C sp E) := by
  intro pins s σ H xs us Q I r h
  obtain ⟨a, dx, fs, rfl, ha, h⟩ := h
  cases r with
  | cons ra rn =>
    cases rn
    cases ra
    obtain ⟨ox, od, J⟩ := ins_at I ha
    refine PySem.TfO.bool_own I.kIn J hb o.at_ o.fn (wpAny_mono (run_sub F (sub3 hr) hx I (vs := [.ref a]) (.cons rfl .nil) h) (fun v s' q => ?_) fun _ _ z => z)
    obtain ⟨v', H', I', rv, n, rfl, h0, h1, q⟩ := q
    obtain ⟨t, rfl⟩ := rv
    exact ⟨n, t, rfl, h0, h1, .bl (n != 0), H', I'.tok _, rfl, q⟩
end
end L2

/-! the law -/
namespace L2
open PySem PySem.Spec PyProof.Rows PySem.W
section
variable {X : Cx} {k : Nat} {C D : Addr} {sp : Sp}
theorem op_neRN (F : OwN X.prog X.w X.K X.mg X.base k D "__eq__" sp) (hD : D ≠ C) (hsub : PySem.W.subIn X.K (.ref D) (.ref C) = some true) (hne : PySem.W.findIn X.K (.ref D) "__ne__" = some (some (.builtin "object.__ne__"))) (hm : PySem.W.mroIn X.K D (.type "object") = some true) (hr : Room (k + 1) X.A) : OpR X (compareOp .NotEq) (rNeR C D sp E0) := by
  obtain ⟨f, G, o⟩ := F
  exact op_neR o hD hsub hne hm G hr pass0
theorem call_boolN (F : OwN X.prog X.w X.K X.mg X.base k C "__len__" sp) (hb : PySem.W.findIn X.K (.ref C) "__bool__" = some none) (hr : Room (k + 3) X.A) : CallR X (.type "bool") (rBoolO C sp E0) := by
  obtain ⟨f, G, o⟩ := F
  exact call_boolO o hb G hr pass0
end
end L2
namespace Tf
open PySem PySem.Spec PyProof.Rows L2 PySem.W
abbrev sLaw4 : Stmt := top 43
abbrev nLaw4 : List Str := ["_law_script", "_law_spot", "_law_dice_here", "_law_turn", "_law_shop", "_law_one", "_law_two", "_law_made", "_law_named", "_law_bare"]
theorem scLaw4 : FnScope nLaw4 ["_law_script"] (defScope sLaw4) := ⟨rfl, rfl, rfl, by decide +kernel, rfl, by decide +kernel, by decide +kernel⟩
def spLaw4 (K : PySem.W.Frag) : Sp := fun vs H Q _ => ∃ (a : Addr) (ns : List Int), vs = [.ref a] ∧ SqL K H a (ns.map V.int) ∧ ns.length ≤ 63 ∧ ∀ H', Q (.bl true) H'
theorem sql_keep {K : PySem.W.Frag} {H H1 H2 : Hp} {a d : Addr} {xs : List V} (h : SqL K H a xs) (nd : H d = none) (s : Same H H1) (n : Nr d H1 H2) : SqL K H2 a xs := by
  rcases h with (h | ⟨o, h⟩) | h
  · exact .inl (.inl (n _ _ (ne_of_none h nd) (s _ _ h)))
  · exact .inl (.inr ⟨o, n _ _ (ne_of_none h nd) (s _ _ h)⟩)
  · exact .inr h
/-- what is known of stores made by Store(..) -/
structure SOwn (P : Program) (w : World) (K : PySem.W.Frag) (mg : Str → Option Value) (base : Heap) (k : Nat) (CL C : Addr) : Prop where
  S : SCls K C
  pn : PpN P w K mg base (k + 1) C "names" (spSnm CL C)
  le : OwN P w K mg base (k + 1) C "__len__" (spSle CL C)
  st : OwN P w K mg base k C "__str__" (spSst CL C)
  nb : PySem.W.findIn K (.ref C) "__bool__" = some none
structure Below (K : PySem.W.Frag) (CS CM : Addr) : Prop where
  ne : CM ≠ CS
  sub : PySem.W.subIn K (.ref CM) (.ref CS) = some true
/-! the written stores -/
def shM : List Str := ["new", "paid"]
def shK : List Str := ["by", "of"]
theorem shM_c : canon shM = shM := canon_self (by decide +kernel) (by decide +kernel)
theorem shK_c : canon shK = shK := canon_self (by decide +kernel) (by decide +kernel)
theorem shop_ok : langOk shM shK = true := ok_of_parts (by rw [shM_c]; decide) (by rw [shK_c]; decide) (by rw [shK_c]; decide) (by rw [shM_c, shK_c]; decide +kernel)
def onP : Pr := (Tup.mk ["new", "new"], Tup.mk [])
def twP : Pr := (Tup.mk [], Tup.mk [("of", "ann"), ("by", "bob"), ("of", "ann")])
def onN : Pr := (Tup.mk ["new"], Tup.mk [])
def twN : Pr := (Tup.mk [], Tup.mk [("by", "bob"), ("of", "ann")])
def psA : Ps := [("bob", twP), ("ann", onP)]
def psN : Ps := [("ann", onN), ("bob", twN)]
def seP : Pr := (Tup.mk [], Tup.mk [("by", "language")])
def laP : Pr := (Tup.mk ["paid"], Tup.mk [])
def psS : Ps := [("self", seP), ("language", laP)]
abbrev wNew : Str := "new"
abbrev wPaid : Str := "paid"
abbrev wBy : Str := "by"
abbrev wOf : Str := "of"
abbrev wAnn : Str := "ann"
abbrev wBob : Str := "bob"
abbrev wSelf : Str := "self"
abbrev wLanguage : Str := "language"
theorem canon_nil : canon ([] : List Str) = [] := canon_self (by simp) (by simp)
theorem setO_nil : setO ([] : List (Str × Str)) = [] := setO_self (by simp) (by simp)
theorem canon_on : canon [wNew, wNew] = [wNew] := by
  rw [show canon [wNew, wNew] = canon [wNew] from L2.canon_congr (by simp)]
  exact canon1 _
theorem setO_tw : setO ([(wOf, wAnn), (wBy, wBob), (wOf, wAnn)] : List (Str × Str)) = [(wBy, wBob), (wOf, wAnn)] := by
  refine (setO_is (by decide +kernel) (fun z => ?_) (by decide +kernel)).symm
  simp only [List.mem_cons, List.not_mem_nil, or_false]
  constructor
  · rintro (h | h)
    · exact .inr (.inl h)
    · exact .inl h
  · rintro (h | h | h)
    · exact .inr h
    · exact .inl h
    · exact .inr h
theorem setO_twN : setO ([(wBy, wBob), (wOf, wAnn)] : List (Str × Str)) = [(wBy, wBob), (wOf, wAnn)] := setO_self (by decide +kernel) (by decide +kernel)
theorem setO_se : setO ([(wBy, wLanguage)] : List (Str × Str)) = [(wBy, wLanguage)] := setO_self (by simp) (by simp)
theorem canon_ab : canon [wBob, wAnn] = [wAnn, wBob] := by
  rw [show canon [wBob, wAnn] = canon [wAnn, wBob] from L2.canon_congr (by simp only [List.mem_cons, List.not_mem_nil, or_false]; exact fun z => Or.comm)]
  exact canon_self (by decide +kernel) (by decide +kernel)
theorem canon_ab' : canon [wAnn, wBob] = [wAnn, wBob] := canon_self (by decide +kernel) (by decide +kernel)
theorem canon_sl : canon [wSelf, wLanguage] = [wLanguage, wSelf] := by
  rw [show canon [wSelf, wLanguage] = canon [wLanguage, wSelf] from L2.canon_congr (by simp only [List.mem_cons, List.not_mem_nil, or_false]; exact fun z => Or.comm)]
  exact canon_self (by decide +kernel) (by decide +kernel)
theorem normA : normS psA = psN := by
  unfold normS
  rw [show psA.map (·.1) = [wBob, wAnn] from rfl, canon_ab]
  show [(wAnn, normP onP), (wBob, normP twP)] = psN
  unfold normP onP twP
  dsimp only
  rw [canon_on, canon_nil, setO_nil, setO_tw]
  rfl
theorem normN : normS psN = psN := by
  unfold normS
  rw [show psN.map (·.1) = [wAnn, wBob] from rfl, canon_ab']
  show [(wAnn, normP onN), (wBob, normP twN)] = psN
  unfold normP onN twN
  dsimp only
  rw [canon1, canon_nil, setO_nil, setO_twN]
  rfl
theorem normSl : normS psS = [(wLanguage, laP), (wSelf, seP)] := by
  unfold normS
  rw [show psS.map (·.1) = [wSelf, wLanguage] from rfl, canon_sl]
  show [(wLanguage, normP laP), (wSelf, normP seP)] = _
  unfold normP laP seP
  dsimp only
  rw [canon1, canon_nil, setO_nil, setO_se]
theorem sinA : SIn shM shK psA := ⟨by decide +kernel, by decide +kernel, fun p hp => by
  rcases List.mem_cons.mp hp with rfl | hp
  · exact ⟨by decide +kernel, by decide +kernel, by decide, by decide⟩
  · rw [List.mem_singleton.mp hp]
    exact ⟨by decide +kernel, by decide +kernel, by decide, by decide⟩, by decide⟩
theorem sinN : SIn shM shK psN := ⟨by decide +kernel, by decide +kernel, fun p hp => by
  rcases List.mem_cons.mp hp with rfl | hp
  · exact ⟨by decide +kernel, by decide +kernel, by decide, by decide⟩
  · rw [List.mem_singleton.mp hp]
    exact ⟨by decide +kernel, by decide +kernel, by decide, by decide⟩, by decide⟩
theorem sinS : SIn shM shK psS := ⟨by decide +kernel, by decide +kernel, fun p hp => by
  rcases List.mem_cons.mp hp with rfl | hp
  · exact ⟨by decide +kernel, by decide +kernel, by decide, by decide⟩
  · rw [List.mem_singleton.mp hp]
    exact ⟨by decide +kernel, by decide +kernel, by decide, by decide⟩, by decide⟩
theorem same_N : sameD psN psN = true := by decide +kernel
theorem text_N : storeText 2 2 = ("store of 2 things, 2 links" : Str) := by decide +kernel
section
variable {P : Program} {w : World} {K : PySem.W.Frag} {mg : Str → Option Value} {base : Heap}
theorem ok_law4 {f fI CL CS CM : Addr} {fd : FuncData} {k : Nat} (F : Fun K "law" "law" sLaw4 f fd) (GDi : CdN P w K mg base (k + 4) "_law_dice" ["_law_script", "_law_spot"] (spDice K)) (GRi : CdN P w K mg base (k + 4) "_law_right" ["_law_dice_here"] spRt4)
    (LO : CmN P w K mg base (k + 3) CL "of" (spLof K CL)) (SO : CmN P w K mg base (k + 3) CS "of" (spSof CL CS CM)) (gL : mg "Language" = some (.ref CL)) (gS : mg "Store" = some (.ref CS))
    (MS : Mk K CS fI) (I2 : FnA P w K mg base CX0 (k + 3) fI ["bob", "ann"] (spSin2 CL CS "bob" "ann")) (I0 : FnR P w K mg base CX0 (k + 3) fI (spSin0 CL CS)) (TS : SOwn P w K mg base k CL CS) (TM : SAll P w K mg base k CL CM)
    (ES : OwN P w K mg base (k + 2) CM "__eq__" (spSeq K CL CS CM CS)) (NM : NeO K CM) (YD : Below K CS CM)
    (mRg : mg "range" = none) (mMx : mg "max" = none) (mMn : mg "min" = none) (mN : mg "len" = none) (mR : mg "str" = none) (mB : mg "bool" = none) : FnOk P w K mg base CX0 (k + 5) f fd ["_law_script"] (spLaw4 K) := by
  refine F.ok scLaw4 (fun vs H Q E h => ?_) (fun cdv A outer s H vs Q E hr h => ?_)
  · obtain ⟨a, ns, rfl, _⟩ := h
    rfl
  · obtain ⟨a, ns, rfl, hS, hl, q⟩ := h
    have hu64 : (A.deeper (envOfC "law" (defScope sLaw4) s.heap.objs.size f cdv)).units + 64 < cLine := by have := hr.un; omega
    have hr3 : Room (k + 3) (A.deeper (envOfC "law" (defScope sLaw4) s.heap.objs.size f cdv)) := hr.mono (by omega)
    have hr2 : Room (k + 2) (A.deeper (envOfC "law" (defScope sLaw4) s.heap.objs.size f cdv)) := hr.mono (by omega)
    refine ⟨_, pss_cons (ps_for PassesOwn.never rfl (pi_range1 rfl mRg (pa_cons (pe_callB (call_max2 rfl) (by rfl) mMx (by decide +kernel) (pa_cons pe_int (pa_cons (pe_callB (call_min2 rfl) (by rfl) mMn (by decide +kernel) (pa_cons pe_int (pa_cons (pe_callB call_lenS (by rfl) mN PySem.boot_len (pa_cons (pv 0) pa_nil)) pa_nil))) pa_nil))) pa_nil)) (pg_name (i := 1) scLaw4.nd rfl (Or.inl rfl))
        (pss_cons (ps_set (i := 2) scLaw4.nd rfl (.inl rfl) (pe_cdn GDi hr (pa_cons (pv 0) (pa_cons (pv 1) pa_nil))))
        (pss_one (ps_for PassesOwn.never rfl (pi_range1 rfl mRg (pa_cons pe_int pa_nil)) (pg_name (i := 3) scLaw4.nd rfl (Or.inl rfl))
          (pss_one (ps_if (pt_not (pt_val (pe_cdn GRi hr (pa_cons (pv 2) pa_nil)))) (pss_one (ps_ret pe_bl)) pss_nil))))))
      (pss_cons (ps_set (i := 4) scLaw4.nd rfl (.inl rfl) (pe_cmn LO hr3 (pe_glob (v := .ref CL) rfl gL rfl) (pa_cons (pe_tup (pa_cons pe_str (pa_cons pe_str pa_nil))) (pa_cons (pe_tup (pa_cons pe_str (pa_cons pe_str pa_nil))) pa_nil))))
      (pss_cons (ps_asg (pe_tup (pa_cons (pe_tup (pa_cons (pe_tup (pa_cons pe_str (pa_cons pe_str pa_nil))) (pa_cons (pe_tup pa_nil) pa_nil))) (pa_cons (pe_tup (pa_cons (pe_tup pa_nil) (pa_cons (pe_tup (pa_cons (pe_tup (pa_cons pe_str (pa_cons pe_str pa_nil))) (pa_cons (pe_tup (pa_cons pe_str (pa_cons pe_str pa_nil))) (pa_cons (pe_tup (pa_cons pe_str (pa_cons pe_str pa_nil))) pa_nil)))) pa_nil))) pa_nil))) (pg_tup (by rfl) (pgs_cons (pg_name (i := 5) scLaw4.nd rfl (.inl rfl)) (pgs_cons (pg_name (i := 6) scLaw4.nd rfl (.inl rfl)) pgs_nil))))
      (pss_cons (ps_set (i := 7) scLaw4.nd rfl (.inl rfl) (pe_makeA2 (E := E0) MS I2 hr (by rfl) gS pass0 (pa_cons (pv 4) pa_nil) (pk_cons (pv 6) (pk_cons (pv 5) pk_nil))))
      (pss_cons (ps_if (pt_cmpR (op_neRN ES YD.ne YD.sub NM.ne NM.mo hr3) (pv 7) (pe_cmn SO hr3 (pe_glob (v := .ref CS) rfl gS rfl) (pa_cons (pv 4) (pa_cons (pe_disp (pps_cons pe_str (pe_tup (pa_cons (pe_tup (pa_cons pe_str pa_nil)) (pa_cons (pe_tup pa_nil) pa_nil))) (pps_cons pe_str (pe_tup (pa_cons (pe_tup pa_nil) (pa_cons (pe_tup (pa_cons (pe_tup (pa_cons pe_str (pa_cons pe_str pa_nil))) (pa_cons (pe_tup (pa_cons pe_str (pa_cons pe_str pa_nil))) pa_nil))) pa_nil))) pps_nil)) (by rfl) (by rfl) (fun z => by cases z) (by decide)) pa_nil))) (nomark _)) (pss_one (ps_ret pe_bl)) pss_nil)
      (pss_cons (ps_set (i := 8) scLaw4.nd rfl (.inl rfl) (pe_cmn SO hr3 (pe_glob (v := .ref CS) rfl gS rfl) (pa_cons (pv 4) (pa_cons (pe_disp (pps_cons pe_str (pe_tup (pa_cons (pe_tup pa_nil) (pa_cons (pe_tup (pa_cons (pe_tup (pa_cons pe_str (pa_cons pe_str pa_nil))) pa_nil)) pa_nil))) (pps_cons pe_str (pe_tup (pa_cons (pe_tup (pa_cons pe_str pa_nil)) (pa_cons (pe_tup pa_nil) pa_nil))) pps_nil)) (by rfl) (by rfl) (fun z => by cases z) (by decide)) pa_nil))))
      (pss_cons (ps_if (pt_cmpR op_ne (pe_callTy (call_strN TS.st hr2) (by rfl) mR (by decide +kernel) (pa_cons (pv 7) pa_nil)) pe_str (nomark _)) (pss_one (ps_ret pe_bl)) pss_nil)
      (pss_cons (ps_set (i := 9) scLaw4.nd rfl (.inl rfl) (StX.pe_makeR (E := E0) MS I0 hr (by rfl) gS pass0 (pa_cons (pv 4) pa_nil)))
      (pss_one (ps_ret (pe_cmpR (op_eqP hu64) (pe_lst (pa_cons (pe_callB (call_lenN TS.le hr2) (by rfl) mN PySem.boot_len (pa_cons (pv 9) pa_nil)) (pa_cons (pe_ppn TS.S.cl TS.pn hr2 (pv 9)) (pa_cons (pe_callTy (call_boolN TS.le TS.nb hr) (by rfl) mB (by decide +kernel) (pa_cons (pv 9) pa_nil)) (pa_cons (pe_mtn TM.S.cl TM.en hr2 (pv 8) (pa_cons pe_str (pa_cons pe_str pa_nil))) pa_nil))))) (pe_lst (pa_cons pe_int (pa_cons (pe_tup pa_nil) (pa_cons pe_bl (pa_cons (pe_tup (pa_cons pe_str pa_nil)) pa_nil))))) (nomark _))))))))))), ?_⟩
    -- the draws
    refine ⟨.ref a, rfl, a, _, rfl, .inl hS, 6, _, rfl, 1, _, rfl, ?_⟩
    obtain ⟨N, eN⟩ : ∃ N : Int, N = (if (if ((ns.map V.int).length : Int) < 6 then ((ns.map V.int).length : Int) else 6) > 1 then (if ((ns.map V.int).length : Int) < 6 then ((ns.map V.int).length : Int) else 6) else 1) := ⟨_, rfl⟩
    rw [← eN]
    have n1 : 1 ≤ N ∧ N ≤ 6 := by
      rw [eN]
      split <;> split <;> omega
    refine ⟨N, rfl, by omega, by omega, for_range (n := N.toNat) (fun i σ H' => ∃ o1 o2 o3 : Option V, σ = [some (.ref a), o1, o2, o3, none, none, none, none, none, none] ∧ SqL K H' a (ns.map V.int)) ⟨none, none, none, rfl, hS⟩ ?_ ?_⟩
    · rintro i σ H1 hi ⟨o1, o2, o3, rfl, hS1⟩
      refine ⟨.ref a, rfl, _, rfl, a, ns, _, rfl, hS1, by omega, by omega, fun d H2 s2 nd dc => ?_⟩
      refine ⟨3, rfl, by decide, by decide, for_range (n := 3) (fun j σ H' => ∃ o3 : Option V, σ = [some (.ref a), some (.int (0 + (i : Int))), some (.ref d), o3, none, none, none, none, none, none] ∧ Nr d H2 H' ∧ Dice H' d) ⟨_, rfl, Nr.refl d H2, dc⟩ ?_ ?_⟩
      · rintro j σ H3 hj ⟨o3, rfl, nr3, dc3⟩
        exact ⟨.ref d, rfl, d, rfl, dc3, fun H4 nr4 dc4 => ⟨true, rfl, iteF ⟨_, rfl, nr3.trans nr4, dc4⟩⟩⟩
      · rintro σ H3 ⟨o3, rfl, nr3, dc3⟩
        exact ⟨_, _, _, rfl, sql_keep hS1 nd s2 nr3⟩
    rintro σ H1 ⟨o1, o2, o3, rfl, hS1⟩
    clear hS1 hS eN n1
    -- the shop
    refine ⟨rfl, by show 2 ≤ sizeLine; decide, fun t1 m1 => ?_⟩
    have e2 : (upd H1 t1 (.tup [.str "new", .str "paid"])) t1 = some (.tup [.str "new", .str "paid"]) := upd_same
    have s2 : Same H1 (upd H1 t1 (.tup [.str "new", .str "paid"])) := same_new m1
    generalize upd H1 t1 (.tup [.str "new", .str "paid"]) = H2 at *
    refine ⟨by show 2 ≤ sizeLine; decide, fun t2 m2 => ?_⟩
    have e3 : (upd H2 t2 (.tup [.str "by", .str "of"])) t2 = some (.tup [.str "by", .str "of"]) := upd_same
    have s3 : Same H2 (upd H2 t2 (.tup [.str "by", .str "of"])) := same_new m2
    generalize upd H2 t2 (.tup [.str "by", .str "of"]) = H3 at *
    refine ⟨t1, t2, shM, shK, rfl, tup_of (s3 _ _ e2), tup_of e3, by unfold Nms; decide +kernel, by unfold Nms; decide +kernel, by decide, by decide, shop_ok, fun la H4 s4 nla hla => ?_⟩
    rw [shM_c, shK_c] at hla
    clear e2 e3 s2 s3 s4 nla m1 m2
    -- one and two
    refine ⟨by show 2 ≤ sizeLine; decide, fun a1 b1 => ?_⟩
    have f1 : (upd H4 a1 (.tup [.str "new", .str "new"])) a1 = some (.tup [.str "new", .str "new"]) := upd_same
    have c1 : Same H4 (upd H4 a1 (.tup [.str "new", .str "new"])) := same_new b1
    generalize upd H4 a1 (.tup [.str "new", .str "new"]) = K1 at *
    refine ⟨Nat.zero_le _, fun a2 b2 => ?_⟩
    have f2 : (upd K1 a2 (.tup [])) a2 = some (.tup []) := upd_same
    have c2 : Same K1 (upd K1 a2 (.tup [])) := same_new b2
    generalize upd K1 a2 (.tup []) = K2 at *
    refine ⟨by show 2 ≤ sizeLine; decide, fun a3 b3 => ?_⟩
    have f3 : (upd K2 a3 (.tup [.ref a1, .ref a2])) a3 = some (.tup [.ref a1, .ref a2]) := upd_same
    have c3 : Same K2 (upd K2 a3 (.tup [.ref a1, .ref a2])) := same_new b3
    generalize upd K2 a3 (.tup [.ref a1, .ref a2]) = K3 at *
    have S3 : Same H4 K3 := c1.trans (c2.trans c3)
    have on : Tt K3 (.ref a3) onP := tt_pair f3 (tt_tup (c3 _ _ (c2 _ _ f1)) (tts_strs ["new", "new"])) (tt_tup (xs := ([] : List (Str × Str))) (c3 _ _ f2) .nil)
    clear f1 f2 f3 c1 c2 c3
    refine ⟨Nat.zero_le _, fun a4 b4 => ?_⟩
    have f4 : (upd K3 a4 (.tup [])) a4 = some (.tup []) := upd_same
    have c4 : Same K3 (upd K3 a4 (.tup [])) := same_new b4
    generalize upd K3 a4 (.tup []) = K4 at *
    refine ⟨by show 2 ≤ sizeLine; decide, fun a5 b5 => ?_⟩
    have f5 : (upd K4 a5 (.tup [.str "of", .str "ann"])) a5 = some (.tup [.str "of", .str "ann"]) := upd_same
    have c5 : Same K4 (upd K4 a5 (.tup [.str "of", .str "ann"])) := same_new b5
    generalize upd K4 a5 (.tup [.str "of", .str "ann"]) = K5 at *
    refine ⟨by show 2 ≤ sizeLine; decide, fun a6 b6 => ?_⟩
    have f6 : (upd K5 a6 (.tup [.str "by", .str "bob"])) a6 = some (.tup [.str "by", .str "bob"]) := upd_same
    have c6 : Same K5 (upd K5 a6 (.tup [.str "by", .str "bob"])) := same_new b6
    generalize upd K5 a6 (.tup [.str "by", .str "bob"]) = K6 at *
    refine ⟨by show 2 ≤ sizeLine; decide, fun a7 b7 => ?_⟩
    have f7 : (upd K6 a7 (.tup [.str "of", .str "ann"])) a7 = some (.tup [.str "of", .str "ann"]) := upd_same
    have c7 : Same K6 (upd K6 a7 (.tup [.str "of", .str "ann"])) := same_new b7
    generalize upd K6 a7 (.tup [.str "of", .str "ann"]) = K7 at *
    refine ⟨by show 3 ≤ sizeLine; decide, fun a8 b8 => ?_⟩
    have f8 : (upd K7 a8 (.tup [.ref a5, .ref a6, .ref a7])) a8 = some (.tup [.ref a5, .ref a6, .ref a7]) := upd_same
    have c8 : Same K7 (upd K7 a8 (.tup [.ref a5, .ref a6, .ref a7])) := same_new b8
    generalize upd K7 a8 (.tup [.ref a5, .ref a6, .ref a7]) = K8 at *
    refine ⟨by show 2 ≤ sizeLine; decide, fun a9 b9 => ?_⟩
    have f9 : (upd K8 a9 (.tup [.ref a4, .ref a8])) a9 = some (.tup [.ref a4, .ref a8]) := upd_same
    have c9 : Same K8 (upd K8 a9 (.tup [.ref a4, .ref a8])) := same_new b9
    generalize upd K8 a9 (.tup [.ref a4, .ref a8]) = K9 at *
    have two : Tt K9 (.ref a9) twP := by
      have p5 : Tt K9 (.ref a5) (("of" : Str), ("ann" : Str)) := tt_pair (c9 _ _ (c8 _ _ (c7 _ _ (c6 _ _ f5)))) tt_str tt_str
      have p6 : Tt K9 (.ref a6) (("by" : Str), ("bob" : Str)) := tt_pair (c9 _ _ (c8 _ _ (c7 _ _ f6))) tt_str tt_str
      have p7 : Tt K9 (.ref a7) (("of" : Str), ("ann" : Str)) := tt_pair (c9 _ _ (c8 _ _ f7)) tt_str tt_str
      exact tt_pair f9 (tt_tup (c9 _ _ (c8 _ _ (c7 _ _ (c6 _ _ (c5 _ _ f4))))) (tts_strs [])) (tt_tup (c9 _ _ f8) (.cons p5 (.cons p6 (.cons p7 .nil))))
    have S9 : Same K3 K9 := c4.trans (c5.trans (c6.trans (c7.trans (c8.trans c9))))
    clear f4 f5 f6 f7 f8 f9 c4 c5 c6 c7 c8 c9
    refine ⟨by show 2 ≤ sizeLine; decide, fun aa ba => ?_⟩
    have fa : (upd K9 aa (.tup [.ref a3, .ref a9])) aa = some (.tup [.ref a3, .ref a9]) := upd_same
    have ca : Same K9 (upd K9 aa (.tup [.ref a3, .ref a9])) := same_new ba
    generalize upd K9 aa (.tup [.ref a3, .ref a9]) = Ka at *
    refine ⟨aa, _, rfl, tup_of fa, rfl, _, _, rfl, _, _, rfl, rfl, ?_⟩
    have hla1 := hla.kq (S3.trans (S9.trans ca)).kq
    have on1 := (on.kq S9.kq).kq ca.kq
    have two1 := two.kq ca.kq
    clear fa hla on two S3 S9 ca b1 b2 b3 b4 b5 b6 b7 b8 b9 ba
    -- made
    refine ⟨.ref la, rfl, .ref a9, rfl, .ref a3, rfl, fun x dx nx ndx nxd => ⟨Ka, x, dx, la, .ref a9, .ref a3, twP, onP, shM, shK, rfl, rfl, rfl, nx, ndx, nxd, hla1, two1, on1, sinA, fun u H5 s5 nu st5 => ⟨rfl, ?_⟩⟩⟩
    have st5' : StoreAt CL CS H5 x la u shM shK psN := by rw [← normA]; exact st5
    have hla5 := hla1.kq s5.kq
    clear st5 on1 two1 hla1
    -- as it is due
    refine ⟨.ref x, rfl, rfl, .ref la, rfl, ?_⟩
    intro pd npd
    have g1 : (upd H5 pd (.dK [])) pd = some (.dK []) := upd_same
    have d1 : Same H5 (upd H5 pd (.dK [])) := same_new npd
    generalize upd H5 pd (.dK []) = D1 at *
    refine ⟨by show 1 ≤ sizeLine; decide, fun a1 b1 => ?_⟩
    have g2 : (upd D1 a1 (.tup [.str "new"])) a1 = some (.tup [.str "new"]) := upd_same
    have d2 : Same D1 (upd D1 a1 (.tup [.str "new"])) := same_new b1
    generalize upd D1 a1 (.tup [.str "new"]) = D2 at *
    refine ⟨Nat.zero_le _, fun a2 b2 => ?_⟩
    have g3 : (upd D2 a2 (.tup [])) a2 = some (.tup []) := upd_same
    have d3 : Same D2 (upd D2 a2 (.tup [])) := same_new b2
    generalize upd D2 a2 (.tup []) = D3 at *
    refine ⟨by show 2 ≤ sizeLine; decide, fun a3 b3 => ?_⟩
    have g4 : (upd D3 a3 (.tup [.ref a1, .ref a2])) a3 = some (.tup [.ref a1, .ref a2]) := upd_same
    have d4 : Same D3 (upd D3 a3 (.tup [.ref a1, .ref a2])) := same_new b3
    generalize upd D3 a3 (.tup [.ref a1, .ref a2]) = D4 at *
    have on4 : Tt D4 (.ref a3) onN := tt_pair g4 (tt_tup (d4 _ _ (d3 _ _ g2)) (tts_strs ["new"])) (tt_tup (xs := ([] : List (Str × Str))) (d4 _ _ g3) .nil)
    refine ⟨Nat.zero_le _, fun a4 b4 => ?_⟩
    have g5 : (upd D4 a4 (.tup [])) a4 = some (.tup []) := upd_same
    have d5 : Same D4 (upd D4 a4 (.tup [])) := same_new b4
    generalize upd D4 a4 (.tup []) = D5 at *
    refine ⟨by show 2 ≤ sizeLine; decide, fun a5 b5 => ?_⟩
    have g6 : (upd D5 a5 (.tup [.str "by", .str "bob"])) a5 = some (.tup [.str "by", .str "bob"]) := upd_same
    have d6 : Same D5 (upd D5 a5 (.tup [.str "by", .str "bob"])) := same_new b5
    generalize upd D5 a5 (.tup [.str "by", .str "bob"]) = D6 at *
    refine ⟨by show 2 ≤ sizeLine; decide, fun a6 b6 => ?_⟩
    have g7 : (upd D6 a6 (.tup [.str "of", .str "ann"])) a6 = some (.tup [.str "of", .str "ann"]) := upd_same
    have d7 : Same D6 (upd D6 a6 (.tup [.str "of", .str "ann"])) := same_new b6
    generalize upd D6 a6 (.tup [.str "of", .str "ann"]) = D7 at *
    refine ⟨by show 2 ≤ sizeLine; decide, fun a7 b7 => ?_⟩
    have g8 : (upd D7 a7 (.tup [.ref a5, .ref a6])) a7 = some (.tup [.ref a5, .ref a6]) := upd_same
    have d8 : Same D7 (upd D7 a7 (.tup [.ref a5, .ref a6])) := same_new b7
    generalize upd D7 a7 (.tup [.ref a5, .ref a6]) = D8 at *
    refine ⟨by show 2 ≤ sizeLine; decide, fun a8 b8 => ?_⟩
    have g9 : (upd D8 a8 (.tup [.ref a4, .ref a7])) a8 = some (.tup [.ref a4, .ref a7]) := upd_same
    have d9 : Same D8 (upd D8 a8 (.tup [.ref a4, .ref a7])) := same_new b8
    generalize upd D8 a8 (.tup [.ref a4, .ref a7]) = D9 at *
    have tw9 : Tt D9 (.ref a8) twN := by
      have p5 : Tt D9 (.ref a5) (("by" : Str), ("bob" : Str)) := tt_pair (d9 _ _ (d8 _ _ (d7 _ _ g6))) tt_str tt_str
      have p6 : Tt D9 (.ref a6) (("of" : Str), ("ann" : Str)) := tt_pair (d9 _ _ (d8 _ _ g7)) tt_str tt_str
      exact tt_pair g9 (tt_tup (d9 _ _ (d8 _ _ (d7 _ _ (d6 _ _ g5)))) (tts_strs [])) (tt_tup (d9 _ _ g8) (.cons p5 (.cons p6 .nil)))
    have S49 : Same D4 D9 := d5.trans (d6.trans (d7.trans (d8.trans d9)))
    have S14 : Same D1 D4 := d2.trans (d3.trans d4)
    have e9 : D9 pd = some (.dK []) := S49 _ _ (S14 _ _ g1)
    refine ⟨e9, [(Sum.inr "ann", .ref a3), (Sum.inr "bob", .ref a8)], rfl, by show 2 ≤ 15; decide, ?_⟩
    have kt : Kt D9 (upd D9 pd (.dK [(Sum.inr "ann", .ref a3), (Sum.inr "bob", .ref a8)])) := kt_dk e9
    have SD : Same H5 (upd D9 pd (.dK [(Sum.inr "ann", .ref a3), (Sum.inr "bob", .ref a8)])) := ((d1.trans S14).trans S49).mut npd
    have rD : PsR (upd D9 pd (.dK [(Sum.inr "ann", .ref a3), (Sum.inr "bob", .ref a8)])) [(Sum.inr "ann", .ref a3), (Sum.inr "bob", .ref a8)] psN := .cons ⟨rfl, (on4.kq S49.kq).kt kt⟩ (.cons ⟨rfl, tw9.kt kt⟩ .nil)
    have eD : (upd D9 pd (.dK [(Sum.inr "ann", .ref a3), (Sum.inr "bob", .ref a8)])) pd = some (.dK [(Sum.inr "ann", .ref a3), (Sum.inr "bob", .ref a8)]) := upd_same
    rw [merge_acc ([(Sum.inr "ann", .ref a3), (Sum.inr "bob", .ref a8)] : List (Key × V)) [] (by show ([Sum.inr "ann", Sum.inr "bob"] : List Key).Nodup; decide +kernel), List.nil_append]
    generalize upd D9 pd (.dK [(Sum.inr "ann", .ref a3), (Sum.inr "bob", .ref a8)]) = H6 at SD rD eD ⊢
    clear kt e9 S49 S14 tw9 on4 g1 g2 g3 g4 g5 g6 g7 g8 g9 d1 d2 d3 d4 d5 d6 d7 d8 d9 b1 b2 b3 b4 b5 b6 b7 b8 npd
    have hla6 := hla5.kq SD.kq
    refine ⟨la, pd, shM, shK, _, psN, rfl, hla6, eD, rD, sinN, fun y v H7 s7 ny nv st7 => ?_⟩
    rw [normN] at st7
    have S7 := SD.trans s7
    have stx := st5'.same S7
    obtain ⟨dx1, fs1, gx⟩ := stx.ins
    obtain ⟨dy, fy, gy⟩ := st7.ins
    refine ⟨x, dx1, fs1, y, dy, fy, rfl, rfl, gx, gy, y, la, v, shM, shK, psN, .ref x, rfl, st7, .inr ⟨x, la, u, shM, shK, psN, rfl, stx, _, rfl, _, rfl, ?_⟩⟩
    rw [same_N, decide_eq_true rfl, decide_eq_true rfl]
    refine iteF ?_
    have hla7 := hla6.kq s7.kq
    clear hla6 hla5 st5' st7 gx gy rD eD
    -- named
    refine ⟨rfl, .ref la, rfl, ?_⟩
    intro pe npe
    have g1 : (upd H7 pe (.dK [])) pe = some (.dK []) := upd_same
    have d1 : Same H7 (upd H7 pe (.dK [])) := same_new npe
    generalize upd H7 pe (.dK []) = D1 at *
    refine ⟨Nat.zero_le _, fun a1 b1 => ?_⟩
    have g2 : (upd D1 a1 (.tup [])) a1 = some (.tup []) := upd_same
    have d2 : Same D1 (upd D1 a1 (.tup [])) := same_new b1
    generalize upd D1 a1 (.tup []) = D2 at *
    refine ⟨by show 2 ≤ sizeLine; decide, fun a2 b2 => ?_⟩
    have g3 : (upd D2 a2 (.tup [.str "by", .str "language"])) a2 = some (.tup [.str "by", .str "language"]) := upd_same
    have d3 : Same D2 (upd D2 a2 (.tup [.str "by", .str "language"])) := same_new b2
    generalize upd D2 a2 (.tup [.str "by", .str "language"]) = D3 at *
    refine ⟨by show 1 ≤ sizeLine; decide, fun a3 b3 => ?_⟩
    have g4 : (upd D3 a3 (.tup [.ref a2])) a3 = some (.tup [.ref a2]) := upd_same
    have d4 : Same D3 (upd D3 a3 (.tup [.ref a2])) := same_new b3
    generalize upd D3 a3 (.tup [.ref a2]) = D4 at *
    refine ⟨by show 2 ≤ sizeLine; decide, fun a4 b4 => ?_⟩
    have g5 : (upd D4 a4 (.tup [.ref a1, .ref a3])) a4 = some (.tup [.ref a1, .ref a3]) := upd_same
    have d5 : Same D4 (upd D4 a4 (.tup [.ref a1, .ref a3])) := same_new b4
    generalize upd D4 a4 (.tup [.ref a1, .ref a3]) = D5 at *
    have se5 : Tt D5 (.ref a4) seP := tt_pair g5 (tt_tup (d5 _ _ (d4 _ _ (d3 _ _ g2))) (tts_strs [])) (tt_tup (d5 _ _ g4) (.cons (tt_pair (x := ("by" : Str)) (y := ("language" : Str)) (d5 _ _ (d4 _ _ g3)) tt_str tt_str) .nil))
    refine ⟨by show 1 ≤ sizeLine; decide, fun a5 b5 => ?_⟩
    have g6 : (upd D5 a5 (.tup [.str "paid"])) a5 = some (.tup [.str "paid"]) := upd_same
    have d6 : Same D5 (upd D5 a5 (.tup [.str "paid"])) := same_new b5
    generalize upd D5 a5 (.tup [.str "paid"]) = D6 at *
    refine ⟨Nat.zero_le _, fun a6 b6 => ?_⟩
    have g7 : (upd D6 a6 (.tup [])) a6 = some (.tup []) := upd_same
    have d7 : Same D6 (upd D6 a6 (.tup [])) := same_new b6
    generalize upd D6 a6 (.tup []) = D7 at *
    refine ⟨by show 2 ≤ sizeLine; decide, fun a7 b7 => ?_⟩
    have g8 : (upd D7 a7 (.tup [.ref a5, .ref a6])) a7 = some (.tup [.ref a5, .ref a6]) := upd_same
    have d8 : Same D7 (upd D7 a7 (.tup [.ref a5, .ref a6])) := same_new b7
    generalize upd D7 a7 (.tup [.ref a5, .ref a6]) = D8 at *
    have la8 : Tt D8 (.ref a7) laP := tt_pair g8 (tt_tup (d8 _ _ (d7 _ _ g6)) (tts_strs ["paid"])) (tt_tup (xs := ([] : List (Str × Str))) (d8 _ _ g7) .nil)
    have S58 : Same D5 D8 := d6.trans (d7.trans d8)
    have S15 : Same D1 D5 := d2.trans (d3.trans (d4.trans d5))
    have e9 : D8 pe = some (.dK []) := S58 _ _ (S15 _ _ g1)
    refine ⟨e9, [(Sum.inr "self", .ref a4), (Sum.inr "language", .ref a7)], rfl, by show 2 ≤ 15; decide, ?_⟩
    have kt : Kt D8 (upd D8 pe (.dK [(Sum.inr "self", .ref a4), (Sum.inr "language", .ref a7)])) := kt_dk e9
    have SD8 : Same H7 (upd D8 pe (.dK [(Sum.inr "self", .ref a4), (Sum.inr "language", .ref a7)])) := ((d1.trans S15).trans S58).mut npe
    have rD : PsR (upd D8 pe (.dK [(Sum.inr "self", .ref a4), (Sum.inr "language", .ref a7)])) [(Sum.inr "self", .ref a4), (Sum.inr "language", .ref a7)] psS := .cons ⟨rfl, (se5.kq S58.kq).kt kt⟩ (.cons ⟨rfl, la8.kt kt⟩ .nil)
    have eD : (upd D8 pe (.dK [(Sum.inr "self", .ref a4), (Sum.inr "language", .ref a7)])) pe = some (.dK [(Sum.inr "self", .ref a4), (Sum.inr "language", .ref a7)]) := upd_same
    rw [merge_acc ([(Sum.inr "self", .ref a4), (Sum.inr "language", .ref a7)] : List (Key × V)) [] (by show ([Sum.inr "self", Sum.inr "language"] : List Key).Nodup; decide +kernel), List.nil_append]
    generalize upd D8 pe (.dK [(Sum.inr "self", .ref a4), (Sum.inr "language", .ref a7)]) = H8 at SD8 rD eD ⊢
    have hla8 := hla7.kq SD8.kq
    refine ⟨la, pe, shM, shK, _, psS, rfl, hla8, eD, rD, sinS, fun z vz H9 s9 nz nvz st9 => ?_⟩
    rw [normSl] at st9
    have S9 := SD8.trans s9
    have stx9 := stx.same S9
    obtain ⟨dx2, fs2, gx2⟩ := stx9.ins
    -- its text
    refine ⟨.ref x, rfl, x, dx2, fs2, rfl, gx2, x, la, u, shM, shK, psN, rfl, stx9, by decide, by decide, fun H10 s10 => ⟨_, rfl, rfl, false, ?_, iteF ?_⟩⟩
    · rw [show psN.length = 2 from rfl, show links psN = 2 from rfl, text_N, decide_eq_true rfl]
      rfl
    have hla10 := (hla8.kq s9.kq).kq s10.kq
    -- bare
    refine ⟨.ref la, rfl, fun xb db nxb ndb nxd2 => ⟨H10, xb, db, la, shM, shK, rfl, rfl, nxb, ndb, nxd2, hla10, fun tb H11 s11 ntb st11 => ⟨rfl, ?_⟩⟩⟩
    obtain ⟨dxb, fsb, gb⟩ := st11.ins
    refine ⟨.ref xb, rfl, xb, dxb, fsb, rfl, gb, xb, la, tb, shM, shK, [], rfl, st11, _, rfl, by decide, by decide, ?_⟩
    refine ⟨.ref xb, rfl, xb, dxb, fsb, rfl, gb, xb, la, tb, shM, shK, [], rfl, st11, fun p12 H12 s12 n12 e12 => ?_⟩
    have st12 := st11.same s12
    refine ⟨.ref xb, rfl, xb, dxb, fsb, rfl, s12 _ _ gb, xb, la, tb, shM, shK, [], rfl, st12, _, rfl, by decide, by decide, ?_⟩
    have st13 := st9.same (s10.trans (s11.trans s12))
    have st13' := st13
    obtain ⟨dz, fz, jz, gz, y2, y3, y4, y5, y6, y7⟩ := st13'
    refine ⟨.ref z, rfl, z, dz, fz, rfl, gz, look_none y7 (by decide +kernel), z, la, vz, shM, shK, [("language", laP), ("self", seP)], "self", "by", rfl, st13, by decide +kernel, by decide +kernel, by decide +kernel, by decide, fun p14 H14 s14 n14 e14 => ?_⟩
    refine ⟨by show 4 ≤ sizeLine; decide, fun l15 n15 => ?_⟩
    have e15a : (upd H14 l15 (.lst [.int (([] : Ps).length : Int), .ref p12, .bl ((([] : Ps).length : Int) != 0), .ref p14])) l15 = some (.lst [.int (([] : Ps).length : Int), .ref p12, .bl ((([] : Ps).length : Int) != 0), .ref p14]) := upd_same
    have s15 : Same H14 (upd H14 l15 (.lst [.int (([] : Ps).length : Int), .ref p12, .bl ((([] : Ps).length : Int) != 0), .ref p14])) := same_new n15
    generalize upd H14 l15 (.lst [.int (([] : Ps).length : Int), .ref p12, .bl ((([] : Ps).length : Int) != 0), .ref p14]) = H15 at *
    have e15 : H15 l15 = some (.lst [.int 0, .ref p12, .bl false, .ref p14]) := e15a
    refine ⟨Nat.zero_le _, fun a1 b1 => ?_⟩
    have e16 : (upd H15 a1 (.tup [])) a1 = some (.tup []) := upd_same
    have s16 : Same H15 (upd H15 a1 (.tup [])) := same_new b1
    generalize upd H15 a1 (.tup []) = H16 at *
    refine ⟨by show 1 ≤ sizeLine; decide, fun a2 b2 => ?_⟩
    have e17 : (upd H16 a2 (.tup [.str "language"])) a2 = some (.tup [.str "language"]) := upd_same
    have s17 : Same H16 (upd H16 a2 (.tup [.str "language"])) := same_new b2
    generalize upd H16 a2 (.tup [.str "language"]) = H17 at *
    refine ⟨by show 4 ≤ sizeLine; decide, fun l18 n18 => ?_⟩
    have e18 : (upd H17 l18 (.lst [.int 0, .ref a1, .bl false, .ref a2])) l18 = some (.lst [.int 0, .ref a1, .bl false, .ref a2]) := upd_same
    have s18 : Same H17 (upd H17 l18 (.lst [.int 0, .ref a1, .bl false, .ref a2])) := same_new n18
    generalize upd H17 l18 (.lst [.int 0, .ref a1, .bl false, .ref a2]) = H18 at *
    have e14' : H14 p14 = some (.tup [.str "language"]) := e14
    have e12' : H12 p12 = some (.tup []) := e12
    have dd : Dp K H18 (.ref l15) (.list [.int 0, .tuple [], .bool false, .tuple [.str "language"]]) := .lst (lst_of (s18 _ _ (s17 _ _ (s16 _ _ e15)))) (.cons (.int 0) (.cons (.tup (tup_of (s18 _ _ (s17 _ _ (s16 _ _ (s15 _ _ (s14 _ _ e12')))))) .nil) (.cons (.bl false) (.cons (.tup (tup_of (s18 _ _ (s17 _ _ (s16 _ _ (s15 _ _ e14'))))) (.cons (.str _) .nil)) .nil))))
    have ee : Dp K H18 (.ref l18) (.list [.int 0, .tuple [], .bool false, .tuple [.str "language"]]) := .lst (lst_of e18) (.cons (.int 0) (.cons (.tup (tup_of (s18 _ _ (s17 _ _ e16))) .nil) (.cons (.bl false) (.cons (.tup (tup_of (s18 _ _ e17)) (.cons (.str _) .nil)) .nil))))
    refine ⟨_, _, dd, ee, by decide +kernel, by decide +kernel, by decide +kernel, ?_⟩
    rw [if_neg Bool.false_ne_true, show PyData.eqv (.list [.int 0, .tuple [], .bool false, .tuple [.str "language"]]) (.list [.int 0, .tuple [], .bool false, .tuple [.str "language"]]) = true by decide +kernel]
    exact q H18
end
end Tf

/-! the end: what the written part tells -/
namespace Tf
open PySem PySem.Spec PyProof.Rows L2 ClX
theorem kit_ref {K : PySem.W.Frag} {t : Value} {C : Addr} {b : Bool} (hc : PySem.W.isClsIn K C = true) (ht : PySem.W.typeIn K (.ref C) = some (.type "type")) (hne : (t == Value.ref C) = false) (h : PySem.W.subIn K t (.ref C) = some b) : PySem.W.kitOne K t (.ref C) = some b := by
  have e2 : ((PySem.W.clsIn K C).isSome && PySem.W.typeIn K (.ref C) == some (.type "type")) = true := by
    have h2' : (PySem.W.clsIn K C).isSome = true := hc
    rw [h2', ht] <;> rfl
  unfold PySem.W.kitOne PySem.W.kitCls
  rw [hne, if_neg Bool.false_ne_true]
  show (if ((PySem.W.clsIn K C).isSome && PySem.W.typeIn K (.ref C) == some (.type "type")) = true then PySem.W.subIn K t (.ref C) else none) = some b
  rw [if_pos e2]
  exact h
theorem kit_refT {K : PySem.W.Frag} {t : Value} {C : Addr} (hc : PySem.W.isClsIn K C = true) (ht : PySem.W.typeIn K (.ref C) = some (.type "type")) (h : PySem.W.subIn K t (.ref C) = some true) : PySem.W.kitOne K t (.ref C) = some true := by
  cases e : (t == Value.ref C) with
  | false => exact kit_ref hc ht e h
  | true =>
    unfold PySem.W.kitOne
    rw [e, if_pos rfl]
theorem ty_ne (t : String) (C : Addr) : (Value.type t == Value.ref C) = false := beq_eq_false_iff_ne.mpr (fun z => by cases z)
theorem rawN {P : Program} {w : World} {K : PySem.W.Frag} {mg : Str → Option Value} {base : Heap} {CX : CXT} {k : Nat} {f : Addr} {fd : FuncData} {ps : List Str} {sp : Sp} (F : FnOk P w K mg base CX k f fd ps sp) (hb : Binds K fd ps []) : FnR P w K mg base CX k f sp :=
  (F.raw hb .nil).imp fun vs H Q E h => by
    rw [List.append_nil]
    exact h

theorem all_mk {P : Program} {w : World} {K : PySem.W.Frag} {h : Heap} {mg : Str → Option Value} {fa : Addr} (X : K.In h) (G : h.Ns mainGlobals mg) (hfa : mg "law" = some (.ref fa))
    {CL CS CM pLO pLM pLK pSO pSL pSN pST : Addr}
    {t8 t4 t9 ts tT : Tok} {rLO rLM rLK rSO rSL rSN rST : List Value}
    {fNa : Addr} {odNa anNa : Option Addr} {slNa : Array (Option Value)} {ocNa kVNa dcNa pmNa cdNa ctNa : Value}
    {fRl : Addr} {odRl anRl : Option Addr} {slRl : Array (Option Value)} {ocRl kVRl dcRl pmRl cdRl ctRl : Value}
    {fRk : Addr} {odRk anRk : Option Addr} {slRk : Array (Option Value)} {ocRk kVRk dcRk pmRk cdRk ctRk : Value}
    {fDn : Addr} {odDn anDn : Option Addr} {slDn : Array (Option Value)} {ocDn kVDn dcDn pmDn cdDn ctDn : Value}
    {fRt : Addr} {odRt anRt : Option Addr} {slRt : Array (Option Value)} {ocRt kVRt dcRt pmRt cdRt ctRt : Value}
    {fRp : Addr} {odRp anRp : Option Addr} {slRp : Array (Option Value)} {ocRp kVRp dcRp pmRp cdRp ctRp : Value}
    {fDs : Addr} {odDs anDs : Option Addr} {slDs : Array (Option Value)} {ocDs kVDs dcDs pmDs cdDs ctDs : Value}
    {fCk : Addr} {odCk anCk : Option Addr} {slCk : Array (Option Value)} {ocCk kVCk dcCk pmCk cdCk ctCk : Value}
    {fDi : Addr} {odDi anDi : Option Addr} {slDi : Array (Option Value)} {ocDi kVDi dcDi pmDi cdDi ctDi : Value}
    {fRo : Addr} {odRo anRo : Option Addr} {slRo : Array (Option Value)} {ocRo kVRo dcRo pmRo cdRo ctRo : Value}
    {fPi : Addr} {odPi anPi : Option Addr} {slPi : Array (Option Value)} {ocPi kVPi dcPi pmPi cdPi ctPi : Value}
    {fMi : Addr} {odMi anMi : Option Addr} {slMi : Array (Option Value)} {ocMi kVMi dcMi pmMi cdMi ctMi : Value}
    {fWo : Addr} {odWo anWo : Option Addr} {slWo : Array (Option Value)} {ocWo kVWo dcWo pmWo cdWo ctWo : Value}
    {fLg : Addr} {odLg anLg : Option Addr} {slLg : Array (Option Value)} {ocLg kVLg dcLg pmLg cdLg ctLg : Value}
    {fLk : Addr} {odLk anLk : Option Addr} {slLk : Array (Option Value)} {ocLk kVLk dcLk pmLk cdLk ctLk : Value}
    {fSo : Addr} {odSo anSo : Option Addr} {slSo : Array (Option Value)} {ocSo kVSo dcSo pmSo cdSo ctSo : Value}
    {fPa : Addr} {odPa anPa : Option Addr} {slPa : Array (Option Value)} {ocPa kVPa dcPa pmPa cdPa ctPa : Value}
    {fNe : Addr} {odNe anNe : Option Addr} {slNe : Array (Option Value)} {ocNe kVNe dcNe pmNe cdNe ctNe : Value}
    {fTo : Addr} {odTo anTo : Option Addr} {slTo : Array (Option Value)} {ocTo kVTo dcTo pmTo cdTo ctTo : Value}
    {fRi : Addr} {odRi anRi : Option Addr} {slRi : Array (Option Value)} {ocRi kVRi dcRi pmRi cdRi ctRi : Value}
    {fLa : Addr} {odLa anLa : Option Addr} {slLa : Array (Option Value)} {ocLa kVLa dcLa pmLa cdLa ctLa : Value}
    {fLIn : Addr} {odLIn anLIn : Option Addr} {slLIn : Array (Option Value)} {ocLIn kVLIn dcLIn pmLIn cdLIn ctLIn : Value}
    {fLOf : Addr} {odLOf anLOf : Option Addr} {slLOf : Array (Option Value)} {ocLOf kVLOf dcLOf pmLOf cdLOf ctLOf : Value}
    {fLMk : Addr} {odLMk anLMk : Option Addr} {slLMk : Array (Option Value)} {ocLMk kVLMk dcLMk pmLMk cdLMk ctLMk : Value}
    {fLKi : Addr} {odLKi anLKi : Option Addr} {slLKi : Array (Option Value)} {ocLKi kVLKi dcLKi pmLKi cdLKi ctLKi : Value}
    {fLEq : Addr} {odLEq anLEq : Option Addr} {slLEq : Array (Option Value)} {ocLEq kVLEq dcLEq pmLEq cdLEq ctLEq : Value}
    {fSIn : Addr} {odSIn anSIn : Option Addr} {slSIn : Array (Option Value)} {ocSIn kVSIn dcSIn pmSIn cdSIn ctSIn : Value}
    {fSOf : Addr} {odSOf anSOf : Option Addr} {slSOf : Array (Option Value)} {ocSOf kVSOf dcSOf pmSOf cdSOf ctSOf : Value}
    {fSLa : Addr} {odSLa anSLa : Option Addr} {slSLa : Array (Option Value)} {ocSLa kVSLa dcSLa pmSLa cdSLa ctSLa : Value}
    {fSNm : Addr} {odSNm anSNm : Option Addr} {slSNm : Array (Option Value)} {ocSNm kVSNm dcSNm pmSNm cdSNm ctSNm : Value}
    {fSTh : Addr} {odSTh anSTh : Option Addr} {slSTh : Array (Option Value)} {ocSTh kVSTh dcSTh pmSTh cdSTh ctSTh : Value}
    {fSMo : Addr} {odSMo anSMo : Option Addr} {slSMo : Array (Option Value)} {ocSMo kVSMo dcSMo pmSMo cdSMo ctSMo : Value}
    {fSLo : Addr} {odSLo anSLo : Option Addr} {slSLo : Array (Option Value)} {ocSLo kVSLo dcSLo pmSLo cdSLo ctSLo : Value}
    {fSEn : Addr} {odSEn anSEn : Option Addr} {slSEn : Array (Option Value)} {ocSEn kVSEn dcSEn pmSEn cdSEn ctSEn : Value}
    {fSEq : Addr} {odSEq anSEq : Option Addr} {slSEq : Array (Option Value)} {ocSEq kVSEq dcSEq pmSEq cdSEq ctSEq : Value}
    {fSHa : Addr} {odSHa anSHa : Option Addr} {slSHa : Array (Option Value)} {ocSHa kVSHa dcSHa pmSHa cdSHa ctSHa : Value}
    {fSLe : Addr} {odSLe anSLe : Option Addr} {slSLe : Array (Option Value)} {ocSLe kVSLe dcSLe pmSLe cdSLe ctSLe : Value}
    {fSSt : Addr} {odSSt anSSt : Option Addr} {slSSt : Array (Option Value)} {ocSSt kVSSt dcSSt pmSSt cdSSt ctSSt : Value}
    {fMIn : Addr} {odMIn anMIn : Option Addr} {slMIn : Array (Option Value)} {ocMIn kVMIn dcMIn pmMIn cdMIn ctMIn : Value}
    (aCL : PySem.W.nsIn K mainGlobals "Language" = some (some (.ref CL)))
    (i1CL : PySem.W.plainGet K CL Str.empty = true)
    (i2CL : PySem.W.hasDictIn K CL = true)
    (i3CL : PySem.W.plainOver K CL = true)
    (i4CL : PySem.W.findIn K (.ref CL) "__setattr__" = some (some (.builtin "object.__setattr__")))
    (j0CL : PySem.W.findIn K (.ref CL) "own_marks" = some none)
    (j1CL : PySem.W.findIn K (.ref CL) "own_kinds" = some none)
    (k1CL : PySem.W.makesIn K CL = true)
    (k2CL : PySem.W.keepIn K (.ref CL) = true)
    (k3CL : PySem.W.findIn K (.ref CL) "__class__" = some (some (.builtin "object.__class__")))
    (k4CL : PySem.W.mroIn K CL (.type "object") = some true)
    (k5CL : PySem.W.findIn K (.ref CL) "__ne__" = some (some (.builtin "object.__ne__")))
    (k6CL : PySem.W.isClsIn K CL = true)
    (k7CL : PySem.W.typeIn K (.ref CL) = some (.type "type"))
    (iniCL : PySem.W.findIn K (.ref CL) "__init__" = some (some (.ref fLIn)))
    (aCS : PySem.W.nsIn K mainGlobals "Store" = some (some (.ref CS)))
    (i1CS : PySem.W.plainGet K CS Str.empty = true)
    (i2CS : PySem.W.hasDictIn K CS = true)
    (i3CS : PySem.W.plainOver K CS = true)
    (i4CS : PySem.W.findIn K (.ref CS) "__setattr__" = some (some (.builtin "object.__setattr__")))
    (j0CS : PySem.W.findIn K (.ref CS) "own_language" = some none)
    (j1CS : PySem.W.findIn K (.ref CS) "own_things" = some none)
    (k1CS : PySem.W.makesIn K CS = true)
    (k2CS : PySem.W.keepIn K (.ref CS) = true)
    (k3CS : PySem.W.findIn K (.ref CS) "__class__" = some (some (.builtin "object.__class__")))
    (k4CS : PySem.W.mroIn K CS (.type "object") = some true)
    (k5CS : PySem.W.findIn K (.ref CS) "__ne__" = some (some (.builtin "object.__ne__")))
    (k6CS : PySem.W.isClsIn K CS = true)
    (k7CS : PySem.W.typeIn K (.ref CS) = some (.type "type"))
    (iniCS : PySem.W.findIn K (.ref CS) "__init__" = some (some (.ref fSIn)))
    (aCM : PySem.W.nsIn K mainGlobals "MadeStore" = some (some (.ref CM)))
    (i1CM : PySem.W.plainGet K CM Str.empty = true)
    (i2CM : PySem.W.hasDictIn K CM = true)
    (i3CM : PySem.W.plainOver K CM = true)
    (i4CM : PySem.W.findIn K (.ref CM) "__setattr__" = some (some (.builtin "object.__setattr__")))
    (j0CM : PySem.W.findIn K (.ref CM) "own_language" = some none)
    (j1CM : PySem.W.findIn K (.ref CM) "own_things" = some none)
    (k1CM : PySem.W.makesIn K CM = true)
    (k2CM : PySem.W.keepIn K (.ref CM) = true)
    (k3CM : PySem.W.findIn K (.ref CM) "__class__" = some (some (.builtin "object.__class__")))
    (k4CM : PySem.W.mroIn K CM (.type "object") = some true)
    (k5CM : PySem.W.findIn K (.ref CM) "__ne__" = some (some (.builtin "object.__ne__")))
    (k6CM : PySem.W.isClsIn K CM = true)
    (k7CM : PySem.W.typeIn K (.ref CM) = some (.type "type"))
    (iniCM : PySem.W.findIn K (.ref CM) "__init__" = some (some (.ref fMIn)))
    (e5 : PySem.W.specialIn K (.builtin "object.__class__") "__get__" = some (some (.builtin "getset_descriptor.__get__")))
    (e6 : PySem.W.takesIn K (.builtin "object.__class__") = some true)
    (neMS : CM ≠ CS)
    (neLS : CL ≠ CS)
    (suMS : PySem.W.subIn K (.ref CM) (.ref CS) = some true)
    (suLS : PySem.W.subIn K (.ref CL) (.ref CS) = some false)
    (nbS : PySem.W.findIn K (.ref CS) "__bool__" = some none)
    (s0 : PySem.W.subIn K (.type "NoneType") (.ref CS) = some false)
    (n0 : PySem.W.notFirst K CM (.type "NoneType") = true)
    (s3 : PySem.W.subIn K (.type "str") (.ref CS) = some false)
    (n3 : PySem.W.notFirst K CM (.type "str") = true)
    (s5 : PySem.W.subIn K (.type "tuple") (.ref CS) = some false)
    (n5 : PySem.W.notFirst K CM (.type "tuple") = true)
    (s6 : PySem.W.subIn K (.type "dict") (.ref CS) = some false)
    (n6 : PySem.W.notFirst K CM (.type "dict") = true)
    (nL : PySem.W.notFirst K CM (.ref CL) = true)
    (nM : PySem.W.notFirst K CM (.ref CM) = true)
    (nLL : PySem.W.notFirst K CL (.ref CL) = true)
    (r1CL : PySem.W.readsIn K CL (.type "type") = true)
    (r2CL : PySem.W.specialIn K (.ref CL) "__getattribute__" = some (some (.builtin "type.__getattribute__")))
    (r3CL : PySem.W.findCls K (.ref CL) (.type "type") "of" = some (.get (.builtin "classmethod.__get__") (.ref pLO) .none (.ref CL)))
    (r4CL : PySem.W.recIn K pLO "classmethod" = some (.ref fLOf :: rLO))
    (r5CL : PySem.W.fnIn K fLOf = true)
    (r1CS : PySem.W.readsIn K CS (.type "type") = true)
    (r2CS : PySem.W.specialIn K (.ref CS) "__getattribute__" = some (some (.builtin "type.__getattribute__")))
    (r3CS : PySem.W.findCls K (.ref CS) (.type "type") "of" = some (.get (.builtin "classmethod.__get__") (.ref pSO) .none (.ref CS)))
    (r4CS : PySem.W.recIn K pSO "classmethod" = some (.ref fSOf :: rSO))
    (r5CS : PySem.W.fnIn K fSOf = true)
    (u1CLLMk : PySem.W.findIn K (.ref CL) "marks" = some (some (.ref pLM)))
    (u2LMk : PySem.W.specialIn K (.ref pLM) "__get__" = some (some (.builtin "property.__get__")))
    (u3LMk : PySem.W.takesIn K (.ref pLM) = some true)
    (u4LMk : PySem.W.recIn K pLM "property" = some (.ref fLMk :: rLM))
    (u1CLLKi : PySem.W.findIn K (.ref CL) "kinds" = some (some (.ref pLK)))
    (u2LKi : PySem.W.specialIn K (.ref pLK) "__get__" = some (some (.builtin "property.__get__")))
    (u3LKi : PySem.W.takesIn K (.ref pLK) = some true)
    (u4LKi : PySem.W.recIn K pLK "property" = some (.ref fLKi :: rLK))
    (u1CMSLa : PySem.W.findIn K (.ref CM) "language" = some (some (.ref pSL)))
    (u2SLa : PySem.W.specialIn K (.ref pSL) "__get__" = some (some (.builtin "property.__get__")))
    (u3SLa : PySem.W.takesIn K (.ref pSL) = some true)
    (u4SLa : PySem.W.recIn K pSL "property" = some (.ref fSLa :: rSL))
    (u1CMSNm : PySem.W.findIn K (.ref CM) "names" = some (some (.ref pSN)))
    (u1CSSNm : PySem.W.findIn K (.ref CS) "names" = some (some (.ref pSN)))
    (u2SNm : PySem.W.specialIn K (.ref pSN) "__get__" = some (some (.builtin "property.__get__")))
    (u3SNm : PySem.W.takesIn K (.ref pSN) = some true)
    (u4SNm : PySem.W.recIn K pSN "property" = some (.ref fSNm :: rSN))
    (u1CMSTh : PySem.W.findIn K (.ref CM) "things" = some (some (.ref pST)))
    (u2STh : PySem.W.specialIn K (.ref pST) "__get__" = some (some (.builtin "property.__get__")))
    (u3STh : PySem.W.takesIn K (.ref pST) = some true)
    (u4STh : PySem.W.recIn K pST "property" = some (.ref fSTh :: rST))
    (v1CLLEq : PySem.W.findIn K (.ref CL) "__eq__" = some (some (.ref fLEq)))
    (v2LEq : PySem.W.isFn K (.ref fLEq) = true)
    (v1CMSEq : PySem.W.findIn K (.ref CM) "__eq__" = some (some (.ref fSEq)))
    (v2SEq : PySem.W.isFn K (.ref fSEq) = true)
    (v1CMSHa : PySem.W.findIn K (.ref CM) "__contains__" = some (some (.ref fSHa)))
    (v2SHa : PySem.W.isFn K (.ref fSHa) = true)
    (v1CMSLe : PySem.W.findIn K (.ref CM) "__len__" = some (some (.ref fSLe)))
    (v1CSSLe : PySem.W.findIn K (.ref CS) "__len__" = some (some (.ref fSLe)))
    (v2SLe : PySem.W.isFn K (.ref fSLe) = true)
    (v1CMSSt : PySem.W.findIn K (.ref CM) "__str__" = some (some (.ref fSSt)))
    (v1CSSSt : PySem.W.findIn K (.ref CS) "__str__" = some (some (.ref fSSt)))
    (v2SSt : PySem.W.isFn K (.ref fSSt) = true)
    (v1CMSMo : PySem.W.findIn K (.ref CM) "marks_of" = some (some (.ref fSMo)))
    (v2SMo : PySem.W.isFn K (.ref fSMo) = true)
    (v1CMSLo : PySem.W.findIn K (.ref CM) "links_of" = some (some (.ref fSLo)))
    (v2SLo : PySem.W.isFn K (.ref fSLo) = true)
    (v1CMSEn : PySem.W.findIn K (.ref CM) "ends" = some (some (.ref fSEn)))
    (v2SEn : PySem.W.isFn K (.ref fSEn) = true)
    (v2LIn : PySem.W.isFn K (.ref fLIn) = true)
    (v2SIn : PySem.W.isFn K (.ref fSIn) = true)
    (v2MIn : PySem.W.isFn K (.ref fMIn) = true)
    (w0Na : PySem.W.nsIn K mainGlobals "is_name" = some (some (.ref fNa)))
    (w1Na : K.lookup fNa = some ⟨ocNa, odNa, .func (PySem.W.fnOf "is_name" "is_name" (defArgs sName) (defBody sName) (defScope sName) .none kVNa dcNa pmNa anNa cdNa ctNa), slNa⟩)
    (w2Na : PySem.W.codeIn K cdNa "is_name" = true)
    (w3Na : PySem.W.keepIn K (.ref fNa) = true)
    (w0Rl : PySem.W.nsIn K mainGlobals "require_language" = some (some (.ref fRl)))
    (w1Rl : K.lookup fRl = some ⟨ocRl, odRl, .func (PySem.W.fnOf "require_language" "require_language" (defArgs sRl) (defBody sRl) (defScope sRl) .none kVRl dcRl pmRl anRl cdRl ctRl), slRl⟩)
    (w2Rl : PySem.W.codeIn K cdRl "require_language" = true)
    (w3Rl : PySem.W.keepIn K (.ref fRl) = true)
    (w0Rk : PySem.W.nsIn K mainGlobals "require_kind" = some (some (.ref fRk)))
    (w1Rk : K.lookup fRk = some ⟨ocRk, odRk, .func (PySem.W.fnOf "require_kind" "require_kind" (defArgs sRk) (defBody sRk) (defScope sRk) .none kVRk dcRk pmRk anRk cdRk ctRk), slRk⟩)
    (w2Rk : PySem.W.codeIn K cdRk "require_kind" = true)
    (w3Rk : PySem.W.keepIn K (.ref fRk) = true)
    (w0Dn : PySem.W.nsIn K mainGlobals "different_names" = some (some (.ref fDn)))
    (w1Dn : K.lookup fDn = some ⟨ocDn, odDn, .func (PySem.W.fnOf "different_names" "different_names" (defArgs sDn) (defBody sDn) (defScope sDn) .none kVDn dcDn pmDn anDn cdDn ctDn), slDn⟩)
    (w2Dn : PySem.W.codeIn K cdDn "different_names" = true)
    (w3Dn : PySem.W.keepIn K (.ref fDn) = true)
    (w0Rt : PySem.W.nsIn K mainGlobals "require_thing" = some (some (.ref fRt)))
    (w1Rt : K.lookup fRt = some ⟨ocRt, odRt, .func (PySem.W.fnOf "require_thing" "require_thing" (defArgs sRt) (defBody sRt) (defScope sRt) .none kVRt dcRt pmRt anRt cdRt ctRt), slRt⟩)
    (w2Rt : PySem.W.codeIn K cdRt "require_thing" = true)
    (w3Rt : PySem.W.keepIn K (.ref fRt) = true)
    (w0Rp : PySem.W.nsIn K mainGlobals "require_pair" = some (some (.ref fRp)))
    (w1Rp : K.lookup fRp = some ⟨ocRp, odRp, .func (PySem.W.fnOf "require_pair" "require_pair" (defArgs sRp) (defBody sRp) (defScope sRp) .none kVRp dcRp pmRp anRp cdRp ctRp), slRp⟩)
    (w2Rp : PySem.W.codeIn K cdRp "require_pair" = true)
    (w3Rp : PySem.W.keepIn K (.ref fRp) = true)
    (w0Ds : PySem.W.nsIn K mainGlobals "different_items" = some (some (.ref fDs)))
    (w1Ds : K.lookup fDs = some ⟨ocDs, odDs, .func (PySem.W.fnOf "different_items" "different_items" (defArgs sDi) (defBody sDi) (defScope sDi) .none kVDs dcDs pmDs anDs cdDs ctDs), slDs⟩)
    (w2Ds : PySem.W.codeIn K cdDs "different_items" = true)
    (w3Ds : PySem.W.keepIn K (.ref fDs) = true)
    (w0Ck : PySem.W.nsIn K mainGlobals "checked_things" = some (some (.ref fCk)))
    (w1Ck : K.lookup fCk = some ⟨ocCk, odCk, .func (PySem.W.fnOf "checked_things" "checked_things" (defArgs sCk) (defBody sCk) (defScope sCk) .none kVCk dcCk pmCk anCk cdCk ctCk), slCk⟩)
    (w2Ck : PySem.W.codeIn K cdCk "checked_things" = true)
    (w3Ck : PySem.W.keepIn K (.ref fCk) = true)
    (w0Di : PySem.W.nsIn K mainGlobals "_law_dice" = some (some (.ref fDi)))
    (w1Di : K.lookup fDi = some ⟨ocDi, odDi, .func (PySem.W.fnOf "_law_dice" "_law_dice" (defArgs sDice) (defBody sDice) (defScope sDice) .none kVDi dcDi pmDi anDi cdDi ctDi), slDi⟩)
    (w2Di : PySem.W.codeIn K cdDi "_law_dice" = true)
    (w3Di : PySem.W.keepIn K (.ref fDi) = true)
    (w0Ro : PySem.W.nsIn K mainGlobals "_law_roll" = some (some (.ref fRo)))
    (w1Ro : K.lookup fRo = some ⟨ocRo, odRo, .func (PySem.W.fnOf "_law_roll" "_law_roll" (defArgs sRoll) (defBody sRoll) (defScope sRoll) .none kVRo dcRo pmRo anRo cdRo ctRo), slRo⟩)
    (w2Ro : PySem.W.codeIn K cdRo "_law_roll" = true)
    (w3Ro : PySem.W.keepIn K (.ref fRo) = true)
    (w0Pi : PySem.W.nsIn K mainGlobals "_law_pick" = some (some (.ref fPi)))
    (w1Pi : K.lookup fPi = some ⟨ocPi, odPi, .func (PySem.W.fnOf "_law_pick" "_law_pick" (defArgs sPick) (defBody sPick) (defScope sPick) .none kVPi dcPi pmPi anPi cdPi ctPi), slPi⟩)
    (w2Pi : PySem.W.codeIn K cdPi "_law_pick" = true)
    (w3Pi : PySem.W.keepIn K (.ref fPi) = true)
    (w0Mi : PySem.W.nsIn K mainGlobals "_law_mixed" = some (some (.ref fMi)))
    (w1Mi : K.lookup fMi = some ⟨ocMi, odMi, .func (PySem.W.fnOf "_law_mixed" "_law_mixed" (defArgs sMixed) (defBody sMixed) (defScope sMixed) .none kVMi dcMi pmMi anMi cdMi ctMi), slMi⟩)
    (w2Mi : PySem.W.codeIn K cdMi "_law_mixed" = true)
    (w3Mi : PySem.W.keepIn K (.ref fMi) = true)
    (w0Wo : PySem.W.nsIn K mainGlobals "_law_words" = some (some (.ref fWo)))
    (w1Wo : K.lookup fWo = some ⟨ocWo, odWo, .func (PySem.W.fnOf "_law_words" "_law_words" (defArgs sWords) (defBody sWords) (defScope sWords) .none kVWo dcWo pmWo anWo cdWo ctWo), slWo⟩)
    (w2Wo : PySem.W.codeIn K cdWo "_law_words" = true)
    (w3Wo : PySem.W.keepIn K (.ref fWo) = true)
    (w0Lg : PySem.W.nsIn K mainGlobals "_law_language" = some (some (.ref fLg)))
    (w1Lg : K.lookup fLg = some ⟨ocLg, odLg, .func (PySem.W.fnOf "_law_language" "_law_language" (defArgs sLg) (defBody sLg) (defScope sLg) .none kVLg dcLg pmLg anLg cdLg ctLg), slLg⟩)
    (w2Lg : PySem.W.codeIn K cdLg "_law_language" = true)
    (w3Lg : PySem.W.keepIn K (.ref fLg) = true)
    (w0Lk : PySem.W.nsIn K mainGlobals "_law_links" = some (some (.ref fLk)))
    (w1Lk : K.lookup fLk = some ⟨ocLk, odLk, .func (PySem.W.fnOf "_law_links" "_law_links" (defArgs sLk) (defBody sLk) (defScope sLk) .none kVLk dcLk pmLk anLk cdLk ctLk), slLk⟩)
    (w2Lk : PySem.W.codeIn K cdLk "_law_links" = true)
    (w3Lk : PySem.W.keepIn K (.ref fLk) = true)
    (w0So : PySem.W.nsIn K mainGlobals "_law_store" = some (some (.ref fSo)))
    (w1So : K.lookup fSo = some ⟨ocSo, odSo, .func (PySem.W.fnOf "_law_store" "_law_store" (defArgs sSto) (defBody sSto) (defScope sSto) .none kVSo dcSo pmSo anSo cdSo ctSo), slSo⟩)
    (w2So : PySem.W.codeIn K cdSo "_law_store" = true)
    (w3So : PySem.W.keepIn K (.ref fSo) = true)
    (w0Pa : PySem.W.nsIn K mainGlobals "_law_passed" = some (some (.ref fPa)))
    (w1Pa : K.lookup fPa = some ⟨ocPa, odPa, .func (PySem.W.fnOf "_law_passed" "_law_passed" (defArgs sPas) (defBody sPas) (defScope sPas) .none kVPa dcPa pmPa anPa cdPa ctPa), slPa⟩)
    (w2Pa : PySem.W.codeIn K cdPa "_law_passed" = true)
    (w3Pa : PySem.W.keepIn K (.ref fPa) = true)
    (w0Ne : PySem.W.nsIn K mainGlobals "_law_near" = some (some (.ref fNe)))
    (w1Ne : K.lookup fNe = some ⟨ocNe, odNe, .func (PySem.W.fnOf "_law_near" "_law_near" (defArgs sNear) (defBody sNear) (defScope sNear) .none kVNe dcNe pmNe anNe cdNe ctNe), slNe⟩)
    (w2Ne : PySem.W.codeIn K cdNe "_law_near" = true)
    (w3Ne : PySem.W.keepIn K (.ref fNe) = true)
    (w0To : PySem.W.nsIn K mainGlobals "_law_told_right" = some (some (.ref fTo)))
    (w1To : K.lookup fTo = some ⟨ocTo, odTo, .func (PySem.W.fnOf "_law_told_right" "_law_told_right" (defArgs sTold) (defBody sTold) (defScope sTold) .none kVTo dcTo pmTo anTo cdTo ctTo), slTo⟩)
    (w2To : PySem.W.codeIn K cdTo "_law_told_right" = true)
    (w3To : PySem.W.keepIn K (.ref fTo) = true)
    (w0Ri : PySem.W.nsIn K mainGlobals "_law_right" = some (some (.ref fRi)))
    (w1Ri : K.lookup fRi = some ⟨ocRi, odRi, .func (PySem.W.fnOf "_law_right" "_law_right" (defArgs sRt4) (defBody sRt4) (defScope sRt4) .none kVRi dcRi pmRi anRi cdRi ctRi), slRi⟩)
    (w2Ri : PySem.W.codeIn K cdRi "_law_right" = true)
    (w3Ri : PySem.W.keepIn K (.ref fRi) = true)
    (w0La : PySem.W.nsIn K mainGlobals "law" = some (some (.ref fLa)))
    (w1La : K.lookup fLa = some ⟨ocLa, odLa, .func (PySem.W.fnOf "law" "law" (defArgs sLaw4) (defBody sLaw4) (defScope sLaw4) .none kVLa dcLa pmLa anLa cdLa ctLa), slLa⟩)
    (w2La : PySem.W.codeIn K cdLa "law" = true)
    (w3La : PySem.W.keepIn K (.ref fLa) = true)
    (w1LIn : K.lookup fLIn = some ⟨ocLIn, odLIn, .func (PySem.W.fnOf "__init__" "Language.__init__" (defArgs sLin) (defBody sLin) (defScope sLin) .none kVLIn dcLIn pmLIn anLIn cdLIn ctLIn), slLIn⟩)
    (w2LIn : PySem.W.codeIn K cdLIn "Language.__init__" = true)
    (w3LIn : PySem.W.keepIn K (.ref fLIn) = true)
    (w1LOf : K.lookup fLOf = some ⟨ocLOf, odLOf, .func (PySem.W.fnOf "of" "Language.of" (defArgs sLof) (defBody sLof) (defScope sLof) .none kVLOf dcLOf pmLOf anLOf cdLOf ctLOf), slLOf⟩)
    (w2LOf : PySem.W.codeIn K cdLOf "Language.of" = true)
    (w3LOf : PySem.W.keepIn K (.ref fLOf) = true)
    (w1LMk : K.lookup fLMk = some ⟨ocLMk, odLMk, .func (PySem.W.fnOf "marks" "Language.marks" (defArgs sLmk) (defBody sLmk) (defScope sLmk) .none kVLMk dcLMk pmLMk anLMk cdLMk ctLMk), slLMk⟩)
    (w2LMk : PySem.W.codeIn K cdLMk "Language.marks" = true)
    (w3LMk : PySem.W.keepIn K (.ref fLMk) = true)
    (w1LKi : K.lookup fLKi = some ⟨ocLKi, odLKi, .func (PySem.W.fnOf "kinds" "Language.kinds" (defArgs sLki) (defBody sLki) (defScope sLki) .none kVLKi dcLKi pmLKi anLKi cdLKi ctLKi), slLKi⟩)
    (w2LKi : PySem.W.codeIn K cdLKi "Language.kinds" = true)
    (w3LKi : PySem.W.keepIn K (.ref fLKi) = true)
    (w1LEq : K.lookup fLEq = some ⟨ocLEq, odLEq, .func (PySem.W.fnOf "__eq__" "Language.__eq__" (defArgs sLeq) (defBody sLeq) (defScope sLeq) .none kVLEq dcLEq pmLEq anLEq cdLEq ctLEq), slLEq⟩)
    (w2LEq : PySem.W.codeIn K cdLEq "Language.__eq__" = true)
    (w3LEq : PySem.W.keepIn K (.ref fLEq) = true)
    (w1SIn : K.lookup fSIn = some ⟨ocSIn, odSIn, .func (PySem.W.fnOf "__init__" "Store.__init__" (defArgs sSin) (defBody sSin) (defScope sSin) .none kVSIn dcSIn pmSIn anSIn cdSIn ctSIn), slSIn⟩)
    (w2SIn : PySem.W.codeIn K cdSIn "Store.__init__" = true)
    (w3SIn : PySem.W.keepIn K (.ref fSIn) = true)
    (w1SOf : K.lookup fSOf = some ⟨ocSOf, odSOf, .func (PySem.W.fnOf "of" "Store.of" (defArgs sSof) (defBody sSof) (defScope sSof) .none kVSOf dcSOf pmSOf anSOf cdSOf ctSOf), slSOf⟩)
    (w2SOf : PySem.W.codeIn K cdSOf "Store.of" = true)
    (w3SOf : PySem.W.keepIn K (.ref fSOf) = true)
    (w1SLa : K.lookup fSLa = some ⟨ocSLa, odSLa, .func (PySem.W.fnOf "language" "Store.language" (defArgs sSla) (defBody sSla) (defScope sSla) .none kVSLa dcSLa pmSLa anSLa cdSLa ctSLa), slSLa⟩)
    (w2SLa : PySem.W.codeIn K cdSLa "Store.language" = true)
    (w3SLa : PySem.W.keepIn K (.ref fSLa) = true)
    (w1SNm : K.lookup fSNm = some ⟨ocSNm, odSNm, .func (PySem.W.fnOf "names" "Store.names" (defArgs sSnm) (defBody sSnm) (defScope sSnm) .none kVSNm dcSNm pmSNm anSNm cdSNm ctSNm), slSNm⟩)
    (w2SNm : PySem.W.codeIn K cdSNm "Store.names" = true)
    (w3SNm : PySem.W.keepIn K (.ref fSNm) = true)
    (w1STh : K.lookup fSTh = some ⟨ocSTh, odSTh, .func (PySem.W.fnOf "things" "Store.things" (defArgs sSth) (defBody sSth) (defScope sSth) .none kVSTh dcSTh pmSTh anSTh cdSTh ctSTh), slSTh⟩)
    (w2STh : PySem.W.codeIn K cdSTh "Store.things" = true)
    (w3STh : PySem.W.keepIn K (.ref fSTh) = true)
    (w1SMo : K.lookup fSMo = some ⟨ocSMo, odSMo, .func (PySem.W.fnOf "marks_of" "Store.marks_of" (defArgs sSmo) (defBody sSmo) (defScope sSmo) .none kVSMo dcSMo pmSMo anSMo cdSMo ctSMo), slSMo⟩)
    (w2SMo : PySem.W.codeIn K cdSMo "Store.marks_of" = true)
    (w3SMo : PySem.W.keepIn K (.ref fSMo) = true)
    (w1SLo : K.lookup fSLo = some ⟨ocSLo, odSLo, .func (PySem.W.fnOf "links_of" "Store.links_of" (defArgs sSlo) (defBody sSlo) (defScope sSlo) .none kVSLo dcSLo pmSLo anSLo cdSLo ctSLo), slSLo⟩)
    (w2SLo : PySem.W.codeIn K cdSLo "Store.links_of" = true)
    (w3SLo : PySem.W.keepIn K (.ref fSLo) = true)
    (w1SEn : K.lookup fSEn = some ⟨ocSEn, odSEn, .func (PySem.W.fnOf "ends" "Store.ends" (defArgs sSen) (defBody sSen) (defScope sSen) .none kVSEn dcSEn pmSEn anSEn cdSEn ctSEn), slSEn⟩)
    (w2SEn : PySem.W.codeIn K cdSEn "Store.ends" = true)
    (w3SEn : PySem.W.keepIn K (.ref fSEn) = true)
    (w1SEq : K.lookup fSEq = some ⟨ocSEq, odSEq, .func (PySem.W.fnOf "__eq__" "Store.__eq__" (defArgs sSeq) (defBody sSeq) (defScope sSeq) .none kVSEq dcSEq pmSEq anSEq cdSEq ctSEq), slSEq⟩)
    (w2SEq : PySem.W.codeIn K cdSEq "Store.__eq__" = true)
    (w3SEq : PySem.W.keepIn K (.ref fSEq) = true)
    (w1SHa : K.lookup fSHa = some ⟨ocSHa, odSHa, .func (PySem.W.fnOf "__contains__" "Store.__contains__" (defArgs sSha) (defBody sSha) (defScope sSha) .none kVSHa dcSHa pmSHa anSHa cdSHa ctSHa), slSHa⟩)
    (w2SHa : PySem.W.codeIn K cdSHa "Store.__contains__" = true)
    (w3SHa : PySem.W.keepIn K (.ref fSHa) = true)
    (w1SLe : K.lookup fSLe = some ⟨ocSLe, odSLe, .func (PySem.W.fnOf "__len__" "Store.__len__" (defArgs sSle) (defBody sSle) (defScope sSle) .none kVSLe dcSLe pmSLe anSLe cdSLe ctSLe), slSLe⟩)
    (w2SLe : PySem.W.codeIn K cdSLe "Store.__len__" = true)
    (w3SLe : PySem.W.keepIn K (.ref fSLe) = true)
    (w1SSt : K.lookup fSSt = some ⟨ocSSt, odSSt, .func (PySem.W.fnOf "__str__" "Store.__str__" (defArgs sSst) (defBody sSst) (defScope sSst) .none kVSSt dcSSt pmSSt anSSt cdSSt ctSSt), slSSt⟩)
    (w2SSt : PySem.W.codeIn K cdSSt "Store.__str__" = true)
    (w3SSt : PySem.W.keepIn K (.ref fSSt) = true)
    (w1MIn : K.lookup fMIn = some ⟨ocMIn, odMIn, .func (PySem.W.fnOf "__init__" "MadeStore.__init__" (defArgs sMin) (defBody sMin) (defScope sMin) .none kVMIn dcMIn pmMIn anMIn cdMIn ctMIn), slMIn⟩)
    (w2MIn : PySem.W.codeIn K cdMIn "MadeStore.__init__" = true)
    (w3MIn : PySem.W.keepIn K (.ref fMIn) = true)
    (z_isinstance : PySem.W.nsIn K mainGlobals "isinstance" = some none)
    (z_tuple : PySem.W.nsIn K mainGlobals "tuple" = some none)
    (z_all : PySem.W.nsIn K mainGlobals "all" = some none)
    (z_any : PySem.W.nsIn K mainGlobals "any" = some none)
    (z_sorted : PySem.W.nsIn K mainGlobals "sorted" = some none)
    (z_list : PySem.W.nsIn K mainGlobals "list" = some none)
    (z_len : PySem.W.nsIn K mainGlobals "len" = some none)
    (z_str : PySem.W.nsIn K mainGlobals "str" = some none)
    (z_int : PySem.W.nsIn K mainGlobals "int" = some none)
    (z_abs : PySem.W.nsIn K mainGlobals "abs" = some none)
    (z_max : PySem.W.nsIn K mainGlobals "max" = some none)
    (z_min : PySem.W.nsIn K mainGlobals "min" = some none)
    (z_range : PySem.W.nsIn K mainGlobals "range" = some none)
    (z_set : PySem.W.nsIn K mainGlobals "set" = some none)
    (z_repr : PySem.W.nsIn K mainGlobals "repr" = some none)
    (z_dict : PySem.W.nsIn K mainGlobals "dict" = some none)
    (z_sum : PySem.W.nsIn K mainGlobals "sum" = some none)
    (z_enumerate : PySem.W.nsIn K mainGlobals "enumerate" = some none)
    (z_bool : PySem.W.nsIn K mainGlobals "bool" = some none)
    (g8 : PySem.W.nsIn K mainGlobals "MAX_MARKS" = some (some (.int 8 t8)))
    (g4 : PySem.W.nsIn K mainGlobals "MAX_KINDS" = some (some (.int 4 t4)))
    (g9 : PySem.W.nsIn K mainGlobals "MAX_SIGNS" = some (some (.int 8 t9)))
    (gT : PySem.W.nsIn K mainGlobals "MAX_THINGS" = some (some (.int 400 tT)))
    (gs : PySem.W.nsIn K mainGlobals "SIGNS" = some (some (.str "abcdefghijklmnopqrstuvwxyz" ts)))
    : ∃ fd : FuncData, (∀ (s : Shared) (u : Value), BindsTo s fd ⟨[u], []⟩ [("_law_script", u)]) ∧ ∀ base : Heap, K.In base → base.Ns mainGlobals mg → FnOk P w K mg base CX0 10 fa fd ["_law_script"] (spLaw4 K) := by
  have e := hfa.symm.trans (PySem.W.mg_of X G w0La)
  cases e
  have L : LCls K CL := ⟨⟨i1CL, i2CL, i3CL, i4CL⟩, j0CL, j1CL⟩
  have SS : SCls K CS := ⟨⟨i1CS, i2CS, i3CS, i4CS⟩, j0CS, j1CS⟩
  have SM : SCls K CM := ⟨⟨i1CM, i2CM, i3CM, i4CM⟩, j0CM, j1CM⟩
  have ML : Mk K CL fLIn := ⟨k1CL, iniCL, v2LIn, k2CL⟩
  have MS : Mk K CS fSIn := ⟨k1CS, iniCS, v2SIn, k2CS⟩
  have MM : Mk K CM fMIn := ⟨k1CM, iniCM, v2MIn, k2CM⟩
  have Is : LIs K CL := ⟨k3CL, e5, e6, k4CL, by unfold PySem.W.kitOne; rw [if_pos (beq_self_eq_true _)]⟩
  have Im : SIs K CS CM := ⟨k3CM, e5, e6, k4CM, kit_refT k6CS k7CS suMS⟩
  have Iss : SIs K CS CS := ⟨k3CS, e5, e6, k4CS, by unfold PySem.W.kitOne; rw [if_pos (beq_self_eq_true _)]⟩
  have Y : TyS K CL CS CM := ⟨kit_ref k6CS k7CS (ty_ne _ _) s0, kit_ref k6CS k7CS (ty_ne _ _) s3, kit_ref k6CS k7CS (ty_ne _ _) s5, kit_ref k6CS k7CS (ty_ne _ _) s6, kit_ref k6CS k7CS (beq_eq_false_iff_ne.mpr fun z => neLS (Value.ref.inj z)) suLS, n0, n3, n5, n6, nL, nM, nLL⟩
  have NL : NeO K CL := ⟨k5CL, k4CL⟩
  have NM : NeO K CM := ⟨k5CM, k4CM⟩
  have YD : Below K CS CM := ⟨neMS, suMS⟩
  have crL : CRead K CL (.type "type") := ⟨r1CL, r2CL⟩
  have cmL : CMet K CL (.type "type") "of" pLO fLOf := ⟨r3CL, ⟨_, r4CL⟩, r5CL⟩
  have crS : CRead K CS (.type "type") := ⟨r1CS, r2CS⟩
  have cmS : CMet K CS (.type "type") "of" pSO fSOf := ⟨r3CS, ⟨_, r4CS⟩, r5CS⟩
  have pLM' : PropOf K CL "marks" pLM fLMk := ⟨u1CLLMk, u2LMk, u3LMk, ⟨_, u4LMk⟩⟩
  have pLK' : PropOf K CL "kinds" pLK fLKi := ⟨u1CLLKi, u2LKi, u3LKi, ⟨_, u4LKi⟩⟩
  have pSL' : PropOf K CM "language" pSL fSLa := ⟨u1CMSLa, u2SLa, u3SLa, ⟨_, u4SLa⟩⟩
  have pSN' : PropOf K CM "names" pSN fSNm := ⟨u1CMSNm, u2SNm, u3SNm, ⟨_, u4SNm⟩⟩
  have pSN2 : PropOf K CS "names" pSN fSNm := ⟨u1CSSNm, u2SNm, u3SNm, ⟨_, u4SNm⟩⟩
  have pST' : PropOf K CM "things" pST fSTh := ⟨u1CMSTh, u2STh, u3STh, ⟨_, u4STh⟩⟩
  have FNa := fun_mk (st := sName) w1Na w2Na w3Na
  have FRl := fun_mk (st := sRl) w1Rl w2Rl w3Rl
  have FRk := fun_mk (st := sRk) w1Rk w2Rk w3Rk
  have FDn := fun_mk (st := sDn) w1Dn w2Dn w3Dn
  have FRt := fun_mk (st := sRt) w1Rt w2Rt w3Rt
  have FRp := fun_mk (st := sRp) w1Rp w2Rp w3Rp
  have FDs := fun_mk (st := sDi) w1Ds w2Ds w3Ds
  have FCk := fun_mk (st := sCk) w1Ck w2Ck w3Ck
  have FDi := fun_mk (st := sDice) w1Di w2Di w3Di
  have FRo := fun_mk (st := sRoll) w1Ro w2Ro w3Ro
  have FPi := fun_mk (st := sPick) w1Pi w2Pi w3Pi
  have FMi := fun_mk (st := sMixed) w1Mi w2Mi w3Mi
  have FWo := fun_mk (st := sWords) w1Wo w2Wo w3Wo
  have FLg := fun_mk (st := sLg) w1Lg w2Lg w3Lg
  have FLk := fun_mk (st := sLk) w1Lk w2Lk w3Lk
  have FSo := fun_mk (st := sSto) w1So w2So w3So
  have FPa := fun_mk (st := sPas) w1Pa w2Pa w3Pa
  have FNe := fun_mk (st := sNear) w1Ne w2Ne w3Ne
  have FTo := fun_mk (st := sTold) w1To w2To w3To
  have FRi := fun_mk (st := sRt4) w1Ri w2Ri w3Ri
  have FLa := fun_mk (st := sLaw4) w1La w2La w3La
  have FLIn := fun_mk (st := sLin) w1LIn w2LIn w3LIn
  have FLOf := fun_mk (st := sLof) w1LOf w2LOf w3LOf
  have FLMk := fun_mk (st := sLmk) w1LMk w2LMk w3LMk
  have FLKi := fun_mk (st := sLki) w1LKi w2LKi w3LKi
  have FLEq := fun_mk (st := sLeq) w1LEq w2LEq w3LEq
  have FSIn := fun_mk (st := sSin) w1SIn w2SIn w3SIn
  have FSOf := fun_mk (st := sSof) w1SOf w2SOf w3SOf
  have FSLa := fun_mk (st := sSla) w1SLa w2SLa w3SLa
  have FSNm := fun_mk (st := sSnm) w1SNm w2SNm w3SNm
  have FSTh := fun_mk (st := sSth) w1STh w2STh w3STh
  have FSMo := fun_mk (st := sSmo) w1SMo w2SMo w3SMo
  have FSLo := fun_mk (st := sSlo) w1SLo w2SLo w3SLo
  have FSEn := fun_mk (st := sSen) w1SEn w2SEn w3SEn
  have FSEq := fun_mk (st := sSeq) w1SEq w2SEq w3SEq
  have FSHa := fun_mk (st := sSha) w1SHa w2SHa w3SHa
  have FSLe := fun_mk (st := sSle) w1SLe w2SLe w3SLe
  have FSSt := fun_mk (st := sSst) w1SSt w2SSt w3SSt
  have FMIn := fun_mk (st := sMin) w1MIn w2MIn w3MIn
  have bNa := FNa.binds (ps := ["value"]) fun _ _ _ _ _ _ us hl => match us, hl with | [_], _ => rfl
  have bRl := FRl.binds (ps := ["language"]) fun _ _ _ _ _ _ us hl => match us, hl with | [_], _ => rfl
  have bRk := FRk.binds (ps := ["language", "kind"]) fun _ _ _ _ _ _ us hl => match us, hl with | [_, _], _ => rfl
  have bDn := FDn.binds (ps := ["values"]) fun _ _ _ _ _ _ us hl => match us, hl with | [_], _ => rfl
  have bRt := FRt.binds (ps := ["store", "thing"]) fun _ _ _ _ _ _ us hl => match us, hl with | [_, _], _ => rfl
  have bRp := FRp.binds (ps := ["language", "things", "pair"]) fun _ _ _ _ _ _ us hl => match us, hl with | [_, _, _], _ => rfl
  have bDs := FDs.binds (ps := ["items"]) fun _ _ _ _ _ _ us hl => match us, hl with | [_], _ => rfl
  have bCk := FCk.binds (ps := ["language", "things"]) fun _ _ _ _ _ _ us hl => match us, hl with | [_, _], _ => rfl
  have bDi := FDi.binds (ps := ["_law_script", "_law_spot"]) fun _ _ _ _ _ _ us hl => match us, hl with | [_, _], _ => rfl
  have bRo := FRo.binds (ps := ["_law_dice_here", "_law_upto"]) fun _ _ _ _ _ _ us hl => match us, hl with | [_, _], _ => rfl
  have bPi := FPi.binds (ps := ["_law_dice_here", "_law_items"]) fun _ _ _ _ _ _ us hl => match us, hl with | [_, _], _ => rfl
  have bMi := FMi.binds (ps := ["_law_dice_here", "_law_items"]) fun _ _ _ _ _ _ us hl => match us, hl with | [_, _], _ => rfl
  have bWo := FWo.binds (ps := ["_law_dice_here", "_law_upto"]) fun _ _ _ _ _ _ us hl => match us, hl with | [_, _], _ => rfl
  have bLg := FLg.binds (ps := ["_law_dice_here", "_law_marks", "_law_sorts"]) fun _ _ _ _ _ _ us hl => match us, hl with | [_, _, _], _ => rfl
  have bLk := FLk.binds (ps := ["_law_dice_here", "_law_language_here", "_law_names", "_law_at", "_law_way"]) fun _ _ _ _ _ _ us hl => match us, hl with | [_, _, _, _, _], _ => rfl
  have bSo := FSo.binds (ps := ["_law_dice_here", "_law_language_here", "_law_most"]) fun _ _ _ _ _ _ us hl => match us, hl with | [_, _, _], _ => rfl
  have bPa := FPa.binds (ps := ["_law_dice_here", "_law_store_here"]) fun _ _ _ _ _ _ us hl => match us, hl with | [_, _], _ => rfl
  have bNe := FNe.binds (ps := ["_law_dice_here", "_law_language_here", "_law_store_here"]) fun _ _ _ _ _ _ us hl => match us, hl with | [_, _, _], _ => rfl
  have bTo := FTo.binds (ps := ["_law_language_here", "_law_store_here", "_law_made"]) fun _ _ _ _ _ _ us hl => match us, hl with | [_, _, _], _ => rfl
  have bRi := FRi.binds (ps := ["_law_dice_here"]) fun _ _ _ _ _ _ us hl => match us, hl with | [_], _ => rfl
  have bLa := FLa.binds (ps := ["_law_script"]) fun _ _ _ _ _ _ us hl => match us, hl with | [_], _ => rfl
  have bLOf := FLOf.binds (ps := ["cls", "marks", "kinds"]) fun _ _ _ _ _ _ us hl => match us, hl with | [_, _, _], _ => rfl
  have bLMk := FLMk.binds (ps := ["self"]) fun _ _ _ _ _ _ us hl => match us, hl with | [_], _ => rfl
  have bLKi := FLKi.binds (ps := ["self"]) fun _ _ _ _ _ _ us hl => match us, hl with | [_], _ => rfl
  have bLEq := FLEq.binds (ps := ["self", "other"]) fun _ _ _ _ _ _ us hl => match us, hl with | [_, _], _ => rfl
  have bSOf := FSOf.binds (ps := ["cls", "language", "things"]) fun _ _ _ _ _ _ us hl => match us, hl with | [_, _, _], _ => rfl
  have bSLa := FSLa.binds (ps := ["self"]) fun _ _ _ _ _ _ us hl => match us, hl with | [_], _ => rfl
  have bSNm := FSNm.binds (ps := ["self"]) fun _ _ _ _ _ _ us hl => match us, hl with | [_], _ => rfl
  have bSTh := FSTh.binds (ps := ["self"]) fun _ _ _ _ _ _ us hl => match us, hl with | [_], _ => rfl
  have bSMo := FSMo.binds (ps := ["self", "thing"]) fun _ _ _ _ _ _ us hl => match us, hl with | [_, _], _ => rfl
  have bSLo := FSLo.binds (ps := ["self", "thing"]) fun _ _ _ _ _ _ us hl => match us, hl with | [_, _], _ => rfl
  have bSEn := FSEn.binds (ps := ["self", "thing", "kind"]) fun _ _ _ _ _ _ us hl => match us, hl with | [_, _, _], _ => rfl
  have bSEq := FSEq.binds (ps := ["self", "other"]) fun _ _ _ _ _ _ us hl => match us, hl with | [_, _], _ => rfl
  have bSHa := FSHa.binds (ps := ["self", "value"]) fun _ _ _ _ _ _ us hl => match us, hl with | [_, _], _ => rfl
  have bSLe := FSLe.binds (ps := ["self"]) fun _ _ _ _ _ _ us hl => match us, hl with | [_], _ => rfl
  have bSSt := FSSt.binds (ps := ["self"]) fun _ _ _ _ _ _ us hl => match us, hl with | [_], _ => rfl
  have bMIn := FMIn.binds (ps := ["self", "language", "things"]) fun _ _ _ _ _ _ us hl => match us, hl with | [_, _, _], _ => rfl
  have m_isinstance := PySem.W.mg_none_of X G z_isinstance
  have m_tuple := PySem.W.mg_none_of X G z_tuple
  have m_all := PySem.W.mg_none_of X G z_all
  have m_any := PySem.W.mg_none_of X G z_any
  have m_sorted := PySem.W.mg_none_of X G z_sorted
  have m_list := PySem.W.mg_none_of X G z_list
  have m_len := PySem.W.mg_none_of X G z_len
  have m_str := PySem.W.mg_none_of X G z_str
  have m_int := PySem.W.mg_none_of X G z_int
  have m_abs := PySem.W.mg_none_of X G z_abs
  have m_max := PySem.W.mg_none_of X G z_max
  have m_min := PySem.W.mg_none_of X G z_min
  have m_range := PySem.W.mg_none_of X G z_range
  have m_set := PySem.W.mg_none_of X G z_set
  have m_repr := PySem.W.mg_none_of X G z_repr
  have m_dict := PySem.W.mg_none_of X G z_dict
  have m_sum := PySem.W.mg_none_of X G z_sum
  have m_enumerate := PySem.W.mg_none_of X G z_enumerate
  have m_bool := PySem.W.mg_none_of X G z_bool
  have qNa := PySem.W.mg_of X G w0Na
  have qRl := PySem.W.mg_of X G w0Rl
  have qRk := PySem.W.mg_of X G w0Rk
  have qDn := PySem.W.mg_of X G w0Dn
  have qRt := PySem.W.mg_of X G w0Rt
  have qRp := PySem.W.mg_of X G w0Rp
  have qDs := PySem.W.mg_of X G w0Ds
  have qCk := PySem.W.mg_of X G w0Ck
  have qDi := PySem.W.mg_of X G w0Di
  have qRo := PySem.W.mg_of X G w0Ro
  have qPi := PySem.W.mg_of X G w0Pi
  have qMi := PySem.W.mg_of X G w0Mi
  have qWo := PySem.W.mg_of X G w0Wo
  have qLg := PySem.W.mg_of X G w0Lg
  have qLk := PySem.W.mg_of X G w0Lk
  have qSo := PySem.W.mg_of X G w0So
  have qPa := PySem.W.mg_of X G w0Pa
  have qNe := PySem.W.mg_of X G w0Ne
  have qTo := PySem.W.mg_of X G w0To
  have qRi := PySem.W.mg_of X G w0Ri
  have qLa := PySem.W.mg_of X G w0La
  have gL := PySem.W.mg_of X G aCL
  have gS := PySem.W.mg_of X G aCS
  have gM := PySem.W.mg_of X G aCM
  have g8' := PySem.W.mg_of X G g8
  have g4' := PySem.W.mg_of X G g4
  have g9' := PySem.W.mg_of X G g9
  have gT' := PySem.W.mg_of X G gT
  have gs' : mg "SIGNS" = some (.str signs ts) := PySem.W.mg_of X G gs
  refine ⟨PySem.W.fnOf "law" "law" (defArgs sLaw4) (defBody sLaw4) (defScope sLaw4) .none kVLa dcLa pmLa anLa cdLa ctLa, fun s u => .of_eq rfl, fun base _ _ => ?_⟩
  have GN : ∀ k, CdN P w K mg base (k + 1) "is_name" ["value"] (spName K) := fun k => ⟨_, _, ok_name FNa m_isinstance m_str m_len m_all g9' gs', bNa, qNa, w3Na⟩
  have DN : ∀ k, CdN P w K mg base (k + 2) "different_names" ["values"] (spDn K) := fun k => ⟨_, _, ok_dn FDn (GN k) m_isinstance m_tuple m_all m_sorted m_list, bDn, qDn, w3Dn⟩
  have LI : ∀ k, FnA P w K mg base CX0 (k + 3) fLIn ["kinds"] (spLin K CL) := fun k => ok_lin FLIn L (DN k) m_len m_any g8' g4'
  have LO : ∀ k, CmN P w K mg base (k + 5) CL "of" (spLof K CL) := fun k => ⟨_, _, _, crL, cmL, rawN (ok_lof FLOf ML (LI k) m_isinstance m_tuple) bLOf⟩
  have PM : ∀ k, PpN P w K mg base (k + 1) CL "marks" (spLmk CL true) := fun k => ⟨_, _, _, ok_lmk FLMk L, bLMk, pLM'⟩
  have PK : ∀ k, PpN P w K mg base (k + 1) CL "kinds" (spLmk CL false) := fun k => ⟨_, _, _, ok_lki FLKi L, bLKi, pLK'⟩
  have RL : ∀ k, CdN P w K mg base (k + 1) "require_language" ["language"] (spRl CL) := fun k => ⟨_, _, ok_rl FRl L Is gL m_isinstance, bRl, qRl, w3Rl⟩
  have RP : ∀ k, CdN P w K mg base (k + 3) "require_pair" ["language", "things", "pair"] (spRp CL) := fun k => ⟨_, _, ok_rp FRp L (PM k) (PK k) m_isinstance m_tuple m_len m_all m_str, bRp, qRp, w3Rp⟩
  have DIS : ∀ k, CdN P w K mg base (k + 1) "different_items" ["items"] spDiS := fun k => ⟨_, _, ok_dis FDs m_tuple m_sorted m_list, bDs, qDs, w3Ds⟩
  have DIP : ∀ k, CdN P w K mg base (k + 1) "different_items" ["items"] spDiP := fun k => ⟨_, _, ok_dip FDs m_tuple m_sorted m_list, bDs, qDs, w3Ds⟩
  have CK : ∀ k, CdN P w K mg base (k + 4) "checked_things" ["language", "things"] (spCk CL) := fun k => ⟨_, _, ok_ck FCk (GN (k + 2)) (RP k) (DIS (k + 2)) (DIP (k + 2)) m_isinstance m_dict m_all m_len m_sorted m_list gT', bCk, qCk, w3Ck⟩
  have SO : ∀ k, CmN P w K mg base (k + 5) CS "of" (spSof CL CS CM) := fun k => ⟨_, _, _, crS, cmS, rawN (ok_sof FSOf MM (ok_min (k := k + 2) FMIn SM) bMIn gM (RL (k + 3)) (CK k)) bSOf⟩
  have I0 : ∀ k, FnR P w K mg base CX0 (k + 5) fSIn (spSin0 CL CS) := fun k => ok_sin0 FSIn SS (RL (k + 3)) (CK k)
  have I2 : ∀ k, FnA P w K mg base CX0 (k + 5) fSIn ["bob", "ann"] (spSin2 CL CS "bob" "ann") := fun k => ok_sin2 FSIn SS (RL (k + 3)) (CK k)
  have HA : ∀ k, OwN P w K mg base (k + 1) CM "__contains__" (spSha K CL CM) := fun k => ⟨_, rawN (ok_sha FSHa SM m_isinstance m_str) bSHa, ⟨v1CMSHa, v2SHa⟩⟩
  have RT : ∀ k, CdN P w K mg base (k + 2) "require_thing" ["store", "thing"] (spRt CL CM) := fun k => ⟨_, _, ok_rt FRt (HA k), bRt, qRt, w3Rt⟩
  have RK : ∀ k, CdN P w K mg base (k + 3) "require_kind" ["language", "kind"] (spRk CL) := fun k => ⟨_, _, ok_rk FRk L (PK k), bRk, qRk, w3Rk⟩
  have MO : ∀ k, MtN P w K mg base (k + 3) CM "marks_of" ["self", "thing"] (spSmo CL CM) := fun k => ⟨_, _, ok_smo FSMo SM (RT k), bSMo, ⟨v1CMSMo, v2SMo, w3SMo⟩⟩
  have MLo : ∀ k, MtN P w K mg base (k + 3) CM "links_of" ["self", "thing"] (spSlo CL CM) := fun k => ⟨_, _, ok_slo FSLo SM (RT k), bSLo, ⟨v1CMSLo, v2SLo, w3SLo⟩⟩
  have EN : ∀ k, MtN P w K mg base (k + 4) CM "ends" ["self", "thing", "kind"] (spSen CL CM) := fun k => ⟨_, _, ok_sen FSEn SM (RT (k + 1)) (RK k) m_tuple, bSEn, ⟨v1CMSEn, v2SEn, w3SEn⟩⟩
  have EL : ∀ k, OwN P w K mg base (k + 1) CL "__eq__" (spLeq K CL) := fun k => ⟨_, rawN (ok_leq FLEq L Is gL m_isinstance) bLEq, ⟨v1CLLEq, v2LEq⟩⟩
  have ES : ∀ k, OwN P w K mg base (k + 2) CM "__eq__" (spSeq K CL CS CM CM) := fun k => ⟨_, rawN (ok_seq FSEq SM SM Im (EL k) gS m_isinstance) bSEq, ⟨v1CMSEq, v2SEq⟩⟩
  have ES2 : ∀ k, OwN P w K mg base (k + 2) CM "__eq__" (spSeq K CL CS CM CS) := fun k => ⟨_, rawN (ok_seq FSEq SM SS Iss (EL k) gS m_isinstance) bSEq, ⟨v1CMSEq, v2SEq⟩⟩
  have TM : SAll P w K mg base 5 CL CM := ⟨SM, ⟨_, _, _, ok_sla FSLa SM, bSLa, pSL'⟩, ⟨_, _, _, ok_snm FSNm SM m_tuple m_list, bSNm, pSN'⟩, ⟨_, _, _, ok_sth FSTh SM m_dict, bSTh, pST'⟩, MO 4, MLo 4, EN 3, HA 6, ⟨_, rawN (ok_sle FSLe SM m_len) bSLe, ⟨v1CMSLe, v2SLe⟩⟩, ⟨_, rawN (ok_sst FSSt SM m_len m_sum) bSSt, ⟨v1CMSSt, v2SSt⟩⟩⟩
  have TS : SOwn P w K mg base 5 CL CS := ⟨SS, ⟨_, _, _, ok_snm FSNm SS m_tuple m_list, bSNm, pSN2⟩, ⟨_, rawN (ok_sle FSLe SS m_len) bSLe, ⟨v1CSSLe, v2SLe⟩⟩, ⟨_, rawN (ok_sst FSSt SS m_len m_sum) bSSt, ⟨v1CSSSt, v2SSt⟩⟩, nbS⟩
  have RO : ∀ k, CdN P w K mg base (k + 1) "_law_roll" ["_law_dice_here", "_law_upto"] spRoll := fun k => ⟨_, _, ok_roll FRo m_int, bRo, qRo, w3Ro⟩
  have PI : ∀ k, CdN P w K mg base (k + 2) "_law_pick" ["_law_dice_here", "_law_items"] (spPick K) := fun k => ⟨_, _, ok_pick FPi FRo bRo qRo m_int m_len, bPi, qPi, w3Pi⟩
  have MX : ∀ k, CdN P w K mg base (k + 2) "_law_mixed" ["_law_dice_here", "_law_items"] (spMix K) := fun k => ⟨_, _, ok_mix FMi FRo bRo qRo m_int m_len m_list, bMi, qMi, w3Mi⟩
  have WO : ∀ k, CdN P w K mg base (k + 3) "_law_words" ["_law_dice_here", "_law_upto"] spWords := fun k => ⟨_, _, ok_words FWo (MX k), bWo, qWo, w3Wo⟩
  have LG : ∀ k, CdN P w K mg base (k + 4) "_law_language" ["_law_dice_here", "_law_marks", "_law_sorts"] spLg := fun k => ⟨_, _, ok_lg FLg (WO k) (RO (k + 2)) m_tuple m_sorted, bLg, qLg, w3Lg⟩
  have LK : ∀ k, CdN P w K mg base (k + 3) "_law_links" ["_law_dice_here", "_law_language_here", "_law_names", "_law_at", "_law_way"] spLk := fun k => ⟨_, _, ok_lk FLk (PI k) (RO (k + 1)) m_tuple m_sorted m_range m_list m_int m_len m_set, bLk, qLk, w3Lk⟩
  have STO : ∀ k, CdN P w K mg base (k + 4) "_law_store" ["_law_dice_here", "_law_language_here", "_law_most"] spSto := fun k => ⟨_, _, ok_sto FSo (WO k) (RO (k + 2)) (LK k) m_tuple m_enumerate, bSo, qSo, w3So⟩
  have PA : ∀ k, CdN P w K mg base (k + 3) "_law_passed" ["_law_dice_here", "_law_store_here"] spPas := fun k => ⟨_, _, ok_pas FPa (MX k) (RO (k + 1)) (PI k) m_tuple m_sorted m_list, bPa, qPa, w3Pa⟩
  have NE : ∀ k, CdN P w K mg base (k + 3) "_law_near" ["_law_dice_here", "_law_language_here", "_law_store_here"] spNear := fun k => ⟨_, _, ok_near FNe (RO (k + 1)) (PI k) m_tuple m_sorted m_list m_dict m_set, bNe, qNe, w3Ne⟩
  have TO : CdN P w K mg base 8 "_law_told_right" ["_law_language_here", "_law_store_here", "_law_made"] (spTold K CL CM) := ⟨_, _, ok_told (k := 5) FTo TM m_tuple m_sorted m_list m_len m_str, bTo, qTo, w3To⟩
  have RI : CdN P w K mg base 9 "_law_right" ["_law_dice_here"] spRt4 := ⟨_, _, ok_rt4 (k := 5) FRi (LG 4) (STO 4) (PA 5) (NE 5) TO (LO 3) (SO 3) gL gS L Is TM Im (EL 6) NL (ES 5) NM Y m_repr m_dict, bRi, qRi, w3Ri⟩
  have DI : CdN P w K mg base 9 "_law_dice" ["_law_script", "_law_spot"] (spDice K) := ⟨_, _, ok_dice FDi m_int m_len m_abs m_max, bDi, qDi, w3Di⟩
  exact ok_law4 (k := 5) FLa DI RI (LO 3) (SO 3) gL gS MS (I2 3) (I0 3) TS TM (ES2 5) NM YD m_range m_max m_min m_len m_str m_bool
end Tf

open PySem PySem.W PyProof.Rows
set_option maxRecDepth 100000 in
set_option maxHeartbeats 0 in
theorem PySem.Challenge.cw_treefits_k04_stores_made_holds : PySem.Challenge.rw_treefits_k04_stores_made.Holds := by
  w_on; o_law; k_head; (case hw => w_witness2)
  k_fill
  refine L2.walk_ofK (l := PySem.Challenge.rw_treefits_k04_stores_made) (n := 63) (k := 10) (x := "_law_script") (CX := L2.CX0) (sp := Tf.spLaw4) rfl (by decide) rfl ⟨rfl, by decide, by decide⟩ (fun w h Y => PySem.W.kIn_of Y) ?F (fun K H a ns hl _ hS => ⟨a, ns, rfl, hS, hl, fun _ => rfl⟩) (fun _ _ _ _ h => h)
  case F =>
    intro w mg fa h KX G hmg
    refine' Tf.all_mk KX G hmg ?zq_aCL ?zq_i1CL ?zq_i2CL ?zq_i3CL ?zq_i4CL ?zq_j0CL ?zq_j1CL ?zq_k1CL ?zq_k2CL ?zq_k3CL ?zq_k4CL ?zq_k5CL ?zq_k6CL ?zq_k7CL ?zq_iniCL ?zq_aCS ?zq_i1CS ?zq_i2CS ?zq_i3CS ?zq_i4CS ?zq_j0CS ?zq_j1CS ?zq_k1CS ?zq_k2CS ?zq_k3CS ?zq_k4CS ?zq_k5CS ?zq_k6CS ?zq_k7CS ?zq_iniCS ?zq_aCM ?zq_i1CM ?zq_i2CM ?zq_i3CM ?zq_i4CM ?zq_j0CM ?zq_j1CM ?zq_k1CM ?zq_k2CM ?zq_k3CM ?zq_k4CM ?zq_k5CM ?zq_k6CM ?zq_k7CM ?zq_iniCM ?zq_e5 ?zq_e6 ?zq_neMS ?zq_neLS ?zq_suMS ?zq_suLS ?zq_nbS ?zq_s0 ?zq_n0 ?zq_s3 ?zq_n3 ?zq_s5 ?zq_n5 ?zq_s6 ?zq_n6 ?zq_nL ?zq_nM ?zq_nLL ?zq_r1CL ?zq_r2CL ?zq_r3CL ?zq_r4CL ?zq_r5CL ?zq_r1CS ?zq_r2CS ?zq_r3CS ?zq_r4CS ?zq_r5CS ?zq_u1CLLMk ?zq_u2LMk ?zq_u3LMk ?zq_u4LMk ?zq_u1CLLKi ?zq_u2LKi ?zq_u3LKi ?zq_u4LKi ?zq_u1CMSLa ?zq_u2SLa ?zq_u3SLa ?zq_u4SLa ?zq_u1CMSNm ?zq_u1CSSNm ?zq_u2SNm ?zq_u3SNm ?zq_u4SNm ?zq_u1CMSTh ?zq_u2STh ?zq_u3STh ?zq_u4STh ?zq_v1CLLEq ?zq_v2LEq ?zq_v1CMSEq ?zq_v2SEq ?zq_v1CMSHa ?zq_v2SHa ?zq_v1CMSLe ?zq_v1CSSLe ?zq_v2SLe ?zq_v1CMSSt ?zq_v1CSSSt ?zq_v2SSt ?zq_v1CMSMo ?zq_v2SMo ?zq_v1CMSLo ?zq_v2SLo ?zq_v1CMSEn ?zq_v2SEn ?zq_v2LIn ?zq_v2SIn ?zq_v2MIn ?zq_w0Na ?zq_w1Na ?zq_w2Na ?zq_w3Na ?zq_w0Rl ?zq_w1Rl ?zq_w2Rl ?zq_w3Rl ?zq_w0Rk ?zq_w1Rk ?zq_w2Rk ?zq_w3Rk ?zq_w0Dn ?zq_w1Dn ?zq_w2Dn ?zq_w3Dn ?zq_w0Rt ?zq_w1Rt ?zq_w2Rt ?zq_w3Rt ?zq_w0Rp ?zq_w1Rp ?zq_w2Rp ?zq_w3Rp ?zq_w0Ds ?zq_w1Ds ?zq_w2Ds ?zq_w3Ds ?zq_w0Ck ?zq_w1Ck ?zq_w2Ck ?zq_w3Ck ?zq_w0Di ?zq_w1Di ?zq_w2Di ?zq_w3Di ?zq_w0Ro ?zq_w1Ro ?zq_w2Ro ?zq_w3Ro ?zq_w0Pi ?zq_w1Pi ?zq_w2Pi ?zq_w3Pi ?zq_w0Mi ?zq_w1Mi ?zq_w2Mi ?zq_w3Mi ?zq_w0Wo ?zq_w1Wo ?zq_w2Wo ?zq_w3Wo ?zq_w0Lg ?zq_w1Lg ?zq_w2Lg ?zq_w3Lg ?zq_w0Lk ?zq_w1Lk ?zq_w2Lk ?zq_w3Lk ?zq_w0So ?zq_w1So ?zq_w2So ?zq_w3So ?zq_w0Pa ?zq_w1Pa ?zq_w2Pa ?zq_w3Pa ?zq_w0Ne ?zq_w1Ne ?zq_w2Ne ?zq_w3Ne ?zq_w0To ?zq_w1To ?zq_w2To ?zq_w3To ?zq_w0Ri ?zq_w1Ri ?zq_w2Ri ?zq_w3Ri ?zq_w0La ?zq_w1La ?zq_w2La ?zq_w3La ?zq_w1LIn ?zq_w2LIn ?zq_w3LIn ?zq_w1LOf ?zq_w2LOf ?zq_w3LOf ?zq_w1LMk ?zq_w2LMk ?zq_w3LMk ?zq_w1LKi ?zq_w2LKi ?zq_w3LKi ?zq_w1LEq ?zq_w2LEq ?zq_w3LEq ?zq_w1SIn ?zq_w2SIn ?zq_w3SIn ?zq_w1SOf ?zq_w2SOf ?zq_w3SOf ?zq_w1SLa ?zq_w2SLa ?zq_w3SLa ?zq_w1SNm ?zq_w2SNm ?zq_w3SNm ?zq_w1STh ?zq_w2STh ?zq_w3STh ?zq_w1SMo ?zq_w2SMo ?zq_w3SMo ?zq_w1SLo ?zq_w2SLo ?zq_w3SLo ?zq_w1SEn ?zq_w2SEn ?zq_w3SEn ?zq_w1SEq ?zq_w2SEq ?zq_w3SEq ?zq_w1SHa ?zq_w2SHa ?zq_w3SHa ?zq_w1SLe ?zq_w2SLe ?zq_w3SLe ?zq_w1SSt ?zq_w2SSt ?zq_w3SSt ?zq_w1MIn ?zq_w2MIn ?zq_w3MIn ?zq_z_isinstance ?zq_z_tuple ?zq_z_all ?zq_z_any ?zq_z_sorted ?zq_z_list ?zq_z_len ?zq_z_str ?zq_z_int ?zq_z_abs ?zq_z_max ?zq_z_min ?zq_z_range ?zq_z_set ?zq_z_repr ?zq_z_dict ?zq_z_sum ?zq_z_enumerate ?zq_z_bool ?zq_g8 ?zq_g4 ?zq_g9 ?zq_gT ?zq_gs
    (case zq_aCL => k_is)
    (case zq_i1CL => k_is)
    (case zq_i2CL => k_is)
    (case zq_i3CL => k_is)
    (case zq_i4CL => k_is)
    (case zq_j0CL => k_is)
    (case zq_j1CL => k_is)
    (case zq_k1CL => k_is)
    (case zq_k2CL => k_is)
    (case zq_k3CL => k_is)
    (case zq_k4CL => k_is)
    (case zq_k5CL => k_is)
    (case zq_k6CL => k_is)
    (case zq_k7CL => k_is)
    (case zq_iniCL => k_is)
    (case zq_aCS => k_is)
    (case zq_i1CS => k_is)
    (case zq_i2CS => k_is)
    (case zq_i3CS => k_is)
    (case zq_i4CS => k_is)
    (case zq_j0CS => k_is)
    (case zq_j1CS => k_is)
    (case zq_k1CS => k_is)
    (case zq_k2CS => k_is)
    (case zq_k3CS => k_is)
    (case zq_k4CS => k_is)
    (case zq_k5CS => k_is)
    (case zq_k6CS => k_is)
    (case zq_k7CS => k_is)
    (case zq_iniCS => k_is)
    (case zq_aCM => k_is)
    (case zq_i1CM => k_is)
    (case zq_i2CM => k_is)
    (case zq_i3CM => k_is)
    (case zq_i4CM => k_is)
    (case zq_j0CM => k_is)
    (case zq_j1CM => k_is)
    (case zq_k1CM => k_is)
    (case zq_k2CM => k_is)
    (case zq_k3CM => k_is)
    (case zq_k4CM => k_is)
    (case zq_k5CM => k_is)
    (case zq_k6CM => k_is)
    (case zq_k7CM => k_is)
    (case zq_iniCM => k_is)
    (case zq_e5 => k_is)
    (case zq_e6 => k_is)
    (case zq_neMS => decide)
    (case zq_neLS => decide)
    (case zq_suMS => k_is)
    (case zq_suLS => k_is)
    (case zq_nbS => k_is)
    (case zq_s0 => k_is)
    (case zq_n0 => k_is)
    (case zq_s3 => k_is)
    (case zq_n3 => k_is)
    (case zq_s5 => k_is)
    (case zq_n5 => k_is)
    (case zq_s6 => k_is)
    (case zq_n6 => k_is)
    (case zq_nL => k_is)
    (case zq_nM => k_is)
    (case zq_nLL => k_is)
    (case zq_r1CL => k_is)
    (case zq_r2CL => k_is)
    (case zq_r3CL => k_is)
    (case zq_r4CL => k_is)
    (case zq_r5CL => k_is)
    (case zq_r1CS => k_is)
    (case zq_r2CS => k_is)
    (case zq_r3CS => k_is)
    (case zq_r4CS => k_is)
    (case zq_r5CS => k_is)
    (case zq_u1CLLMk => k_is)
    (case zq_u2LMk => k_is)
    (case zq_u3LMk => k_is)
    (case zq_u4LMk => k_is)
    (case zq_u1CLLKi => k_is)
    (case zq_u2LKi => k_is)
    (case zq_u3LKi => k_is)
    (case zq_u4LKi => k_is)
    (case zq_u1CMSLa => k_is)
    (case zq_u2SLa => k_is)
    (case zq_u3SLa => k_is)
    (case zq_u4SLa => k_is)
    (case zq_u1CMSNm => k_is)
    (case zq_u1CSSNm => k_is)
    (case zq_u2SNm => k_is)
    (case zq_u3SNm => k_is)
    (case zq_u4SNm => k_is)
    (case zq_u1CMSTh => k_is)
    (case zq_u2STh => k_is)
    (case zq_u3STh => k_is)
    (case zq_u4STh => k_is)
    (case zq_v1CLLEq => k_is)
    (case zq_v2LEq => k_is)
    (case zq_v1CMSEq => k_is)
    (case zq_v2SEq => k_is)
    (case zq_v1CMSHa => k_is)
    (case zq_v2SHa => k_is)
    (case zq_v1CMSLe => k_is)
    (case zq_v1CSSLe => k_is)
    (case zq_v2SLe => k_is)
    (case zq_v1CMSSt => k_is)
    (case zq_v1CSSSt => k_is)
    (case zq_v2SSt => k_is)
    (case zq_v1CMSMo => k_is)
    (case zq_v2SMo => k_is)
    (case zq_v1CMSLo => k_is)
    (case zq_v2SLo => k_is)
    (case zq_v1CMSEn => k_is)
    (case zq_v2SEn => k_is)
    (case zq_v2LIn => k_is)
    (case zq_v2SIn => k_is)
    (case zq_v2MIn => k_is)
    (case zq_w0Na => k_is)
    (case zq_w1Na => k_is)
    (case zq_w2Na => k_is)
    (case zq_w3Na => k_is)
    (case zq_w0Rl => k_is)
    (case zq_w1Rl => k_is)
    (case zq_w2Rl => k_is)
    (case zq_w3Rl => k_is)
    (case zq_w0Rk => k_is)
    (case zq_w1Rk => k_is)
    (case zq_w2Rk => k_is)
    (case zq_w3Rk => k_is)
    (case zq_w0Dn => k_is)
    (case zq_w1Dn => k_is)
    (case zq_w2Dn => k_is)
    (case zq_w3Dn => k_is)
    (case zq_w0Rt => k_is)
    (case zq_w1Rt => k_is)
    (case zq_w2Rt => k_is)
    (case zq_w3Rt => k_is)
    (case zq_w0Rp => k_is)
    (case zq_w1Rp => k_is)
    (case zq_w2Rp => k_is)
    (case zq_w3Rp => k_is)
    (case zq_w0Ds => k_is)
    (case zq_w1Ds => k_is)
    (case zq_w2Ds => k_is)
    (case zq_w3Ds => k_is)
    (case zq_w0Ck => k_is)
    (case zq_w1Ck => k_is)
    (case zq_w2Ck => k_is)
    (case zq_w3Ck => k_is)
    (case zq_w0Di => k_is)
    (case zq_w1Di => k_is)
    (case zq_w2Di => k_is)
    (case zq_w3Di => k_is)
    (case zq_w0Ro => k_is)
    (case zq_w1Ro => k_is)
    (case zq_w2Ro => k_is)
    (case zq_w3Ro => k_is)
    (case zq_w0Pi => k_is)
    (case zq_w1Pi => k_is)
    (case zq_w2Pi => k_is)
    (case zq_w3Pi => k_is)
    (case zq_w0Mi => k_is)
    (case zq_w1Mi => k_is)
    (case zq_w2Mi => k_is)
    (case zq_w3Mi => k_is)
    (case zq_w0Wo => k_is)
    (case zq_w1Wo => k_is)
    (case zq_w2Wo => k_is)
    (case zq_w3Wo => k_is)
    (case zq_w0Lg => k_is)
    (case zq_w1Lg => k_is)
    (case zq_w2Lg => k_is)
    (case zq_w3Lg => k_is)
    (case zq_w0Lk => k_is)
    (case zq_w1Lk => k_is)
    (case zq_w2Lk => k_is)
    (case zq_w3Lk => k_is)
    (case zq_w0So => k_is)
    (case zq_w1So => k_is)
    (case zq_w2So => k_is)
    (case zq_w3So => k_is)
    (case zq_w0Pa => k_is)
    (case zq_w1Pa => k_is)
    (case zq_w2Pa => k_is)
    (case zq_w3Pa => k_is)
    (case zq_w0Ne => k_is)
    (case zq_w1Ne => k_is)
    (case zq_w2Ne => k_is)
    (case zq_w3Ne => k_is)
    (case zq_w0To => k_is)
    (case zq_w1To => k_is)
    (case zq_w2To => k_is)
    (case zq_w3To => k_is)
    (case zq_w0Ri => k_is)
    (case zq_w1Ri => k_is)
    (case zq_w2Ri => k_is)
    (case zq_w3Ri => k_is)
    (case zq_w0La => k_is)
    (case zq_w1La => k_is)
    (case zq_w2La => k_is)
    (case zq_w3La => k_is)
    (case zq_w1LIn => k_is)
    (case zq_w2LIn => k_is)
    (case zq_w3LIn => k_is)
    (case zq_w1LOf => k_is)
    (case zq_w2LOf => k_is)
    (case zq_w3LOf => k_is)
    (case zq_w1LMk => k_is)
    (case zq_w2LMk => k_is)
    (case zq_w3LMk => k_is)
    (case zq_w1LKi => k_is)
    (case zq_w2LKi => k_is)
    (case zq_w3LKi => k_is)
    (case zq_w1LEq => k_is)
    (case zq_w2LEq => k_is)
    (case zq_w3LEq => k_is)
    (case zq_w1SIn => k_is)
    (case zq_w2SIn => k_is)
    (case zq_w3SIn => k_is)
    (case zq_w1SOf => k_is)
    (case zq_w2SOf => k_is)
    (case zq_w3SOf => k_is)
    (case zq_w1SLa => k_is)
    (case zq_w2SLa => k_is)
    (case zq_w3SLa => k_is)
    (case zq_w1SNm => k_is)
    (case zq_w2SNm => k_is)
    (case zq_w3SNm => k_is)
    (case zq_w1STh => k_is)
    (case zq_w2STh => k_is)
    (case zq_w3STh => k_is)
    (case zq_w1SMo => k_is)
    (case zq_w2SMo => k_is)
    (case zq_w3SMo => k_is)
    (case zq_w1SLo => k_is)
    (case zq_w2SLo => k_is)
    (case zq_w3SLo => k_is)
    (case zq_w1SEn => k_is)
    (case zq_w2SEn => k_is)
    (case zq_w3SEn => k_is)
    (case zq_w1SEq => k_is)
    (case zq_w2SEq => k_is)
    (case zq_w3SEq => k_is)
    (case zq_w1SHa => k_is)
    (case zq_w2SHa => k_is)
    (case zq_w3SHa => k_is)
    (case zq_w1SLe => k_is)
    (case zq_w2SLe => k_is)
    (case zq_w3SLe => k_is)
    (case zq_w1SSt => k_is)
    (case zq_w2SSt => k_is)
    (case zq_w3SSt => k_is)
    (case zq_w1MIn => k_is)
    (case zq_w2MIn => k_is)
    (case zq_w3MIn => k_is)
    (case zq_z_isinstance => k_is)
    (case zq_z_tuple => k_is)
    (case zq_z_all => k_is)
    (case zq_z_any => k_is)
    (case zq_z_sorted => k_is)
    (case zq_z_list => k_is)
    (case zq_z_len => k_is)
    (case zq_z_str => k_is)
    (case zq_z_int => k_is)
    (case zq_z_abs => k_is)
    (case zq_z_max => k_is)
    (case zq_z_min => k_is)
    (case zq_z_range => k_is)
    (case zq_z_set => k_is)
    (case zq_z_repr => k_is)
    (case zq_z_dict => k_is)
    (case zq_z_sum => k_is)
    (case zq_z_enumerate => k_is)
    (case zq_z_bool => k_is)
    (case zq_g8 => k_is)
    (case zq_g4 => k_is)
    (case zq_g9 => k_is)
    (case zq_gT => k_is)
    (case zq_gs => k_is)

