import PyProof.Rows.All
import Wide.All
import OpenK.AllK
import Wide.FinOn
import HandS.ForMost
import HandS.ForExc
import HandS.ExcField
import HandS.ExcIs
import HandS.TryMany
import HandS.IsInst
import KE.KExcSuper
import HandS.HeadWalk
import HandS.TupAny
import HandS.TupMul
import HandS.Style
import HandS.Zip0
import HandS.Wide
import HandS.Zip
import PyProof.Draws
import HandS.Sort
import HandS.Defaults
import HandS.Head0
import HandS.Head1
import HandS.Head2
import HandS.HeadEnd
import HandS.HeadHook1
import HandS.HeadHook2
import PySem.Challenge.RW_gatesofcloth_k20_circuit_refused_at_its
set_option Elab.async false
set_option linter.all false
set_option maxRecDepth 100000
set_option maxHeartbeats 4000000
/-! An own error whose __init__ says super().__init__(text) and keeps one field. -/
namespace PySem
namespace FabX
open PySem.W PySem.Calls PyProof.Rows PySem.HandSPX

def iA (fl : Str) (p1 p2 : Pos) : Arguments := { posonlyargs := [], args := [{ arg := "self", annotation := none, pos := p1 }, { arg := fl, annotation := none, pos := p2 }], vararg := none, kwonlyargs := [], kw_defaults := [], kwarg := none, defaults := [] }
def iB (fl msg : Str) (q0 q1 q2 q3 q4 q5 q6 q7 q8 q9 : Pos) : List Stmt :=
  [.Expr (.Call (.Attribute (.Call (.Name "super" q0) [] [] q1) "__init__" q2) [.Constant (.str msg) 0 q3] [] q4) q5,
   .Assign [.Attribute (.Name "self" q6) fl q7] (.Name fl q8) q9]
def iS (fl : Str) : Scope := { kind := .function, names := [("self", .local), (fl, .local), ("__class__", .free), ("super", .globalImplicit)], isGenerator := false, isCoroutine := false, more := [] }

/-- a field's name that is none of the text's own names -/
def flOk (fl : Str) : Bool := (fl == ("self" : Str)) == false && ((fl == ("__debug__" : Str)) == false && ((("self" : Str) == fl) == false && ((("__class__" : Str) == fl) == false && ((("super" : Str) == fl) == false && (fl == ("super" : Str)) == false))))

/-- what the written part says of an error's class C: its __init__ at fI, the cell of __class__ at cc, the code at cda -/
structure ErrTxt (K : Frag) (file : Str) (fl : Str) (C fI cc cda : Addr) : Prop where
  cls : ∃ nm q N bs bm sn sub ab col dd k0 k1 k2 k3 k5, K.lookup C = some (excClassObj nm q C N bs bm true sn sub ab col dd k0 k1 k2 k3 k5 "ValueError.__new__") ∧ refsVE bm = true
  sa : findIn K (.ref C) "__setattr__" = some (some (.builtin "object.__setattr__"))
  noN : findIn K (.ref C) fl = some none
  iC : findIn K (.ref C) "__init__" = some (some (.ref fI))
  tC : typeIn K (.ref fI) = some (.type "function")
  kC : keepIn K (.ref C) = true
  exC : subIn K (.ref C) (.type "BaseException") = some true
  tyC : typeIn K (.ref C) = some (.type "type")
  ve : subIn K (.ref C) (.type "ValueError") = some true
  mro : mroIn K C (.ref C) = some true
  sup : ks_superIn K C C "__init__" = some (some (.builtin "ValueError.__init__"))
  opq : nsIn K cStatics "thirdparty.any" = some none
  cell : ∃ cl cld csl, K.lookup cc = some ⟨cl, cld, .cell (some (.ref C)), csl⟩
  code : ∃ ccl cdd vs ccs tf, K.lookup cda = some ⟨ccl, cdd, .fields vs, ccs⟩ ∧ vs[2]? = some (.str file tf)
  fn : ∃ oc od qual msg doc pm an ct osl p1 p2 q0 q1 q2 q3 q4 q5 q6 q7 q8 q9, K.lookup fI = some ⟨oc, od, .func (fnX "__init__" qual (iA fl p1 p2) (iB fl msg q0 q1 q2 q3 q4 q5 q6 q7 q8 q9) (iS fl) [("__class__", cc)] .none .none doc pm an (.ref cda) ct), osl⟩ ∧ codeIn K (.ref cda) qual = true ∧ (q2.endLine == q4.line) = true ∧
    ∀ (x : Addr) (v : Value), bindArgs (fnX "__init__" qual (iA fl p1 p2) (iB fl msg q0 q1 q2 q3 q4 q5 q6 q7 q8 q9) (iS fl) [("__class__", cc)] .none .none doc pm an (.ref cda) ct) ⟨[.ref x, v], []⟩ = pure [(("self" : Str), Value.ref x), (fl, v)]

section
variable {prog : Program} {w : World} {A : Around} {E : Value → Shared → Prop} {h : Heap} {g : Array GenState} {d : Drawn} {t : Nat} {os : OsState}
variable {nm q : Str} {C N : Addr} {bs bm : List Value} {hdct : Bool} {sn : List Str} {sub : List Value} {ab : Bool} {col : Option Bool} {dd : Option Addr} {k0 k1 k2 k3 k5 : Option Value}
/-- the bound ValueError.__init__ called -/
theorem call_mw {u e t0 : Addr} {rest : List Value} {Q : Value → Shared → Prop}
    (hC : h.get? C = some (excClassObj nm q C N bs bm hdct sn sub ab col dd k0 k1 k2 k3 k5 "ValueError.__new__")) (he : h.get? e = some (excO C t0)) (hu : h.get? u = some (kxs_mw "ValueError.__init__" e)) (hrest : rest.length ≤ sizeLine)
    (hq : ∀ h', (∀ b o, b ≠ e → h.get? b = some o → h'.get? b = some o) → h'.get? e = some (excO C h.objs.size) → Q .none ⟨h', g, d, t, os⟩) :
    wpAny (model prog w) A (call (.ref u) rest) Q E ⟨h, g, d, t, os⟩ := by
  refine wpAny_call (codeAny_of_tree ?_)
  show wpAny _ A.in1 (callAny (.ref u) ⟨rest, []⟩) _ _ _
  simp only [callAny]
  refine wpAny_bind (wpAny_load hu ?_)
  simp only [kxs_mw, show (Value.type "method-wrapper" == Value.type "method" || Value.type "method-wrapper" == Value.type "builtin_function_or_method" || Value.type "method-wrapper" == Value.type "method-wrapper") = true by decide, if_true]
  refine KFB.if_so (by decide) ?_
  refine wpAny_bind (check_bound_init F.excBase_ValueError.toExcCallFacts hC he rfl ?_)
  refine wpAny_bind (wpAny_pure (wpAny_pure ?_))
  refine ⟨plainId_quiet F.excBase_ValueError.init.plain _, codeAny_builtin F.excBase_ValueError.initEntry ?_⟩
  exact exc_init_tree (cls := .ref C) (t0 := t0) (dv := none) (c2 := .none) (c3 := .none) (b4 := .bool false) he hrest (fun h' k e' _ => hq h' k e')
end

/-- a method call without keywords on one line -/
theorem mcall_eq {o : Expr} {m : Str} {apos pos : Pos} {args : List Expr} {env : Env} (hf : methodCallForm (args.length + ([] : List Keyword).length) (backTo pos (starEach args env)) (backToKw pos (keywordEach [] env)) = true) (hl : (apos.endLine == pos.line) = true) :
    eval (.Call (.Attribute o m apos) args [] pos) env = (do
      let ov ← attributeBase o m env (eval o env)
      standAt apos.atName
      let (f, first) ← holding [ov] (getMethod ov m (L2.plainOf o env))
      callWith pos f first (backTo pos (starEach args env)) []) := by
  rw [arm_eval_Call]
  have e : ∀ ov, methodCall o m apos pos env ov (args.length + ([] : List Keyword).length) (backTo pos (starEach args env)) (backToKw pos (keywordEach [] env)) = _ := fun ov => L2.mcall_line hf hl
  simp only [e]
  rfl
/-- what __init__ leaves of a fresh exception at x -/
structure InitEnd (h h' : Heap) (x C dx : Addr) (fl : Str) (v : Value) : Prop where
  keep : ∀ b o, b ≠ x → h.get? b = some o → h'.get? b = some o
  obj : ∃ t1 : Addr, h'.get? x = some { cls := .ref C, dict := some dx, data := .fields #[.ref t1, .none, .none, .none, .bool false, .none] }
  dbig : h.objs.size ≤ dx
  dne : dx ≠ x
  ns : h'.Ns1 dx (fun y => if y = fl then some v else none)
/-- a made error -/
structure OwnMade (h h' : Heap) (e C d : Addr) (fl : Str) (v : Value) : Prop where
  keep : ∀ b o, h.get? b = some o → h'.get? b = some o
  new : h.objs.size ≤ e
  obj : ∃ oe vs, h'.get? e = some oe ∧ oe.cls = .ref C ∧ oe.dict = some d ∧ oe.data = .fields vs ∧ vs[1]? = some .none
  dbig : h.objs.size ≤ d
  dne : d ≠ e
  ns : h'.Ns1 d (fun y => if y = fl then some v else none)
theorem one_size (v : Value) : [v].length ≤ sizeLine := by
  rw [sizeLine_eq]
  exact (by decide : 1 ≤ 16777216)
theorem ldA {M : Model} {A : Around} {E : Value → Shared → Prop} {s : Shared} {env : Env} {m : Str → Option Value} {x : Str} {pos : Pos} {v : Value} {Q : Value → Shared → Prop} (hn : s.heap.Ns env.locals m) (hv : m x = some v) (h : Q v s)
    (hk : env.scope.kind = .function) (hl : env.kindOf x = some .local) (hd : (x == ("__debug__" : Str)) = false) : wpAny M A (eval (.Name x pos) env) Q E s := wpAny_Name (wpAny_loadName_local hk hl hn hv h) hd

section
variable {prog : Program} {w : World} {A : Around} {E : Value → Shared → Prop} {R : Result → Shared → Prop} {s : Shared} {K : Frag} {mg mb : Str → Option Value} {C fI cc cda : Addr} {file fl : Str}
theorem err_init (T : ErrTxt K file fl C fI cc cda) (fok : flOk fl = true) {x t0 : Addr} {v : Value} (X : K.In s.heap) (hlim : s.heap.NoLimit) (G : s.heap.Ns mainGlobals mg) (hmg : mg "super" = none) (Bn : s.heap.Ns builtinsNs mb) (hmb : mb "super" = some (.type "super"))
    (hx : s.heap.get? x = some (excO C t0)) (hnx : K.lookup x = none) (hroom : A.depth < recursionLimit) (hfile : ((prog.main.file : Str) == file) = true) (htop : (prog.main.scope.names.lookup ("super" : Str)).isSome = false)
    (hq : ∀ h' tk dx, InitEnd s.heap h' x C dx fl v → R (.ok (.ret .none)) { s with heap := h', toks := tk }) :
    codeAny (model prog w) A (.call (.ref fI) ⟨[.ref x, v], []⟩) R s := by
  obtain ⟨oc, od, qual, msg, doc, pm, an, ct, osl, p1, p2, q0, q1, q2, q3, q4, q5, q6, q7, q8, q9, hfI, hcd, hline, hbd⟩ := T.fn
  obtain ⟨nm, q, N, bs, bm, sn, sub, ab, col, dd, k0, k1, k2, k3, k5, hC, hbm⟩ := T.cls
  obtain ⟨cl, cld, csl, hcell⟩ := T.cell
  obtain ⟨ccl, cdd, vs, ccs, tf, hcode, hvs⟩ := T.code
  have hcl : clsIn K C = some { name := nm, bases := bs, mro := .ref C :: bm, ns := N, qualname := q, hasDict := true, slotNames := sn, subclasses := sub, abstract := ab, collection := col, hasDel := false } := by unfold clsIn; rw [hC] <;> rfl
  simp only [flOk, Bool.and_eq_true, beq_iff_eq] at fok
  obtain ⟨f1, f2, f3, f4, f5, f6⟩ := fok
  have l1 : (iS fl).names.lookup ("self" : Str) = some NameKind.local := rfl
  have l2 : (iS fl).names.lookup fl = some NameKind.local := by
    show (match fl == ("self" : Str) with | true => some NameKind.local | false => (match fl == fl with | true => some NameKind.local | false => _)) = _
    rw [f1]; simp
  have l3 : (iS fl).names.lookup ("__class__" : Str) = some NameKind.free := by
    show (match ("__class__" : Str) == fl with | true => some NameKind.local | false => some NameKind.free) = _
    rw [f4]
  have l4 : (iS fl).names.lookup ("super" : Str) = some NameKind.globalImplicit := by
    show (match ("super" : Str) == fl with | true => some NameKind.local | false => some NameKind.globalImplicit) = _
    rw [f5]
  refine ks_codeAny_call_defAt (binds := [("self", .ref x), (fl, v)]) hroom (X _ _ hfI) rfl hlim (codeRec_of X hcd) rfl (BindsTo.of_eq (hbd x v)) (fun y hy => ?_) (fun y hy => ?_) (fun h₁ hns hk₁ => ?_)
  · have hy' : y ∈ [(("self" : Str), NameKind.local), (fl, .local), ("__class__", .free), ("super", .globalImplicit)] := hy
    simp only [List.mem_cons, List.not_mem_nil, or_false] at hy'
    rcases hy' with rfl | rfl | rfl | rfl <;> simp
  · simp only [List.mem_cons, List.not_mem_nil, or_false] at hy
    rcases hy with rfl | rfl
    · exact l1
    · exact l2
  · have X₁ : K.In h₁ := X.keeps hk₁
    have hx₁ := hk₁ _ _ hx
    have hxC : x ≠ C := fun z => by
      have e := X _ _ hC
      rw [← z, hx] at e
      cases e
    have mself : (fun y => ([(("self" : Str), Value.ref x), (fl, v)].reverse).lookup y) "self" = some (.ref x) := by
      show (match ("self" : Str) == fl with | true => some v | false => some (Value.ref x)) = _
      rw [f3]
    have mfl : (fun y => ([(("self" : Str), Value.ref x), (fl, v)].reverse).lookup y) fl = some v := by
      show (match fl == fl with | true => some v | false => _) = _
      simp
    obtain ⟨hp, g, d, t, os⟩ := s
    obtain ⟨oD, hD1, hD2⟩ : ∃ oD, h₁.get? C = some oD ∧ ∃ cdD, oD.data = .cls cdD := ⟨_, X₁ _ _ hC, _, rfl⟩
    obtain ⟨cdD, hD2⟩ := hD2
    refine ks_wpAt_execs_cons (ks_wpAt_Expr_any (ks_wpAt_MethodCall ?_ (mcall_eq rfl hline)))
    refine ks_wpAt_super_base l4 l3 (by decide) rfl (hk₁ _ _ (X _ _ hfI)) rfl rfl rfl (hk₁ _ _ (X _ _ hcode)) rfl hvs hfile htop ?_
    refine ks_loadName_global rfl l4 (loadGlobal_builtin (mg := mg) (mb := mb) (G.keeps hk₁) hmg (Bn.keeps hk₁) hmb ⟨rfl, ?_⟩)
    refine wpAny_loadName_free rfl l3 rfl ⟨_, hk₁ _ _ (X _ _ hcell), rfl⟩ ?_
    refine wpAny_loadName_local rfl l1 hns mself ?_
    refine ks_wpAny_isType_cls hD1 hD2 ⟨rfl, ?_⟩
    refine ks_wpAny_call_super hD1 hD2 hx₁ rfl (fun c e => by cases e) (looks_mroIn X₁ T.mro) (fun h₂ e₂ k₂ => ?_)
    have X₂ : K.In h₂ := X₁.keeps k₂
    have I₂ : InstAt h₂ x (excO C t0) C none := ⟨k₂ _ _ hx₁, rfl, rfl, trivial⟩
    have hsup := T.sup
    unfold ks_superIn at hsup
    rw [hcl] at hsup
    refine kxs_getMethod (l₀ := .ref C :: bm) kxs_ValueError e₂ (looks_opaque X₂ T.opq) (fun A Q E s k q => wpAny_bind ((looks_clsIn X₂ hcl) A _ E s k (wpAny_pure q))) rfl X₂ hsup (I₂.type.andThen (looks_subIn X₂ T.ve)) hxC (by decide) ?_
    refine kxs_callWith (i := "ValueError.__init__") (x := x) rfl (evalArgs_plain (spliced_cons ?_))
    refine Calls.Constant_str (k := 0) (pos := q3) (spliced_nil ⟨?_, ?_⟩)
    · exact Heap.get?_push_at rfl rfl
    have k₃ : ∀ b o, h₂.get? b = some o → (h₂.push (kxs_mw "ValueError.__init__" x)).get? b = some o := fun b o e => Heap.get?_push_of_some _ e
    refine call_mw (k₃ _ _ (X₂ _ _ hC)) (k₃ _ _ (k₂ _ _ hx₁)) (Heap.get?_push_at rfl rfl) (one_size _) (fun h₄ k₄ hx₄ => ?_)
    -- self.fl = fl
    have kk : ∀ b o, b ≠ x → hp.get? b = some o → h₄.get? b = some o := fun b o hb e => k₄ b o hb (k₃ _ _ (k₂ _ _ (hk₁ _ _ e)))
    have hL : h₁.objs.size ≤ h₁.objs.size := Nat.le_refl _
    have hxL : hp.objs.size ≠ x := Nat.ne_of_gt (Heap.lt_size hx)
    have hns₄ : h₄.Ns hp.objs.size (fun y => ([(("self" : Str), Value.ref x), (fl, v)].reverse).lookup y) := by
      obtain ⟨oL, es, ep, hL, r⟩ := hns
      exact ⟨oL, es, ep, k₄ _ _ hxL (k₃ _ _ (k₂ _ _ hL)), r⟩
    have X₄ : K.In h₄ := fun b o e => kk b o (fun z => by rw [z, hnx] at e; cases e) (X _ _ e)
    show _root_.PySem.wpAt _ _ _ (execs _ _) _ _ _
    refine wpAt_of_wpAny (wpAny_execs_cons (plainObj_wpAny_Assign_Attribute ?_))
    refine ldA hns₄ mfl (ldA hns₄ mself ?_ rfl l1 (by decide)) rfl l2 f2
    refine set_plain X₄ (ox := excO C _) (od := none) ⟨hx₄, rfl, rfl, trivial⟩ T.sa ?_
    refine exc_osa X₄ hx₄ hcl (show refsVE (.ref C :: bm) = true from hbm) rfl T.noN (fun h₅ tk₅ dx k₅ dn dne hx₅ hn₅ => ?_)
    have z : hp.objs.size ≤ h₄.objs.size := by
      refine Nat.le_of_not_lt fun q => ?_
      obtain ⟨oL, es, ep, hL, r⟩ := hns₄
      exact absurd (Nat.lt_trans (Heap.lt_size hL) q) (Nat.lt_irrefl _)
    exact wpAny_execs_nil (hq h₅ tk₅ dx ⟨fun b o hb e => k₅ b o hb (kk b o hb e), ⟨_, hx₅⟩, Nat.le_trans z dn, dne, hn₅⟩)
theorem err_made (T : ErrTxt K file fl C fI cc cda) (fok : flOk fl = true) {v : Value} (X : K.In s.heap) (hlim : s.heap.NoLimit) (G : s.heap.Ns mainGlobals mg) (hmg : mg "super" = none) (Bn : s.heap.Ns builtinsNs mb) (hmb : mb "super" = some (.type "super"))
    (hroom : A.depth + 1 < recursionLimit) (hfile : ((prog.main.file : Str) == file) = true) (htop : (prog.main.scope.names.lookup ("super" : Str)).isSome = false)
    (hq : ∀ h' tk e d, OwnMade s.heap h' e C d fl v → R (.ok (.ret (.ref e))) { s with heap := h', toks := tk }) :
    codeAny (model prog w) A (.call (.ref C) ⟨[v], []⟩) R s := by
  obtain ⟨nm, q, N, bs, bm, sn, sub, ab, col, dd, k0, k1, k2, k3, k5, hC, hbm⟩ := T.cls
  obtain ⟨hp, g, dr, tk, os⟩ := s
  have k : ∀ b o, hp.get? b = some o → ((hp.push (kdv_tup [v])).push (excO C hp.objs.size)).get? b = some o := fun b o e => Heap.get?_push_of_some _ (Heap.get?_push_of_some _ e)
  have hget : ((hp.push (kdv_tup [v])).push (excO C hp.objs.size)).get? (hp.objs.size + 1) = some (excO C hp.objs.size) := by heap_get
  have hnx : K.lookup (hp.objs.size + 1) = none := by
    cases e : K.lookup (hp.objs.size + 1) with
    | none => rfl
    | some o =>
      have z : hp.get? (hp.objs.size + 1) = some o := X _ _ e
      exact absurd (Nat.lt_of_succ_lt (Heap.lt_size z)) (Nat.lt_irrefl _)
  refine call_own F.excBase_ValueError (fun X => refsVE_contains X bm hbm) (X _ _ hC) (looks_findIn X T.iC) (fun self => bind_fn X self T.tC) (one_size v) ?_
  refine err_init (s := ⟨(hp.push (kdv_tup [v])).push (excO C hp.objs.size), g, dr, tk, os⟩) (mg := mg) (mb := mb) T fok (X.keeps k) (hlim.keeps k) (G.keeps k) hmg (Bn.keeps k) hmb hget hnx ?_ hfile htop fun h' tk' dx ⟨k', hx, dn, dne, hns⟩ => ?_
  · show A.depth + 1 < recursionLimit
    exact hroom
  · have old : ∀ b o, hp.get? b = some o → h'.get? b = some o := fun b o e => k' b o (Nat.ne_of_lt (Nat.lt_succ_of_lt (Heap.lt_size e))) (k b o e)
    have z : hp.objs.size + 1 + 1 ≤ dx := by
      first
        | (simpa only [Heap.size_push] using dn)
        | exact dn
        | (have q := dn; rw [Heap.size_push, Heap.size_push] at q; exact q)
    obtain ⟨t1, hx⟩ := hx
    exact ⟨rfl, hq h' tk' (hp.objs.size + 1) dx ⟨old, Nat.le_succ _, ⟨_, _, hx, rfl, rfl, rfl, rfl⟩, Nat.le_trans (Nat.le_trans (Nat.le_succ _) (Nat.le_succ _)) z, dne, hns⟩⟩
end
end FabX
end PySem

namespace L2
open PySem PySem.Spec PyProof.Rows
theorem relO_fl {fl : Str} {v : V} {v' : Value} (r : RelV v v') (f : Str) : RelO (List.lookup f [(fl, v)]) (if f = fl then some v' else none) := by
  by_cases hw : f = fl
  · subst hw
    rw [if_pos rfl]
    have q : List.lookup f [(f, v)] = some v := by simp [List.lookup]
    rw [q]
    exact r
  · rw [if_neg hw]
    have qw : (f == fl) = false := by simpa using hw
    have q2 : List.lookup f [(fl, v)] = none := by simp [List.lookup, qw]
    rw [q2]
    trivial
section
variable {X : Cx} {C fI cc cda : Addr} {file fl cn : Str}
/-- what the program itself says -/
structure FileOk (P : Program) (file : Str) : Prop where
  file : ((P.main.file : Str) == file) = true
  top : (P.main.scope.names.lookup ("super" : Str)).isSome = false
/-- cn(e) -/
def tMkErr (C : Addr) (fl : Str) (ta : TA) : St → Hp → XK → Prop := fun σ H Q => ta σ H fun vs H1 => ∃ v, vs = [v] ∧ ∀ d, H1 d = none → Q (.ref C) (some d) (upd H1 d (.xd [(fl, v)]))
theorem pmk_err {a : Expr} {ta : TA} {p pos : Pos} {k : Nat} (T : PySem.FabX.ErrTxt X.K file fl C fI cc cda) (fok : PySem.FabX.flOk fl = true) (gC : X.mg cn = some (.ref C)) (ns : X.mg "super" = none) (pf : FileOk X.prog file)
    (hr : Room k X.A) (ha : PA X [a] ta) (hg : Gl X cn := by rfl) (hd : (cn == ("__debug__" : Str)) = false := by decide)
    (he : starEach (a :: []) X.env = (false, eval a X.env) :: starEach [] X.env := by rfl) (hpl : (backTo pos (starEach [] X.env)).any (·.1) = false := by rfl) :
    PMk X (.Call (.Name cn p) [a] [] pos) (tMkErr C fl ta) := by
  intro pins s σ H Q I h
  refine wpAny_Call_Name_kw (ld_glob I hg gC ?_ hd)
  refine PySem.W.callWith_K (h₀ := X.base) I.ok.mod.kin T.kC (thn (ha.run pos pins s σ H _ I h) fun us s1 hh => ?_) he hpl
  obtain ⟨vs, H1, I1, r1, v, ev, q1⟩ := hh
  subst ev
  refine ⟨I1.kIn, ?_⟩
  cases r1 with
  | cons rv rn =>
    rename_i v' us'
    cases rn
    show wpAny _ _ (call (.ref C) [v']) _ _ _
    have hlim := I1.nolimit
    have hG : s1.heap.Ns mainGlobals X.mg := I1.mod.glob.keeps I1.bk
    obtain ⟨mb, hB, hb⟩ := I1.mod.blt
    have hB' : s1.heap.Ns builtinsNs mb := hB.keeps I1.bk
    have hmb : mb "super" = some (.type "super") := (hb _ (by decide)).trans PyProof.Rows.Boot.super
    obtain ⟨hp, g, dr, tk, os⟩ := s1
    refine wpAny_call (PySem.FabX.err_made T fok I1.kIn hlim hG ns hB' hmb (by have := hr.dp; omega) pf.file pf.top fun h' tk' e d M => ?_)
    show MkP X pins σ Q (.ref e) ⟨h', g, dr, tk', os⟩
    obtain ⟨oe, fv, hoe, hc, hd, hdat, h1⟩ := M.obj
    have hns := M.ns
    obtain ⟨G', g1, g2⟩ := restrict h' fun b => decide (b ≠ e)
    have gk : ∀ b, b ≠ e → G'.get? b = h'.get? b := fun b hb => g1 b (decide_eq_true hb)
    have ge : G'.get? e = none := g2 e (by simp)
    have old : ∀ b o, hp.get? b = some o → G'.get? b = some o := fun b o q => (gk b (Nat.ne_of_lt (Nat.lt_of_lt_of_le (Heap.lt_size q) M.new))).trans (M.keep b o q)
    have ob : ObjOk X.prog X.w (upd H1 d (.xd [(fl, v)])) G' d (.xd [(fl, v)]) :=
      ⟨_, hns.at (fun o q => (gk d M.dne).trans q), fun f => relO_fl rv f⟩
    have J : Inv X pins σ (upd H1 d (.xd [(fl, v)])) ⟨G', g, dr, tk', os⟩ := I1.laid (t' := tk') old M.dbig ob
    refine ⟨e, oe, fv, ⟨G', g, dr, tk', os⟩, _, .ref C, some d, rfl, J, fun b o q => ?_, ge, hoe, ⟨hc, hd⟩, hdat, h1, ?_, rfl, I1.bare, raises_own T.exC T.tyC, q1 d (I1.hok.fresh M.dbig)⟩
    · by_cases hb : b = e
      · have q' : G'.get? b = some o := q
        rw [hb, ge] at q'; cases q'
      · exact (gk b hb).symm.trans q
    · rw [upd_ne (Ne.symm M.dne)]
      exact I1.hok.fresh M.new
/-- raise cn(e) -/
def tRaiseErr (C : Addr) (fl : Str) (W : WX) (ta : TA) : TS := fun _ σ H => tMkErr C fl ta σ H fun cls d H' => W cls d σ H'
theorem ps_raiseErr {a : Expr} {ta : TA} {W : WX} {p pos pos2 : Pos} {k : Nat} (hc : X.calm = true) (T : PySem.FabX.ErrTxt X.K file fl C fI cc cda) (fok : PySem.FabX.flOk fl = true) (gC : X.mg cn = some (.ref C)) (ns : X.mg "super" = none) (pf : FileOk X.prog file)
    (hr : Room k X.A) (tk : Takes X W) (ha : PA X [a] ta) (hg : Gl X cn := by rfl) (hd : (cn == ("__debug__" : Str)) = false := by decide)
    (he : starEach (a :: []) X.env = (false, eval a X.env) :: starEach [] X.env := by rfl) (hpl : (backTo pos (starEach [] X.env)).any (·.1) = false := by rfl) :
    PS X (.Raise (some (.Call (.Name cn p) [a] [] pos)) none pos2) (tRaiseErr C fl W ta) := ps_raise hc tk (pmk_err T fok gC ns pf hr ha hg hd he hpl)
end

/-! ### several except clauses, each with a name or none -/
/-- where a clause's suite goes on: its name (slot i) is gone -/
def endsAs (oi : Option Nat) (D : Ends) : Ends := match oi with
  | none => D
  | some i => { nx := fun σ' H' => D.nx (σ'.set i none) H', rt := D.rt, bk := fun σ' H' => D.bk (σ'.set i none) H', ct := fun σ' H' => D.ct (σ'.set i none) H' }
def setAs (oi : Option Nat) (σ : St) (a : Addr) : St := match oi with
  | none => σ
  | some i => σ.set i (some (.ref a))
abbrev ClauseT : Type := Value × Option Nat × (Addr → Value → Option Addr → TS)
def wAll (K : PySem.W.Frag) (Wout : WX) (D : Ends) : List ClauseT → WX
  | [] => Wout
  | (c, oi, ts) :: r => fun cls d σ H => ∃ b, PySem.W.exmOne K cls c = some b ∧ (b = true → ∀ a, H a = none → ts a cls d (endsAs oi D) (setAs oi σ a) H) ∧ (b = false → wAll K Wout D r cls d σ H)
inductive HdsA (X : Cx) : List ExceptHandler → List ClauseT → Prop
  | nil : HdsA X [] []
  | cons {x : Str} {c : Value} {ts : Addr → Value → Option Addr → TS} {b₀ : Stmt} {suite : List Stmt} {np pos' : Pos} {hds : List ExceptHandler} {l : List ClauseT} (hc : Names X x c)
      (hsu : ∀ (a : Addr) (oe : Obj) (cls : Value) (d : Option Addr) (pn : List (Addr × Obj)), Zc cls d oe → (∃ vs, oe.data = .fields vs) → PSs (X.suite a ((a, oe) :: pn)) (b₀ :: suite) (ts a cls d)) (r : HdsA X hds l) :
      HdsA X (.ExceptHandler (some (.Name x np)) none (b₀ :: suite) pos' :: hds) ((c, none, ts) :: l)
  | as {x n : Str} {c : Value} {i : Nat} {ts : Addr → Value → Option Addr → TS} {b₀ : Stmt} {suite : List Stmt} {np pos' : Pos} {hds : List ExceptHandler} {l : List ClauseT} (hi : X.N[i]? = some n) (hln : X.env.kindOf n = some .local) (hc : Names X x c)
      (hsu : ∀ (a : Addr) (oe : Obj) (cls : Value) (d : Option Addr) (pn : List (Addr × Obj)), Zc cls d oe → (∃ vs, oe.data = .fields vs) → PSs (X.suite a ((a, oe) :: pn)) (b₀ :: suite) (ts a cls d)) (r : HdsA X hds l) :
      HdsA X (.ExceptHandler (some (.Name x np)) (some n) (b₀ :: suite) pos' :: hds) ((c, some i, ts) :: l)
section
variable {X : Cx} {body : List Stmt} {h₀ : ExceptHandler} {hds : List ExceptHandler} {l : List ClauseT} {pos : Pos} {tb : WX → TS} {Wout : WX}
theorem ps_try_all (hs : X.stack = X.env :: X.outer) (hf : X.env.frame = some X.env.locals) (hN : X.N.Nodup) (tk : Takes X Wout)
    (hb : ∀ (W : WX) (pn : List (Addr × Obj)) (xe : Value → Shared → Prop), Takes (X.tr pn xe) W → PassesOwn (model X.prog X.w) X.A X.env xe → PSs (X.tr pn xe) body (tb W))
    (hh : HdsA X (h₀ :: hds) l) : PS X (.Try body (h₀ :: hds) [] [] pos) (fun D σ H => tb (wAll X.K Wout D l) D σ H) := by
  refine ⟨fun pins s σ H D I h => ?_⟩
  have ok := I.ok
  have hfr : X.A.frames = some (X.env :: X.outer) := by rw [ok.frames, hs]
  refine wpAny_Try_except ?_
  refine wpAny_mono ((hb (wAll X.K Wout D l) (X.pn ++ pins) (fun e s₁ => wpAny (model X.prog X.w) X.A (noteFrame e X.env) (fun _ s₂ => wpAny (model X.prog X.w) X.A (setFlight e none) (fun _ s₃ =>
    wpAny (model X.prog X.w) X.A (handleBy e X.env (h₀ :: hds)) (SP X pins D) X.xe s₃) X.xe s₂) X.xe s₁) (fun u s' xx => ?_) PassesOwn.looking).run [] s σ H D (I.toTry _) h) (fun f s1 hsp => ?_) (fun e s1 he => he)
  · -- the catch
    obtain ⟨a, B, sI, pins', σ', H', cls, d, rfl, J', nb, up, sky, na, os, ag, w⟩ := xx
    have J : Inv X pins σ' H' sI := J'.ofTry ok
    have sky' : Sky B (X.env :: X.outer) a (Zc cls d) X.env.locals s'.heap := by rw [← hs]; exact sky
    show wpAny (model X.prog X.w) X.A (noteFrame (.ref a) X.env) _ _ _
    refine Sky.land Zc.steady hfr hf sky' fun h3 fl3 up3 => ?_
    have J3 : Inv X pins σ' H' { s' with heap := h3 } := J.landed nb fl3.1 (up.trans up3) os ag
    obtain ⟨oe3, vs3, he3, hz3, hd3⟩ := fl3.there
    have notFr : ∀ {h : Heap} {o : Obj} {vs : Array Value}, h.FunFrames B (X.env :: X.outer) → h.get? a = some o → o.data = .fields vs → a ∉ frs (X.env :: X.outer) := fun {h o vs} ff e dd hm => by
      obtain ⟨_, o', e', hnf⟩ := ff.mem hm
      rw [e] at e'; cases e'
      exact hnf _ dd
    have nfr := notFr fl3.2.2.1 he3 hd3
    have nL : a ≠ X.env.locals := fun z => nfr (List.mem_filterMap.mpr ⟨X.env, List.mem_cons_self, by rw [hf, z]⟩)
    have nF : a ∉ X.fs := fun hm => by
      obtain ⟨e, he, q⟩ := List.mem_filterMap.mp hm
      exact nfr (List.mem_filterMap.mpr ⟨e, List.mem_cons_of_mem _ he, q⟩)
    have S3 := J3.suite he3 hd3 na nL nF
    have go : ∀ {hds' : List ExceptHandler} {l' : List ClauseT}, HdsA X hds' l' → wAll X.K Wout D l' cls d σ' H' →
        wpAny (model X.prog X.w) X.A (handleBy (.ref a) X.env hds') (SP X pins D) X.xe { s' with heap := h3 } := by
      intro hds' l' hk
      induction hk with
      | nil =>
        intro w
        refine wpAny_handleBy_nil ?_
        obtain ⟨k1, k2, k3, oe, vs, T, oT, ts', he, hz, hd, h1, hr⟩ := id fl3
        unfold PySem.passOn
        refine wpAny_bind (wpAny_field he hd h1 ?_)
        rw [if_neg (show ¬ ((Value.ref T == Value.none) = true) from by simp)]
        have fin : wpAny (model X.prog X.w) X.A (setFlight (.ref a) X.env.frame) (fun _ s4 => wpAny (model X.prog X.w) X.A (throw (.ref a) : Sem Flow) (SP X pins D) X.xe s4) X.xe { s' with heap := h3 } := by
          rw [hf]
          refine HandSPX.setFlight_upZ fl3 fun h4 hh4 up4 => wpAny_throw (tk _ _ ?_)
          exact ⟨a, B, sI, pins, σ', H', cls, d, rfl, J, nb, (up.trans up3).trans up4, .inr (.inr (by rw [hs]; exact hh4)), na, os, ag, w⟩
        first
          | exact wpAny_bind (wpAny_pure (wpAny_bind fin))
          | exact wpAny_bind fin
      | @cons x c ts b₀ suite np pos' hds2 l2 hc hsu r ih =>
        intro w
        obtain ⟨b, hb1, hyes, hno⟩ := w
        refine wpAny_handleBy_cons (codeAny_handlers_test ?_) (by intro q; cases q)
        have LT : PySem.W.Looks (model X.prog X.w) h3 (typeOf (.ref a)) cls := fun A Q E s k q => wpAny_typeOf_ref (k _ _ he3) (by rw [hz3.1]; exact q)
        have LM := PySem.W.exm_one (M := model X.prog X.w) (J3.kIn) LT hb1
        have test : ∀ {Q : Value → Shared → Prop} {E : Value → Shared → Prop}, Q c { s' with heap := h3 } → wpAny (model X.prog X.w) (X.A.mark (some (.ref a))) (eval (.Name x np) X.env) Q E { s' with heap := h3 } := fun {Q E} q => by
          obtain ⟨hg, hdbg, hm | ⟨hm, hv, hnn⟩⟩ := hc
          · exact ld_glob (X := X.suite a ((a, oe3) :: (X.pn ++ pins))) S3 hg hm q hdbg
          · exact ld_blt (X := X.suite a ((a, oe3) :: (X.pn ++ pins))) S3 hg hm hv q hnn hdbg
        refine test (LM.here ?_)
        cases b with
        | true =>
          refine codeAny_handlers_suite ?_
          refine HandSPX.lands_againZ fl3 fun h4 fl4 up4 => ?_
          have J4 : Inv X pins σ' H' { s' with heap := h4 } := J.landed nb fl4.1 ((up.trans up3).trans up4) os ag
          obtain ⟨oe4, vs4, he4, hz4, hd4⟩ := fl4.there
          have S4 := J4.suite he4 hd4 na nL nF
          refine wpAny_mono ((hsu a oe4 cls d (X.pn ++ pins) hz4 ⟨_, hd4⟩).run [] _ _ H' _ S4 (hyes rfl a na)) (fun f s6 hsp => ?_) (fun _ _ z => False.elim z)
          cases f with
          | next =>
            obtain ⟨σ6, H6, S6, q6⟩ := hsp
            exact ⟨_, _, S6.unsuite ok, q6⟩
          | brk =>
            obtain ⟨σ6, H6, S6, q6⟩ := hsp
            exact ⟨_, _, S6.unsuite ok, q6⟩
          | cont =>
            obtain ⟨σ6, H6, S6, q6⟩ := hsp
            exact ⟨_, _, S6.unsuite ok, q6⟩
          | ret u =>
            obtain ⟨v6, σ6, H6, S6, r6, q6⟩ := hsp
            exact ⟨_, _, _, S6.unsuite ok, r6, q6⟩
        | false =>
          show wpAny _ X.A (handleBy (.ref a) X.env hds2) _ _ _
          exact ih (hno rfl)
      | @as x n c i ts b₀ suite np pos' hds2 l2 hi hln hc hsu r ih =>
        intro w
        obtain ⟨b, hb1, hyes, hno⟩ := w
        have hloc : Loc X.env.scope n := .inl hln
        refine wpAny_handleBy_cons (codeAny_handlers_test ?_) (by intro q; cases q)
        have LT : PySem.W.Looks (model X.prog X.w) h3 (typeOf (.ref a)) cls := fun A Q E s k q => wpAny_typeOf_ref (k _ _ he3) (by rw [hz3.1]; exact q)
        have LM := PySem.W.exm_one (M := model X.prog X.w) (J3.kIn) LT hb1
        have test : ∀ {Q : Value → Shared → Prop} {E : Value → Shared → Prop}, Q c { s' with heap := h3 } → wpAny (model X.prog X.w) (X.A.mark (some (.ref a))) (eval (.Name x np) X.env) Q E { s' with heap := h3 } := fun {Q E} q => by
          obtain ⟨hg, hdbg, hm | ⟨hm, hv, hnn⟩⟩ := hc
          · exact ld_glob (X := X.suite a ((a, oe3) :: (X.pn ++ pins))) S3 hg hm q hdbg
          · exact ld_blt (X := X.suite a ((a, oe3) :: (X.pn ++ pins))) S3 hg hm hv q hnn hdbg
        refine test (LM.here ?_)
        cases b with
        | true =>
          refine codeAny_handlers_suite_as ?_
          refine HandSPX.lands_againZ fl3 fun h4 fl4 up4 => ?_
          have J4 : Inv X pins σ' H' { s' with heap := h4 } := J.landed nb fl4.1 ((up.trans up3).trans up4) os ag
          obtain ⟨oe4, vs4, he4, hz4, hd4⟩ := fl4.there
          have S4 := J4.suite he4 hd4 na nL nF
          refine store_ok (X := X.suite a ((a, oe4) :: (X.pn ++ pins))) (v := .ref a) S4 hN hi hloc rfl (fun s5 S5 => ?_) (.inr hln)
          refine wpAny_mono ((hsu a oe4 cls d (X.pn ++ pins) hz4 ⟨_, hd4⟩).run [] s5 _ H' _ S5 (hyes rfl a na)) (fun f s6 hsp => ?_) (fun _ _ z => False.elim z)
          have end_ : ∀ {σ6 : St} {H6 : Hp} {Q : Shared → Prop}, Inv (X.suite a ((a, oe4) :: (X.pn ++ pins))) [] σ6 H6 s6 → (∀ s7, Inv X pins (σ6.set i none) H6 s7 → Q s7) →
              wpAny (model X.prog X.w) X.A (do bindName X.env n .none; unbindBehindTheSuite X.env n pos') (fun _ s7 => Q s7) X.xe s6 := fun {σ6 H6 Q} S6 hq => gone_ok (S6.unsuite ok) hN hi hln hq
          cases f with
          | next =>
            obtain ⟨σ6, H6, S6, q6⟩ := hsp
            exact end_ S6 fun s7 J7 => ⟨_, _, J7, q6⟩
          | brk =>
            obtain ⟨σ6, H6, S6, q6⟩ := hsp
            exact end_ S6 fun s7 J7 => ⟨_, _, J7, q6⟩
          | cont =>
            obtain ⟨σ6, H6, S6, q6⟩ := hsp
            exact end_ S6 fun s7 J7 => ⟨_, _, J7, q6⟩
          | ret u =>
            obtain ⟨v6, σ6, H6, S6, r6, q6⟩ := hsp
            exact end_ S6 fun s7 J7 => ⟨_, _, _, J7, r6, q6⟩
        | false =>
          show wpAny _ X.A (handleBy (.ref a) X.env hds2) _ _ _
          exact ih (hno rfl)
    exact go hh w
  · cases f with
    | next =>
      obtain ⟨σ', H', J', q⟩ := hsp
      exact wpAny_execs_nil ⟨σ', H', J'.ofTry ok, q⟩
    | brk =>
      obtain ⟨σ', H', J', q⟩ := hsp
      exact ⟨σ', H', J'.ofTry ok, q⟩
    | cont =>
      obtain ⟨σ', H', J', q⟩ := hsp
      exact ⟨σ', H', J'.ofTry ok, q⟩
    | ret u =>
      obtain ⟨v, σ', H', J', r, q⟩ := hsp
      exact ⟨v, σ', H', J'.ofTry ok, r, q⟩
end
end L2

namespace PySem.W
open PySem PySem.Spec PySem.Calls PyProof.Rows
section
variable {prog : Program} {w : World} {A : Around} {E : Value → Shared → Prop} {s : Shared} {K : Frag} {x D : Addr} {ox od : Obj}
/-- the __class__ of an own exception that has its dict -/
theorem fab_class {Q : Option Value → Shared → Prop} (C : L2.ExcC K D)
    (X : K.In s.heap) (I : InstAt s.heap x ox D (some od)) (h : Q (some (.ref D)) { s with toks := s.toks + 1 }) : wpAny (model prog w) A (getAttr? (.ref x) "__class__") Q E s := by
  have hf := findObj_data (K := K) (C := D) (od := od) (by obtain ⟨cd, hc, _⟩ := any_some C.hd; rw [hc]; rfl) C.ha C.hn C.ht
  obtain ⟨hp, g, d, t, os⟩ := s
  have L0 := I.type (M := model prog w)
  have L1 := looks_findIn (M := model prog w) X C.hg
  have L2 := looks_findIn (M := model prog w) X C.hk
  have L3 := looks_find (M := model prog w) X I hf
  have sub : Looks (model prog w) hp (isInstance (.ref x) (.type "BaseException")) true := L0.andThen (looks_subIn X C.hs)
  have no2 : (Value.builtin "BaseException.__getattribute__" == Value.builtin "object.__getattribute__") = false := by decide +kernel
  have no1 : (onTheHeap (Value.ref D) && Value.builtin "BaseException.__getattribute__" == Value.builtin "object.__getattribute__") = false := by rw [no2]; rfl
  unfold getAttr? getAttrBy? getAttrBy
  refine wpAny_bind (wpAny_mkText (wpAny_bind (wpAny_attempt (wpAny_holding (wpAny_bind (L0.at (wpAny_bind (L1.at ?_))))))))
  show wpAny _ _ (if (onTheHeap (Value.ref D) && Value.builtin "BaseException.__getattribute__" == Value.builtin "object.__getattribute__") = true then _ else _) _ _ _
  rw [no1, if_neg Bool.false_ne_true]
  unfold getAttrByItsOwn hookBefore
  refine wpAny_bind ?_
  rw [if_pos (show onTheHeap (Value.ref D) = true from rfl)]
  refine L2.at (wpAny_bind (wpAny_attempt (wpAny_holding ?_)))
  unfold callGetattribute
  rw [if_neg (show ¬ (false && onTheHeap (Value.builtin "BaseException.__getattribute__")) = true from Bool.false_ne_true)]
  unfold boundAndCalled
  rw [PySem.F.excAttr_ValueError.ga.bind (.ref x)]
  refine wpAny_bind (wpAny_pure ?_)
  refine wpAny_call (codeAny_call_builtin PySem.F.excAttr_ValueError.ga.plain PySem.F.entry_bexc_ga ?_)
  refine @check_slot (model prog w) _ _ ⟨hp, g, d, t + 1, os⟩ "BaseException.__getattribute__" "BaseException" "__getattribute__" (.ref x) [.str "__class__" t] [] _ (by decide +kernel) (by decide +kernel) sub (PySem.F.args_bexc_ga (.ref x) (.str "__class__" t)) ?_
  unfold Builtin.«object.__getattribute__»
  refine wpAny_bind (wpAny_of_eq (a := ((Value.ref x : Value), [Value.str "__class__" t])) (by first | rfl | (simp only [slotArgs]; rfl)) ?_)
  refine wpAny_bind (wpAny_pure (wpAny_bind (L0.at (wpAny_bind (L3.at ?_)))))
  refine wpAny_bind (wpAny_holding (wpAny_call (class_get (s := ⟨hp, g, d, t + 1, os⟩) (ox := ox) (od := some od) X I C.hm ?_)))
  refine wpAny_pure ?_
  show wpAny _ _ (handedOut (.ref D)) _ _ _
  rw [handedOut_of (v := .ref D) rfl]
  first
    | exact wpAny_pure (wpAny_pure h)
    | exact wpAny_pure h
    | exact wpAny_pure (wpAny_bind (wpAny_pure (wpAny_pure h)))
theorem fab_kit (C : L2.ExcC K D) : KitX K (.ref x) (.ref D) (fun h => ∃ od, InstAt h x ox D (some od)) where
  ty := fun _ _ _ ⟨_, I⟩ => I.type
  it := fun _ _ X _ => by
    obtain ⟨cdD, hcD, _⟩ := any_some C.hd
    unfold clsIn at hcD
    split at hcD
    · rename_i c' d' cd' sl' ho
      intro A' Q' E' s' k q
      unfold isType loadHead
      exact wpAny_bind (wpAny_loadPart (k _ _ (X _ _ ho)) (wpAny_pure q))
    · cases hcD
  ne := fun h tp dd its n sl X htp => by
    obtain ⟨cdD, hcD, _⟩ := any_some C.hd
    refine Bool.eq_false_iff.mpr fun q => ?_
    obtain rfl : D = tp := Value.ref.inj (beq_iff_eq.mp q)
    unfold clsIn at hcD
    split at hcD
    · rename_i c' d' cd' sl' ho
      cases (X _ _ ho).symm.trans htp
    · cases hcD
  ca := fun X ⟨_, I⟩ k => fab_class C X I k
end
end PySem.W
namespace L2
open PySem PySem.Spec PyProof.Rows
/-- isinstance(e, c), isinstance(e, (c1, ..)): e the error that the suite holds, d its dict -/
def rIsX (K : PySem.W.Frag) (a : Addr) (cls : Value) (d : Option Addr) : List V → Hp → VK → Prop := fun xs H Q => ∃ (D dd : Addr) (fs : List (Str × V)) (c : V) (u : Value) (b : Bool), xs = [.ref a, c] ∧ cls = .ref D ∧ ExcC K D ∧ d = some dd ∧ H dd = some (.xd fs) ∧
  ClsV c u ∧ PySem.W.kitOne K (.ref D) u = some b ∧ Q (.bl b) H
def rIsXT (K : PySem.W.Frag) (a : Addr) (cls : Value) (d : Option Addr) : List V → Hp → VK → Prop := fun xs H Q => ∃ (D dd : Addr) (fs : List (Str × V)) (tp : Addr) (cs : List V) (us : List Value) (b : Bool), xs = [.ref a, .ref tp] ∧ cls = .ref D ∧ ExcC K D ∧ d = some dd ∧ H dd = some (.xd fs) ∧
  H tp = some (.tup cs) ∧ Paired ClsV cs us ∧ PySem.W.kitAny K (.ref D) us = some b ∧ Q (.bl b) H
section
variable {X : Cx} {a : Addr} {oe : Obj} {cls : Value} {d : Option Addr} {pn : List (Addr × Obj)}
theorem fab_inst {pins : List (Addr × Obj)} {σ : St} {H : Hp} {s : Shared} {D dd : Addr} {fs : List (Str × V)} (hz : Zc (.ref D) (some dd) oe) (hf : ∃ vs, oe.data = .fields vs) (I : Inv (X.suite a ((a, oe) :: pn)) pins σ H s) (ed : H dd = some (.xd fs)) :
    ∃ od, PySem.W.InstAt s.heap a oe D (some od) := by
  obtain ⟨hget, _⟩ := I.pin (a, oe) (List.mem_append.mpr (.inl List.mem_cons_self))
  obtain ⟨vs, hv⟩ := hf
  obtain ⟨mA, ⟨od, es, ep, ho, _⟩, _⟩ := (show ObjOk X.prog X.w H s.heap dd (.xd fs) from I.hok dd _ ed)
  exact ⟨od, hget, hz.1, by unfold PySem.W.notCls; rw [hv] <;> rfl, by rw [hz.2]; exact ho⟩
theorem call_isX (hz : Zc cls d oe) (hf : ∃ vs, oe.data = .fields vs) : CallR (X.suite a ((a, oe) :: pn)) (.builtin "isinstance") (rIsX X.K a cls d) := by
  intro pins s σ H xs us Q I r h
  obtain ⟨D, dd, fs, c, u, b, rfl, rfl, C, rfl, ed, k, e, q⟩ := h
  obtain ⟨u1, u2, rfl, r1, r2⟩ := vals2 r
  cases (show u1 = Value.ref a from r1)
  have e2 := k.eq r2
  subst e2
  obtain ⟨od, J⟩ := fab_inst hz hf I ed
  exact PySem.W.kia_one (PySem.W.fab_kit C) I.kIn ⟨od, J⟩ e (fun z => nomatch z) fun tk => ⟨.bl b, H, I.tok tk, rfl, q⟩
theorem call_isXT (hz : Zc cls d oe) (hf : ∃ vs, oe.data = .fields vs) : CallR (X.suite a ((a, oe) :: pn)) (.builtin "isinstance") (rIsXT X.K a cls d) := by
  intro pins s σ H xs us Q I r h
  obtain ⟨D, dd, fs, tp, cs, ws, b, rfl, rfl, C, rfl, ed, hT, k, e, q⟩ := h
  obtain ⟨u1, u2, rfl, r1, r2⟩ := vals2 r
  cases (show u1 = Value.ref a from r1)
  cases (show u2 = Value.ref tp from r2)
  obtain ⟨od, J⟩ := fab_inst hz hf I ed
  obtain ⟨_, its, rv, o, h1, h2, n, h3⟩ := (show ObjOk X.prog X.w H s.heap tp (.tup cs) from I.hok tp _ hT)
  have e3 := ClsV.all k rv
  subst e3
  obtain ⟨oc, odd, dt, sl⟩ := o
  simp only at h2 h3
  subst h2 h3
  exact PySem.W.kia_tup (PySem.W.fab_kit C) I.kIn ⟨od, J⟩ h1 e (fun z => nomatch z) fun tk => ⟨.bl b, H, I.tok tk, rfl, q⟩
end
end L2
set_option maxHeartbeats 4000000
/-! enumerate of a tuple; min, max of a tuple; in range(..); tuple * int of any number; is True, is False. -/
namespace PySem
namespace FabX
open Sem (wp)
open AutoSeq1 (wpAny_loadPart')
theorem draws_tup {prog : Program} {w : World} {A : Around} (hh : A.handled = none) (it l : Addr) (hne : l ≠ it) (items : Array Value) :
    Draws prog w A it [it, l] items.size (fun i v => items[i]? = some v) (fun i h => h.IsTupleIter it l i ∧ h.IsTuple l items) where
  live := fun _ _ ⟨⟨o, ho, _⟩, _⟩ => ⟨o, ho⟩
  frame := fun _ _ _ ⟨a, ⟨o, ho, r⟩⟩ hk => ⟨a.at fun o e => hk it (by simp) o e, ⟨o, hk l (by simp) o ho, r⟩⟩
  item := fun i s Q E hi ⟨a, b⟩ hQ => by
    refine RZ.nextOf_tuple_item a b (x := items[i]) (by simp [hi]) fun h' hit' hs' => hQ _ h' s.toks (by simp [hi]) ⟨hit', ?_⟩ hs'
    obtain ⟨o, ho, r⟩ := b
    exact ⟨o, hs'.extBut l o hne ho, r⟩
  done := fun s Q E ⟨a, b⟩ hE => RZ.nextOf_tuple_end hh a b (by simp) hE
theorem meets_enumerate_newT (l : Addr) (items : Array Value) (n : Nat) (dct : Option Addr) (sl : Array (Option Value)) :
    Meets (Builtin.«enumerate.__new__» ⟨[.type "enumerate", .ref l], []⟩) (fun _ R s => s.heap.get? l = some { cls := .type "tuple", dict := dct, data := .seq items n, slots := sl } ∧
      R (.ok (.ret (.ref (s.heap.push { cls := .type "tuple_iterator", data := .fields #[.ref l, .int 0 0] }).objs.size)))
        { s with heap := (s.heap.push { cls := .type "tuple_iterator", data := .fields #[.ref l, .int 0 0] }).push { cls := .type "enumerate", data := .fields #[.none, .bool false, .ref s.heap.objs.size, rawInt 0, .none, .none] } }) :=
  .of_wp fun prog w A R s h => by
    obtain ⟨hp, g, d, tk, os⟩ := s
    obtain ⟨hl, h⟩ := h
    have hsub := sub_enumerate
    have hT : Heap.IsTuple (Shared.heap ⟨hp, g, d, tk, os⟩) l items := ⟨_, hl, rfl, n, rfl⟩
    wp_walk using wpAny_loadPart' hl
    refine wpAny_stack_any fun st => wpAny_pure ?_
    split
    · rename_i c _ _ _ _ _
      cases (c == Value.type "enumerate") <;> (wp_walk using wpAny_loadPart' hl, wpAny_pyIter_tuple hT; exact ⟨_, rfl, h⟩)
    · wp_walk using wpAny_loadPart' hl, wpAny_pyIter_tuple hT
      exact ⟨_, rfl, h⟩
section
variable {prog : Program} {w : World} {A : Around} {E : Value → Shared → Prop} {s : Shared}
theorem call_enumerate_tup {l : Addr} {items : Array Value} {Q : Value → Shared → Prop} (hT : s.heap.IsTuple l items)
    (h : ∀ h', IsEnum h' (s.heap.objs.size + 1) s.heap.objs.size 0 .none → h'.IsTupleIter s.heap.objs.size l 0 →
      (∀ b o, s.heap.get? b = some o → h'.get? b = some o) → Q (.ref (s.heap.objs.size + 1)) { s with heap := h' }) :
    wpAny (model prog w) A (call (.type "enumerate") [.ref l]) Q E s := by
  obtain ⟨⟨c, dct, dt, sl⟩, hl, hc, n, hd⟩ := hT
  dsimp only at hc hd
  subst hc hd
  refine callType_new F.called_enumerate (by decide) (F.typeCall_enumerate_1 _) (F.newCall_enumerate_1 _) (fun obj => F.args_object_init_2 obj _) F.entry_enumerate_new
    (meets_enumerate_newT l items n dct sl) ⟨hl, ?_⟩
  have z : (s.heap.push { cls := .type "tuple_iterator", data := .fields #[.ref l, .int 0 0] }).objs.size = s.heap.objs.size + 1 := Heap.size_push ..
  show _ ∧ _
  rw [z]
  have he : IsEnum ((s.heap.push { cls := .type "tuple_iterator", data := .fields #[.ref l, .int 0 0] }).push
      { cls := .type "enumerate", data := .fields #[.none, .bool false, .ref s.heap.objs.size, rawInt 0, .none, .none] }) (s.heap.objs.size + 1) s.heap.objs.size 0 .none := by
    have y := Heap.get?_push_size (s.heap.push { cls := .type "tuple_iterator", data := .fields #[.ref l, .int 0 0] })
      (o := { cls := .type "enumerate", data := .fields #[.none, .bool false, .ref s.heap.objs.size, rawInt 0, .none, .none] }) rfl
    rw [z] at y
    exact y
  exact ⟨⟨_, he, rfl⟩, h _ he ⟨_, Heap.get?_push_of_some _ (Heap.get?_push_size _ rfl), rfl, rfl⟩ fun b o x => Heap.get?_push_of_some _ (Heap.get?_push_of_some _ x)⟩
end
end FabX
end PySem
namespace L2
open PySem PySem.Spec PyProof.Rows
/-! ### enumerate(tuple) -/
def ItTe (K : PySem.W.Frag) (a : Addr) : It :=
  ⟨fun i H => ∃ (xs : List V) (x : V), SqT K H a xs ∧ xs[i]? = some x, fun i H v H' => ∃ T x, v = .ref T ∧ H T = none ∧ H' = upd H T (.tup [.int (i : Nat), x]) ∧ ∀ xs, SqT K H a xs → xs[i]? = some x, fun i H => ∃ xs : List V, SqT K H a xs ∧ xs.length ≤ i⟩
theorem turn_enumT {P : Program} {w : World} {K : PySem.W.Frag} {elts : List Expr} {kk : Nat} {tpos : Pos} (a e it : Addr) :
    Turn P w K (.Tuple elts kk tpos) (ItTe K a) [e, it] e (fun i h => (∃ old, IsEnum h e it ((i : Nat) : Int) old) ∧ h.IsTupleIter it a i ∧ e ≠ it) where
  mem := by simp
  obj := fun i h ⟨⟨old, he⟩, ⟨o, ho, hc, hd⟩, _⟩ b hb => by
    rcases (show b = e ∨ b = it by simpa using hb) with rfl | rfl
    · exact ⟨_, he, fun v q => nomatch q⟩
    · exact ⟨o, ho, fun v q => by rw [hd] at q; cases q⟩
  keep := fun i h h' ⟨⟨old, he⟩, hi, hne⟩ k => ⟨⟨old, k e (by simp) _ he⟩, hi.at fun o q => k it (by simp) o q, hne⟩
  item := by
    intro X hP hw hK hc i pins s σ H E I hf st hg
    subst hP hw hK
    obtain ⟨⟨old, he⟩, hit, hne⟩ := st
    obtain ⟨xs, x, hq, hx⟩ := hg
    obtain ⟨its, rv, p, hz⟩ := I.tuple hq
    obtain ⟨u, hu, ru⟩ := rv.get hx
    have hel : e < s.heap.objs.size := Heap.lt_size he
    have hil : it < s.heap.objs.size := by obtain ⟨_, q, _⟩ := hit; exact Heap.lt_size q
    have ht : s.heap.IsTuple a its.toArray := p
    have ae : a ≠ e := fun z => by
      obtain ⟨o, ho, hc, _⟩ := ht
      rw [z, he] at ho
      cases ho
      exact absurd (Value.type.inj hc) (by decide)
    have ai : a ≠ it := fun z => by
      obtain ⟨o, ho, hc, _⟩ := ht
      obtain ⟨o2, ho2, hc2, _⟩ := hit
      rw [z, ho2] at ho
      cases ho
      rw [hc2] at hc
      exact absurd (Value.type.inj hc) (by decide)
    have hlt : i < its.toArray.size := by
      have y := List.getElem?_eq_some_iff.mp hu
      obtain ⟨y, _⟩ := y
      simpa using y
    refine wpAny_pyNext_enum_itemD (PySem.FabX.draws_tup (A := X.A.in1) (show X.A.in1.handled = none from I.ok.hd hc) it a ai its.toArray) he ⟨hit, ht⟩ hlt hne (by simp [hne, Ne.symm ae]) fun u' h' tk hu' ho ⟨hit', _⟩ hT hsz hk => ?_
    have eu : u' = u := by
      have y : its.toArray[i]? = some u := by simpa using hu
      exact Option.some.inj (hu'.symm.trans y)
    subst eu
    refine ⟨_, rfl, wpAny_letOwnedTupleGo_enum (s := { s with heap := h', toks := tk + 1 }) ho fun h'' he' sb => ?_⟩
    have hT2 : h''.get? s.heap.objs.size = some { cls := .type "tuple", data := .seq #[.int i tk, u'] } := (sb.2 _ (Nat.ne_of_gt hel)).trans hT
    have new : ObjOk X.prog X.w (upd H s.heap.objs.size (.tup [.int (i : Nat), x])) h'' s.heap.objs.size (.tup [.int (i : Nat), x]) :=
      ⟨by show 2 ≤ sizeLine; decide, [.int i tk, u'], .cons ⟨_, rfl⟩ (.cons ru .nil), ⟨_, hT2, rfl, _, rfl⟩⟩
    have I1 : Inv X pins σ (upd H s.heap.objs.size (.tup [.int (i : Nat), x])) { s with heap := h'', toks := tk + 1 } :=
      I.turnedNew (ch := [e, it]) (fun b ob hb q => (sb.2 b (fun z => hb (by simp [z]))).trans (hk b ob (fun z => hb (by simp [z])) (fun z => hb (by simp [z])) q)) hf (Nat.le_refl _) new
    refine ⟨.ref s.heap.objs.size, _, I1, rfl, ⟨_, x, rfl, I.hok.fresh (Nat.le_refl _), rfl, fun ys hy => by rw [I.tuple_inj hy hq]; exact hx⟩, ⟨⟨u', ?_⟩, hit'.at fun o q => (sb.2 it (Ne.symm hne)).trans q, hne⟩, fun b hb => ?_⟩
    · rw [show ((i + 1 : Nat) : Int) = (i : Int) + 1 by omega]
      exact he'
    · have lt : b < s.heap.objs.size := by
        rcases (show b = e ∨ b = it by simpa using hb) with rfl | rfl
        · exact hel
        · exact hil
      rw [upd_ne (Nat.ne_of_lt lt)]
      exact (hf b hb).1
  done := by
    intro X hP hw hK hc i pins s σ H E I hf st hg
    subst hP hw hK
    obtain ⟨⟨old, he⟩, hit, hne⟩ := st
    obtain ⟨xs, hq, hx⟩ := hg
    obtain ⟨its, rv, p, hz⟩ := I.tuple hq
    obtain ⟨f0, f1, f2, f3, f4, f5⟩ := hf it (by simp)
    have hl := rv.length
    have hT : s.TypeIs (.ref e) "enumerate" := ⟨_, he, rfl⟩
    unfold pyNext
    refine wpAny_bind (wpAny_attempt (wpAny_callSpecial?_slot (name := Str.ofString "__next__") hT F.slot_enumerate_next
      (wpAny_call_entry F.slot_enumerate_next hT F.entry_enumerate_next ?_ (F.args_enumerate_next_1 _))))
    show wpAny _ _ (field (.ref e) 2 >>= _) _ _ _
    refine wpAny_bind (wpAny_field he rfl (x := .ref it) rfl ?_)
    refine wpAny_bind (RZ.nextOf_tuple_end (show X.A.in1.handled = none from I.ok.hd hc) hit (show s.heap.IsTuple a its.toArray from p) (by simp; omega) fun h' x eb hx' => ?_)
    obtain ⟨o, ho, hc⟩ := hx'
    refine wpAny_bind (wpAny_isInstance (T := "StopIteration") (b := true) ⟨o, ho, hc⟩ isSubtype_stop ?_)
    exact wpAny_pure ⟨rfl, I.turned (t' := s.toks) (fun b o hb q => eb b o hb q) f0 f1 f3 f4 f5⟩
  self := fun A i s Q E ⟨⟨_, he⟩, _⟩ h => wpAny_pyIter_enum he h
def iEnumT (K : PySem.W.Frag) (ta : TA) : TI := fun σ H R => ta σ H fun vs H1 => ∃ a xs, vs = [.ref a] ∧ SqT K H1 a xs ∧ R (ItTe K a) H1
theorem pi_enumT {X : Cx} {e : Expr} {ta : TA} {p pos tpos : Pos} {elts : List Expr} {kk : Nat} (hg : Gl X "enumerate") (hm : X.mg "enumerate" = none) (ha : PA X [e] ta) (hs : starEach [e] X.env = [(false, eval e X.env)] := by rfl) :
    PI X (.Tuple elts kk tpos) (.Call (.Name "enumerate" p) [e] [] pos) (iEnumT X.K ta) := by
  refine ⟨fun pins s σ H R I h => ?_⟩
  refine Call_ (ld_blt I hg hm boot_enumerate (PyProof.Rows.callWith_type1 (thn (ha.run pos pins s σ H _ I h) fun us s1 ⟨vs, H1, I1, r1, a, xs, ex, hq, q⟩ => ?_) hs rfl))
  subst ex
  cases r1 with
  | cons r rr =>
    cases rr
    cases r
    obtain ⟨its, rv, p', hz⟩ := I1.tuple hq
    refine PySem.FabX.call_enumerate_tup p' fun h' he hit hk => wpAny_pyIter_enum he ?_
    refine ⟨s1.heap.objs.size + 1, [s1.heap.objs.size + 1, s1.heap.objs.size], _, _, H1, rfl, I1.kept (t' := s1.toks) hk, turn_enumT a (s1.heap.objs.size + 1) s1.heap.objs.size, ⟨⟨.none, he⟩, hit, Nat.succ_ne_self _⟩, fun b hb => ?_, q⟩
    have hle : s1.heap.objs.size ≤ b := by
      rcases (show b = s1.heap.objs.size + 1 ∨ b = s1.heap.objs.size by simpa using hb) with rfl | rfl
      · exact Nat.le_add_right _ _
      · exact Nat.le_refl _
    exact I1.fpOk hle (I1.hok.fresh hle)
/-- the loop over enumerate(tuple): Pv by the turn -/
theorem for_enumT {K : PySem.W.Frag} {a : Addr} {xs : List V} {g : TG} {tb : TS} {D : Ends} {σ : St} {H : Hp} (Pv : Nat → St → Hp → Prop) (h0 : Pv 0 σ H) (hl : ∀ i σ H, i ≤ xs.length → Pv i σ H → SqT K H a xs)
    (hs : ∀ i x σ H T, xs[i]? = some x → Pv i σ H → H T = none → g (.ref T) σ (upd H T (.tup [.int (i : Nat), x])) fun σ2 H2 => tb { D with nx := Pv (i + 1), ct := Pv (i + 1), bk := D.nx } σ2 H2) (hd : ∀ σ H, Pv xs.length σ H → D.nx σ H) :
    ∃ W : Nat → Nat → St → Hp → Prop, (∃ m, W 0 m σ H) ∧ ∀ i m σ H, W i m σ H →
      ((ItTe K a).stop i H ∧ D.nx σ H) ∨ ((ItTe K a).go i H ∧ ∃ Nx : St → Hp → Prop, (∀ σ' H', Nx σ' H' → ∃ m', m' < m ∧ W (i + 1) m' σ' H') ∧ ∀ x H', (ItTe K a).yld i H x H' → g x σ H' fun σ2 H2 => tb { D with nx := Nx, ct := Nx, bk := D.nx } σ2 H2) := by
  refine ⟨fun i m σ H => m = xs.length - i ∧ i ≤ xs.length ∧ Pv i σ H, ⟨xs.length, by simp, Nat.zero_le _, h0⟩, ?_⟩
  rintro i m σ H ⟨rfl, hi, p⟩
  have q := hl i σ H hi p
  by_cases hlt : i < xs.length
  · refine .inr ⟨⟨xs, xs[i], q, by simp [hlt]⟩, Pv (i + 1), fun σ' H' p' => ⟨xs.length - (i + 1), by omega, rfl, hlt, p'⟩, fun x H' y => ?_⟩
    obtain ⟨T, z, rfl, nT, rfl, y⟩ := y
    exact hs i z σ H T (y xs q) p nT
  · obtain rfl : i = xs.length := by omega
    exact .inl ⟨⟨xs, q, Nat.le_refl _⟩, hd σ H p⟩
end L2

/-! ### tuple * int -/
namespace L2
open PySem PySem.Spec PyProof.Rows
open AutoSeq1 (wpAny_loadPart')
theorem tup_mul_none (l : Addr) (items : Array Value) (n : Nat) (dd : Option Addr) (sl : Array (Option Value)) (x : Int) (u : Tok) (c0 : (decide (x < -(2 ^ 63)) || decide (x ≥ 2 ^ 63)) = false) (c1 : (items.isEmpty || x == 1) = false) (c2 : (decide (x ≤ 0) || items.isEmpty) = true) :
    Meets (Builtin.«tuple.__mul__» ⟨[.ref l, .int x u], []⟩) (fun _ R s => s.heap.get? l = some { cls := .type "tuple", dict := dd, data := .seq items n, slots := sl } ∧
      R (.ok (.ret (Value.ref s.heap.objs.size))) { s with heap := s.heap.push { cls := Value.type "tuple", data := Data.seq #[] }, toks := s.toks }) :=
  .of_wp fun prog w A R s h => by
    obtain ⟨hp, g, d, tk, os⟩ := s
    obtain ⟨hl, h⟩ := h
    have f1 := AutoSeq1.idx_int
    wp_walk using wpAny_loadPart' hl
    repeat (first
      | (refine wpAny_ite_false (decide_eq_false (by rw [c0]; exact Bool.false_ne_true)) ?_; wp_walk using wpAny_loadPart' hl)
      | (refine wpAny_ite_false (decide_eq_false (by rw [c1]; exact Bool.false_ne_true)) ?_; wp_walk using wpAny_loadPart' hl)
      | (rw [if_pos c2]; wp_walk using wpAny_loadPart' hl)
      | (refine wpAny_ite_true (decide_eq_true c2) ?_; wp_walk using wpAny_loadPart' hl)
      | (refine wpAny_ite_false (decide_eq_false (Nat.not_lt.mpr (Nat.zero_le _))) ?_; wp_walk using wpAny_loadPart' hl))
    exact ⟨_, rfl, h⟩
theorem tup_mul_self (l : Addr) (items : Array Value) (n : Nat) (dd : Option Addr) (sl : Array (Option Value)) (u : Tok) :
    Meets (Builtin.«tuple.__mul__» ⟨[.ref l, .int 1 u], []⟩) (fun _ R s => s.heap.get? l = some { cls := .type "tuple", dict := dd, data := .seq items n, slots := sl } ∧
      R (.ok (.ret (Value.ref l))) s) :=
  .of_wp fun prog w A R s h => by
    obtain ⟨hp, g, d, tk, os⟩ := s
    obtain ⟨hl, h⟩ := h
    have f1 := AutoSeq1.idx_int
    have c1 : (items.isEmpty || (1 : Int) == 1) = true := by simp
    wp_walk using wpAny_loadPart' hl
    repeat (first
      | (refine wpAny_ite_true (decide_eq_true c1) ?_; wp_walk using wpAny_loadPart' hl)
      | (rw [if_pos c1]; wp_walk using wpAny_loadPart' hl))
    exact ⟨_, rfl, h⟩
/-- (..) * k: the tuple is not empty; k may be any number that is no more than a million items -/
def rRepF (K : PySem.W.Frag) : R2 := fun x y H Q => ∃ l k xs, x = .ref l ∧ y = .int k ∧ SqT K H l xs ∧ xs ≠ [] ∧ -(2 ^ 62) ≤ k ∧ xs.length * k.toNat ≤ 1000000 ∧ (k = 1 → Q (.ref l) H) ∧ (k ≠ 1 → ∀ p, H p = none → Q (.ref p) (upd H p (.tup (List.replicate k.toNat xs).flatten)))
section
variable {X : Cx}
theorem op_repTF : OpR X (binaryOp .Mult) (rRepF X.K) := by
  intro pins s σ H x y v u Q I rx ry h
  obtain ⟨l, k, xs, rfl, rfl, hT, hne, h1, hz, q1, q2⟩ := h
  cases rx
  obtain ⟨t, rfl⟩ := ry
  obtain ⟨its, r, ⟨⟨cls, dd, data, sl⟩, ho, hc, n, hd⟩, hs⟩ := I.tuple hT
  simp only at hc hd
  subst hc hd
  have hle : its.length = xs.length := r.length.symm
  have hlen : 0 < xs.length := by
    cases xs with
    | nil => exact absurd rfl hne
    | cons a b => exact Nat.succ_pos _
  have hi : its.toArray.isEmpty = false := by
    cases its with
    | nil =>
      rw [← hle] at hlen
      exact absurd hlen (Nat.lt_irrefl _)
    | cons a b => rfl
  have kN : k.toNat ≤ 1000000 := Nat.le_trans (by
    have e := Nat.mul_le_mul_right k.toNat hlen
    rw [Nat.one_mul] at e
    exact e) hz
  have c0 : (decide (k < -(2 ^ 63)) || decide (k ≥ 2 ^ 63)) = false := by
    rw [decide_eq_false (by omega), decide_eq_false (by omega)] <;> rfl
  have core : ∀ {Q' : Value → Shared → Prop}, wpAny (model X.prog X.w) X.A (call (.builtin "tuple.__mul__") [.ref l, .int k t]) Q' X.xe s → wpAny (model X.prog X.w) X.A (binaryOp .Mult (.ref l) (.int k t)) Q' X.xe s := fun {Q'} hq =>
    wpAny_binaryOp_repeat_ref (T := "tuple") (U := "int") (by decide) ⟨_, ho, rfl⟩ (fun s' => typeIs_int s' k t) noFill_tuple_mul F.fills_int_mul F.slot_int_rmul repeat_tuple F.slot_int_index.lookup
      (call_meets F.slot_int_rmul (typeIs_int s k t) F.entry_int_rmul (F.args_int_rmul_2 _ _) (int_rmul_tuple k t l its.toArray n dd sl) ⟨ho, rfl, ⟨_, ho, rfl⟩, hq⟩)
  by_cases e1 : k = 1
  · subst e1
    exact core (call_meets F.slot_tuple_mul ⟨_, ho, rfl⟩ F.entry_tuple_mul (F.args_tuple_mul_2 _ _) (tup_mul_self l its.toArray n dd sl t) ⟨ho, ⟨.ref l, H, I, rfl, q1 rfl⟩⟩)
  · have c1 : (its.toArray.isEmpty || k == 1) = false := by
      rw [hi, Bool.false_or]
      exact beq_eq_false_iff_ne.mpr e1
    by_cases e0 : k ≤ 0
    · have c2 : (decide (k ≤ 0) || its.toArray.isEmpty) = true := by rw [decide_eq_true e0, Bool.true_or]
      refine core (call_meets F.slot_tuple_mul ⟨_, ho, rfl⟩ F.entry_tuple_mul (F.args_tuple_mul_2 _ _) (tup_mul_none l its.toArray n dd sl k t c0 c1 c2) ⟨ho, ?_⟩)
      have q := q2 e1 _ (I.hok.fresh (Nat.le_refl _))
      have ez : (List.replicate k.toNat xs).flatten = [] := by
        rw [show k.toNat = 0 by omega] <;> rfl
      rw [ez] at q
      exact ⟨.ref s.heap.objs.size, _, I.laid (t' := s.toks) (o := .tup []) (fun b ob q => Heap.get?_push_of_some _ q) (Nat.le_refl _) ⟨Nat.zero_le _, [], .nil, IsTup.new _ _⟩, rfl, q⟩
    · have c2 : (decide (k ≤ 0) || its.toArray.isEmpty) = false := by
        rw [hi, Bool.or_false]
        exact decide_eq_false e0
      have flen : ∀ ys : List Value, ys.length = xs.length → (List.replicate k.toNat ys).flatten.length ≤ sizeLine := fun ys hy => by
        rw [PyProof.Rows.lm_len_rep_flat, hy, sizeLine_eq]
        rw [Nat.mul_comm] at hz
        omega
      have flenV : (List.replicate k.toNat xs).flatten.length ≤ sizeLine := by
        rw [PyProof.Rows.lm_len_rep_flat, sizeLine_eq]
        rw [Nat.mul_comm] at hz
        omega
      have hm : ((its.toArray.size : Nat) : Int) * k ≤ 1000000 := by
        rw [List.size_toArray, hle]
        have e : (k.toNat : Int) = k := Int.toNat_of_nonneg (by omega)
        rw [← e]
        have z : ((xs.length * k.toNat : Nat) : Int) ≤ 1000000 := by omega
        rw [Int.natCast_mul] at z
        exact z
      have c4 : Builtin.Tuple.tupleTooMany (((its.toArray.size : Nat) : Int) * k) = false := by
        unfold Builtin.Tuple.tupleTooMany
        rw [sizeLine_eq]
        exact decide_eq_false (by omega)
      refine core (call_meets F.slot_tuple_mul ⟨_, ho, rfl⟩ F.entry_tuple_mul (F.args_tuple_mul_2 _ _) (tuple_mulW l its.toArray n dd sl k t c0 c1 c2 (by omega) c4 (by rw [size_rep, List.size_toArray]; exact flen _ hle)) ⟨ho, ?_⟩)
      rw [size_rep]
      exact ⟨.ref s.heap.objs.size, _, I.laid (t' := s.toks) (o := .tup (List.replicate k.toNat xs).flatten) (fun b ob q => Heap.get?_push_of_some _ q) (Nat.le_refl _) ⟨flenV, _, r.rep k.toNat, IsTup.new _ _⟩, rfl, q2 e1 _ (I.hok.fresh (Nat.le_refl _))⟩
/-! ### range as a value, not in -/
theorem cr_range1 : CallR X (.type "range") (fun vs H Q => ∃ j, vs = [V.int j] ∧ ∀ p, H p = none → Q (.ref p) (upd H p (.rng 0 j))) := by
  intro pins s σ H vs us Q I r h
  obtain ⟨j, rfl, q⟩ := h
  obtain ⟨u1, rfl, t, rfl⟩ := vals1 r
  refine call_range_1 ⟨.ref s.heap.objs.size, upd H s.heap.objs.size (.rng 0 j), I.laid (t' := s.toks + 1 + 1) (fun b o e => Heap.get?_push_of_some _ e) (Nat.le_refl _) ?_, rfl, q _ (I.hok.fresh (Nat.le_refl _))⟩
  exact ⟨s.toks, t, s.toks + 1, Heap.get?_push_size _ rfl⟩
def rNotInR : R2 := fun x y H Q => ∃ i a lo hi, x = V.int i ∧ y = V.ref a ∧ H a = some (.rng lo hi) ∧ Q (.bl (!decide (lo ≤ i ∧ i < hi))) H
theorem op_notInR : OpR X (compareOp .NotIn) rNotInR := by
  intro pins s σ H x y v u Q I rx ry h
  obtain ⟨i, a, lo, hi, rfl, rfl, ha, q⟩ := h
  obtain ⟨k, rfl⟩ := rx
  obtain rfl : u = Value.ref a := ry
  obtain ⟨t1, t2, t3, ho⟩ := I.hok a _ ha
  refine NotIn_slot (T := "range") ⟨_, ho, rfl⟩ F.slot_range_contains (call_meets F.slot_range_contains ⟨_, ho, rfl⟩ F.entry_range_contains (F.args_range_contains_2 _ _) (q_contains a lo hi i t1 t2 t3 k)
    ⟨ho, wpAny_truthy_bool ⟨.bl _, H, I, rfl, ?_⟩⟩)
  rw [place1]
  exact q
/-! ### is True, is False, of any value that the layer has -/
def rIsC : R2 := fun x y H Q => ∃ b : Bool, y = .bl b ∧ Q (.bl (decide (x = .bl b))) H
theorem op_isB : OpR X (compareOp .Is) rIsC := by
  intro pins s σ H x y v u Q I rx ry h
  obtain ⟨b, rfl, q⟩ := h
  obtain rfl : u = Value.bool b := ry
  have other : plainIs v (.bool b) = true → v ≠ .bool b → x ≠ .bl b → wpAny (model X.prog X.w) X.A (compareOp .Is v (.bool b)) (EP X pins σ Q) X.xe s := fun hp hne hx => by
    rw [decide_eq_false hx] at q
    exact wpAny_is_other hp hne ⟨.bl false, H, I, rfl, q⟩
  cases x with
  | non => obtain rfl : v = Value.none := rx; exact other rfl (fun z => nomatch z) (fun z => nomatch z)
  | bl a =>
    obtain rfl : v = Value.bool a := rx
    by_cases e : a = b
    · subst e
      rw [decide_eq_true rfl] at q
      exact wpAny_is_self rfl ⟨.bl true, H, I, rfl, q⟩
    · exact other rfl (fun z => e (Value.bool.inj z)) (fun z => e (V.bl.inj z))
  | int i => obtain ⟨t, rfl⟩ := rx; exact other rfl (fun z => nomatch z) (fun z => nomatch z)
  | str i => obtain ⟨t, rfl⟩ := rx; exact other rfl (fun z => nomatch z) (fun z => nomatch z)
  | byt i => obtain ⟨t, rfl⟩ := rx; exact other rfl (fun z => nomatch z) (fun z => nomatch z)
  | flt i => obtain ⟨t, rfl⟩ := rx; exact other rfl (fun z => nomatch z) (fun z => nomatch z)
  | ref a => obtain rfl : v = Value.ref a := rx; exact other rfl (fun z => nomatch z) (fun z => nomatch z)
  | ty n => obtain rfl : v = Value.type n := rx; exact other rfl (fun z => nomatch z) (fun z => nomatch z)
end
/-! ### min, max of a tuple of ints -/
section
variable {prog : Program} {w : World} {A : Around} {E : Value → Shared → Prop} {s : Shared} {l : Addr} {its : List Value} {ns : List Int}
theorem tup_iter {xs : Array Value} {Q : Value → Shared → Prop} (hl : s.heap.IsTuple l xs)
    (h : ∀ s₂ : Shared, s₂ = { s with heap := s.heap.push { cls := .type "tuple_iterator", data := .fields #[.ref l, .int 0 0] } } →
      (s₂.heap.IsTupleIter s.heap.objs.size l 0 ∧ s₂.heap.IsTuple l xs) → (∀ b ∈ [s.heap.objs.size, l], b < s₂.heap.objs.size) → l ≠ s.heap.objs.size → Q (.ref s.heap.objs.size) s₂) :
    wpAny (model prog w) A (pyIter (.ref l)) Q E s := by
  have hlt : l < s.heap.objs.size := by obtain ⟨_, e, _⟩ := hl; exact Heap.lt_size e
  refine wpAny_pyIter_tuple hl (h _ rfl ⟨⟨_, Heap.get?_push_size _ rfl, rfl, rfl⟩, hl.at fun o e => Heap.get?_push_of_some _ e⟩ (fun b hb => ?_) (Nat.ne_of_lt hlt))
  show b < (s.heap.push _).objs.size
  rw [Heap.size_push]
  rcases (show b = s.heap.objs.size ∨ b = l by simpa using hb) with rfl | rfl
  · exact Nat.lt_succ_self _
  · exact Nat.lt_succ_of_lt hlt
theorem keeps_iter {h' : Heap} {o : Obj} (hk : ∀ b u, b ∉ [s.heap.objs.size] → (s.heap.push o).get? b = some u → h'.get? b = some u) : ∀ b u, s.heap.get? b = some u → h'.get? b = some u := fun b u e =>
  hk b u (fun hm => by
    rw [List.mem_singleton] at hm
    exact absurd (hm ▸ Heap.lt_size e) (Nat.lt_irrefl _)) (Heap.get?_push_of_some _ e)
theorem min_tup {Q : Value → Shared → Prop} (hh : A.handled = none) (hl : s.heap.IsTuple l its.toArray) (hi : IntsAre its ns) (hne : 0 < ns.length)
    (h : ∀ h' tk M t', (∀ b o, s.heap.get? b = some o → h'.get? b = some o) → M ∈ ns → (∀ a, a ∈ ns → M ≤ a) → Q (.int M t') { s with heap := h', toks := tk }) : wpAny (model prog w) A (call (.builtin "min") [.ref l]) Q E s := by
  obtain ⟨xs, e⟩ := hi.allInts.items
  have hn : numsOf (intItems xs).toList = ns := by rw [← e]; exact hi.numsOf
  rw [nums_intItems] at hn
  subst hn
  rw [e] at hl
  have hsz : 0 < xs.size := by simpa using hne
  refine call_min_walk (tup_iter hl fun s₂ e st hfp hlI => ?_)
  subst e
  refine ⟨_, _, _, _, _, _, _, rfl, Walks.tuple (A := A.in1) hh _ l hlI (intItems xs), st, hfp, by simpa [intItems] using hsz, CmpOf.ints_lt (numAt xs) (fun _ _ => intItems_at), fun v h' tk hP hk => ?_⟩
  have hP' : (intItems xs)[argBest (fun i j => decide (numAt xs i < numAt xs j)) (xs.size - 1)]? = some v := by simpa [intItems] using hP
  obtain ⟨t, rfl⟩ := intItems_at hP'
  obtain ⟨h1, h2⟩ := argBest_lt (numAt xs) (xs.size - 1)
  refine h h' tk _ t (keeps_iter hk) ?_ fun a ha => ?_
  · rw [numAt_eq]; exact PySem.getD_mem (by rw [List.length_map, Array.length_toList]; omega)
  · obtain ⟨j, hj, rfl⟩ := mem_getD ha
    rw [List.length_map, Array.length_toList] at hj
    rw [← numAt_eq]; exact h2 j (by omega)
theorem max_tup {Q : Value → Shared → Prop} (hh : A.handled = none) (hl : s.heap.IsTuple l its.toArray) (hi : IntsAre its ns) (hne : 0 < ns.length)
    (h : ∀ h' tk M t', (∀ b o, s.heap.get? b = some o → h'.get? b = some o) → M ∈ ns → (∀ a, a ∈ ns → a ≤ M) → Q (.int M t') { s with heap := h', toks := tk }) : wpAny (model prog w) A (call (.builtin "max") [.ref l]) Q E s := by
  obtain ⟨xs, e⟩ := hi.allInts.items
  have hn : numsOf (intItems xs).toList = ns := by rw [← e]; exact hi.numsOf
  rw [nums_intItems] at hn
  subst hn
  rw [e] at hl
  have hsz : 0 < xs.size := by simpa using hne
  refine call_max_walk (tup_iter hl fun s₂ e st hfp hlI => ?_)
  subst e
  refine ⟨_, _, _, _, _, _, _, rfl, Walks.tuple (A := A.in1) hh _ l hlI (intItems xs), st, hfp, by simpa [intItems] using hsz, CmpOf.ints_gt (numAt xs) (fun _ _ => intItems_at), fun v h' tk hP hk => ?_⟩
  have hP' : (intItems xs)[argBest (fun i j => decide (numAt xs i > numAt xs j)) (xs.size - 1)]? = some v := by simpa [intItems] using hP
  obtain ⟨t, rfl⟩ := intItems_at hP'
  obtain ⟨h1, h2⟩ := argBest_gt (numAt xs) (xs.size - 1)
  refine h h' tk _ t (keeps_iter hk) ?_ fun a ha => ?_
  · rw [numAt_eq]; exact PySem.getD_mem (by rw [List.length_map, Array.length_toList]; omega)
  · obtain ⟨j, hj, rfl⟩ := mem_getD ha
    rw [List.length_map, Array.length_toList] at hj
    rw [← numAt_eq]; exact h2 j (by omega)
end
section
variable {X : Cx}
def rMaxT (K : PySem.W.Frag) : List V → Hp → VK → Prop := fun vs H Q => ∃ (a : Addr) (ns : List Int), vs = [V.ref a] ∧ SqT K H a (ns.map V.int) ∧ 0 < ns.length ∧ ∀ m, m ∈ ns → (∀ y, y ∈ ns → y ≤ m) → Q (.int m) H
def rMinT (K : PySem.W.Frag) : List V → Hp → VK → Prop := fun vs H Q => ∃ (a : Addr) (ns : List Int), vs = [V.ref a] ∧ SqT K H a (ns.map V.int) ∧ 0 < ns.length ∧ ∀ m, m ∈ ns → (∀ y, y ∈ ns → m ≤ y) → Q (.int m) H
theorem cr_maxT (hc : X.calm = true) : CallR X (.builtin "max") (rMaxT X.K) := by
  intro pins s σ H vs us Q I r h
  obtain ⟨a, ns, rfl, hs, hne, q⟩ := h
  obtain ⟨its, rv, hl, _⟩ := I.tuple hs
  rw [Vals.ref1 r]
  exact max_tup (I.ok.hd hc) hl rv.ints hne fun h' tk m t' hk h1 h2 => ⟨.int _, H, I.kept hk, ⟨_, rfl⟩, q m h1 h2⟩
theorem cr_minT (hc : X.calm = true) : CallR X (.builtin "min") (rMinT X.K) := by
  intro pins s σ H vs us Q I r h
  obtain ⟨a, ns, rfl, hs, hne, q⟩ := h
  obtain ⟨its, rv, hl, _⟩ := I.tuple hs
  rw [Vals.ref1 r]
  exact min_tup (I.ok.hd hc) hl rv.ints hne fun h' tk m t' hk h1 h2 => ⟨.int _, H, I.kept hk, ⟨_, rfl⟩, q m h1 h2⟩
end
end L2
set_option maxHeartbeats 4000000
/-! The head's facts: defs by names, the errors' classes, what else is asked of the written part. -/
namespace FabH
open PySem PySem.Spec PyProof.Rows L2 He
open PySem.FabX (iA iB iS ErrTxt)
/-- the function object of the module's name x -/
def fdOf (K : PySem.W.Frag) (x : Str) : FuncData := match K.lookup (ga K x) with
  | some ⟨_, _, .func fd, _⟩ => fd
  | _ => default
/-- a def of the text by its name -/
structure GF (K : PySem.W.Frag) (mg : Str → Option Value) (x : Str) (st : Stmt) : Prop where
  g : mg x = some (.ref (ga K x))
  f : FunD K x x (defArgs st) (defBody st) (defScope st) [] [] (ga K x) (fdOf K x)
/-- an error's class in the text: its name, its field, where its __init__ stands -/
structure ErrD where
  x : Str
  fl : Str
  msg : Str
  qual : Str
  p1 : Pos
  p2 : Pos
  q0 : Pos
  q1 : Pos
  q2 : Pos
  q3 : Pos
  q4 : Pos
  q5 : Pos
  q6 : Pos
  q7 : Pos
  q8 : Pos
  q9 : Pos
def ErrD.params (d : ErrD) : Arguments := iA d.fl d.p1 d.p2
def ErrD.body (d : ErrD) : List Stmt := iB d.fl d.msg d.q0 d.q1 d.q2 d.q3 d.q4 d.q5 d.q6 d.q7 d.q8 d.q9
structure ErrD.Good (d : ErrD) : Prop where
  fl : PySem.FabX.flOk d.fl = true
  line : (d.q2.endLine == d.q4.line) = true
  bind : ∀ (cc : Addr) (doc pm : Value) (an : Option Addr) (cdv ct : Value) (x : Addr) (v : Value), bindArgs (PySem.W.fnX "__init__" d.qual d.params d.body (iS d.fl) [("__class__", cc)] .none .none doc pm an cdv ct) ⟨[.ref x, v], []⟩ = pure [(("self" : Str), Value.ref x), (d.fl, v)]
def initOf (K : PySem.W.Frag) (x : Str) : Addr := ma K (ga K x) "__init__"
def ccOf (K : PySem.W.Frag) (x : Str) : Addr := match K.lookup (initOf K x) with
  | some ⟨_, _, .func fd, _⟩ => (match fd.closure with
    | [(_, c)] => c
    | _ => 0)
  | _ => 0
def cdaOf (K : PySem.W.Frag) (x : Str) : Addr := match K.lookup (initOf K x) with
  | some ⟨_, _, .func fd, _⟩ => (match fd.code with
    | .ref c => c
    | _ => 0)
  | _ => 0
def clsB (K : PySem.W.Frag) (C : Addr) : Bool := match K.lookup C with
  | some ⟨.type "type", _, .cls cd, sl⟩ => (match cd.mro, sl.toList with
    | .ref C' :: bm, [_, _, _, _, some (.builtin n), _] => C' == C && (n == "ValueError.__new__" && (!cd.hasDel && (cd.hasDict && PySem.HandSPX.refsVE bm)))
    | _, _ => false)
  | _ => false
theorem clsB_ok {K : PySem.W.Frag} {C : Addr} (h : clsB K C = true) :
    ∃ nm q N bs bm sn sub ab col dd k0 k1 k2 k3 k5, K.lookup C = some (excClassObj nm q C N bs bm true sn sub ab col dd k0 k1 k2 k3 k5 "ValueError.__new__") ∧ PySem.HandSPX.refsVE bm = true := by
  unfold clsB at h
  split at h
  · rename_i dd cd sl ho
    split at h
    · rename_i C' bm k0 k1 k2 k3 n k5 hm hs
      simp only [Bool.and_eq_true, beq_iff_eq, Bool.not_eq_true'] at h
      obtain ⟨rfl, rfl, hdel, hdct, hr⟩ := h
      obtain ⟨nm, bs, mro, ns, qn, hd, sn, sub, ab, col, del⟩ := cd
      dsimp only at hm hdel hdct
      subst hm hdel hdct
      obtain ⟨l⟩ := sl
      simp only at hs
      subst hs
      exact ⟨nm, qn, ns, bs, bm, sn, sub, ab, col, dd, k0, k1, k2, k3, k5, ho, hr⟩
    · cases h
  · cases h
abbrev FnC : Type := Option (Str × Str × Arguments × FuncBody × Scope × Addr × List Str × Addr)
def fnC (K : PySem.W.Frag) (x : Str) : FnC := match K.lookup (initOf K x) with
  | some ⟨_, _, .func fd, _⟩ => some (fd.name, fd.qualname, fd.params, fd.body, fd.scope, fd.globals, fd.closure.map (·.1), fd.builtins)
  | _ => none
def ErrD.val (d : ErrD) : FnC := some ("__init__", d.qual, d.params, .stmts d.body, iS d.fl, mainGlobals, ["__class__"], builtinsNs)
/-- what of the __init__ is looked at besides: no defaults, its code, its cell -/
def initB (K : PySem.W.Frag) (file : Str) (d : ErrD) : Bool := match K.lookup (initOf K d.x) with
  | some ⟨_, _, .func fd, _⟩ => (match fd.defaults, fd.kwdefaults, fd.closure, fd.code with
    | .none, .none, [(_, cc)], .ref cda => PySem.W.codeIn K (.ref cda) d.qual && ((match K.lookup cc with
        | some ⟨_, _, .cell (some (.ref D)), _⟩ => decide (D = ga K d.x)
        | _ => false) && (match K.lookup cda with
        | some ⟨_, _, .fields (vs : Array Value), _⟩ => (match (vs[2]? : Option Value) with
          | some (Value.str f _) => decide (f = file)
          | _ => false)
        | _ => false))
    | _, _, _, _ => false)
  | _ => false
def oV (a b : Option Value) : Bool := decide (a = b)
def oB (a : Option Bool) (b : Bool) : Bool := decide (a = some b)
def errB (K : PySem.W.Frag) (file : Str) (d : ErrD) : Bool :=
  clsB K (ga K d.x) && (initB K file d && (eqO (PySem.W.findIn K (.ref (ga K d.x)) "__setattr__") (some (some (.builtin "object.__setattr__"))) && (eqO (PySem.W.findIn K (.ref (ga K d.x)) d.fl) (some none) &&
  (eqO (PySem.W.findIn K (.ref (ga K d.x)) "__init__") (some (some (.ref (initOf K d.x)))) && (oV (PySem.W.typeIn K (.ref (initOf K d.x))) (some (.type "function")) && (PySem.W.keepIn K (.ref (ga K d.x)) &&
  (oB (PySem.W.subIn K (.ref (ga K d.x)) (.type "BaseException")) true && (oV (PySem.W.typeIn K (.ref (ga K d.x))) (some (.type "type")) && (oB (PySem.W.subIn K (.ref (ga K d.x)) (.type "ValueError")) true &&
  (oB (PySem.W.mroIn K (ga K d.x) (.ref (ga K d.x))) true && (eqO (PySem.W.ks_superIn K (ga K d.x) (ga K d.x) "__init__") (some (some (.builtin "ValueError.__init__"))) && eqO (PySem.W.nsIn K cStatics "thirdparty.any") (some none))))))))))))
/-- what isinstance and an except suite ask of a class -/
def suiteB (K : PySem.W.Frag) (x : Str) : Bool :=
  eqO (PySem.W.findIn K (.ref (ga K x)) "__getattribute__") (some (some (.builtin "BaseException.__getattribute__"))) && (eqO (PySem.W.findIn K (.ref (ga K x)) "__getattr__") (some none) && (oB (PySem.W.subIn K (.ref (ga K x)) (.type "BaseException")) true &&
  (PySem.W.hasDictIn K (ga K x) && (eqO (PySem.W.findIn K (.ref (ga K x)) "__class__") (some (some (.builtin "object.__class__"))) && (eqO (PySem.W.specialIn K (.builtin "object.__class__") "__get__") (some (some (.builtin "getset_descriptor.__get__"))) &&
  (oB (PySem.W.takesIn K (.builtin "object.__class__")) true && oB (PySem.W.mroIn K (ga K x) (.type "object")) true))))))
theorem suiteB_ok {K : PySem.W.Frag} {x : Str} (h : suiteB K x = true) : ExcC K (ga K x) ∧ XfC K (ga K x) := by
  obtain ⟨h1, h⟩ := ba h
  obtain ⟨h2, h⟩ := ba h
  obtain ⟨h3, h⟩ := ba h
  obtain ⟨h4, h⟩ := ba h
  obtain ⟨h5, h⟩ := ba h
  obtain ⟨h6, h⟩ := ba h
  obtain ⟨h7, h8⟩ := ba h
  exact ⟨⟨eqO_ok h1, eqO_ok h2, of_decide_eq_true h3, h4, eqO_ok h5, eqO_ok h6, of_decide_eq_true h7, of_decide_eq_true h8⟩, ⟨eqO_ok h1, eqO_ok h2, of_decide_eq_true h3, h4⟩⟩
theorem errB_ok {K : PySem.W.Frag} {file : Str} {d : ErrD} (g : d.Good) (e : fnC K d.x = d.val) (h : errB K file d = true) : ErrTxt K file d.fl (ga K d.x) (initOf K d.x) (ccOf K d.x) (cdaOf K d.x) := by
  obtain ⟨h1, h⟩ := ba h
  obtain ⟨h2, h⟩ := ba h
  obtain ⟨h3, h⟩ := ba h
  obtain ⟨h4, h⟩ := ba h
  obtain ⟨h5, h⟩ := ba h
  obtain ⟨h6, h⟩ := ba h
  obtain ⟨h7, h⟩ := ba h
  obtain ⟨h8, h⟩ := ba h
  obtain ⟨h9, h⟩ := ba h
  obtain ⟨h10, h⟩ := ba h
  obtain ⟨h11, h⟩ := ba h
  obtain ⟨h12, h13⟩ := ba h
  unfold initB at h2
  unfold fnC at e
  cases q : K.lookup (initOf K d.x) with
  | none =>
    rw [q] at h2
    cases h2
  | some o =>
    obtain ⟨oc, od, dt, osl⟩ := o
    rw [q] at h2 e
    cases dt with
    | func fd =>
      obtain ⟨n1, n2, n3, n4, n5, n6, n7, n8, n9, n10, n11, n12, n13, n14, n15⟩ := fd
      have e2 : (some (n1, n2, n3, n4, n5, n6, n7.map (·.1), n15) : FnC) = (some ("__init__", d.qual, d.params, .stmts d.body, iS d.fl, mainGlobals, ["__class__"], builtinsNs) : FnC) := e
      simp only [Option.some.injEq, Prod.mk.injEq] at e2
      obtain ⟨e1, e2, e3, e4, e5, e6, e7, e8⟩ := e2
      subst e1 e2 e3 e4 e5 e6 e8
      dsimp only at h2
      split at h2
      · rename_i cn cc cda
        obtain ⟨c1, c2⟩ := ba h2
        obtain ⟨c3, c4⟩ := ba c2
        have ecn : cn = ("__class__" : Str) := by simpa using e7
        subst ecn
        have hcc : ccOf K d.x = cc := by
          unfold ccOf
          rw [q]
        have hcda : cdaOf K d.x = cda := by
          unfold cdaOf
          rw [q]
        rw [hcc, hcda]
        refine { cls := clsB_ok h1, sa := eqO_ok h3, noN := eqO_ok h4, iC := eqO_ok h5, tC := of_decide_eq_true h6, kC := h7, exC := of_decide_eq_true h8, tyC := of_decide_eq_true h9, ve := of_decide_eq_true h10, mro := of_decide_eq_true h11, sup := eqO_ok h12, opq := eqO_ok h13, cell := ?_, code := ?_, fn := ?_ }
        · split at c3
          · rename_i y1 y2 D y3 hk
            have eD : D = ga K d.x := of_decide_eq_true c3
            rw [eD] at hk
            exact ⟨_, _, _, hk⟩
          · cases c3
        · split at c4
          · rename_i y1 y2 vs y3 hk
            split at c4
            · rename_i f tf hf
              have ef : f = file := of_decide_eq_true c4
              rw [ef] at hf
              exact ⟨_, _, _, _, _, hk, hf⟩
            · cases c4
          · cases c4
        · exact ⟨oc, od, d.qual, d.msg, _, _, _, _, osl, d.p1, d.p2, d.q0, d.q1, d.q2, d.q3, d.q4, d.q5, d.q6, d.q7, d.q8, d.q9, q, c1, g.line, fun x v => g.bind _ _ _ _ _ _ x v⟩
      · cases h2
    | _ => cases h2
/-! ### the Hook -/
abbrev AlF : Type := Bool × List FnW × List FnC
def obsF (fa : List Fa) (fn : List DefD) (file : Str) (er : List ErrD) (ex : PySem.W.Frag → Bool) (K : PySem.W.Frag) : AlF :=
  ((fa.all fun f => f.ok K) && ((fn.all fun d => d.ok K) && ((er.all fun d => errB K file d) && ex K)), fn.map fun d => fnW K d.at_, er.map fun d => fnC K d.x)
def valF (fn : List DefD) (er : List ErrD) : AlF := (true, fn.map DefD.val, er.map ErrD.val)
def SaysF (fa : List Fa) (fn : List DefD) (file : Str) (er : List ErrD) (ex : PySem.W.Frag → Bool) (K : PySem.W.Frag) : Prop := obsF fa fn file er ex K = valF fn er
def asF (g : Addr → Option Obj) (n : Nat) : List Addr := cStatics :: asD g n
def obsFG (n : Nat) (fa : List Fa) (fn : List DefD) (file : Str) (er : List ErrD) (ex : PySem.W.Frag → Bool) (g : Addr → Option Obj) : AlF := obsF fa fn file er ex (frG g (asF g n))
def hookF (n : Nat) (fa : List Fa) (fn : List DefD) (file : Str) (er : List ErrD) (ex : PySem.W.Frag → Bool) : PySem.W.Hook where
  α := AlF
  obs := fun s => obsFG n fa fn file er ex s.heap.get?
  val := fun _ => valF fn er
  says := fun _ h => ∃ K : PySem.W.Frag, K.In h ∧ SaysF fa fn file er ex K
  of := fun _ _ e => ⟨_, frG_in, e⟩
  keeps := fun _ _ _ ⟨K, hK, c⟩ k => ⟨K, PySem.W.Frag.In.keeps hK k, c⟩
theorem obsFG_eq {n : Nat} {fa : List Fa} {fn : List DefD} {file : Str} {er : List ErrD} {ex : PySem.W.Frag → Bool} {g : Addr → Option Obj} {s : Shared} (h : ∀ a, g a = s.heap.get? a) : obsFG n fa fn file er ex g = (hookF n fa fn file er ex).obs s := by
  have e : g = s.heap.get? := funext h
  rw [e] <;> rfl
section
variable {fa : List Fa} {fn : List DefD} {file : Str} {er : List ErrD} {ex : PySem.W.Frag → Bool} {K : PySem.W.Frag} {h : Heap} {mg : Str → Option Value}
theorem SaysF.bools (c : SaysF fa fn file er ex K) : (fa.all fun f => f.ok K) = true ∧ (fn.all fun d => d.ok K) = true ∧ (er.all fun d => errB K file d) = true ∧ ex K = true := by
  obtain ⟨h1, h⟩ := ba (congrArg (fun z : AlF => z.1) c)
  obtain ⟨h2, h⟩ := ba h
  obtain ⟨h3, h4⟩ := ba h
  exact ⟨h1, h2, h3, h4⟩
theorem SaysF.fact (c : SaysF fa fn file er ex K) (i : Nat) {f : Fa} (h : fa[i]? = some f) : f.ok K = true := List.all_eq_true.mp c.bools.1 f (List.mem_of_getElem? h)
theorem SaysF.err (c : SaysF fa fn file er ex K) (i : Nat) {d : ErrD} (h : er[i]? = some d) (g : d.Good) : ErrTxt K file d.fl (ga K d.x) (initOf K d.x) (ccOf K d.x) (cdaOf K d.x) := by
  have e : er.map (fun d => fnC K d.x) = er.map ErrD.val := congrArg (fun z : AlF => z.2.2) c
  have e2 : (er.map fun d => fnC K d.x)[i]? = (er.map ErrD.val)[i]? := by rw [e]
  rw [List.getElem?_map, List.getElem?_map, h] at e2
  exact errB_ok g (Option.some.inj e2) (List.all_eq_true.mp c.bools.2.2.1 d (List.mem_of_getElem? h))
theorem SaysF.def_ (c : SaysF fa fn file er ex K) (i : Nat) {d : DefD} (h : fn[i]? = some d) : ∃ fd, FunD K d.name d.qual d.params d.body d.scope (d.dvs K) (d.kws K) (fAd K d.at_) fd := by
  have e : fn.map (fun d => fnW K d.at_) = fn.map DefD.val := congrArg (fun z : AlF => z.2.1) c
  have e2 : (fn.map fun d => fnW K d.at_)[i]? = (fn.map DefD.val)[i]? := by rw [e]
  rw [List.getElem?_map, List.getElem?_map, h] at e2
  exact DefD.funD (Option.some.inj e2) (List.all_eq_true.mp c.bools.2.1 d (List.mem_of_getElem? h))
/-- a plain def of the module -/
def dOf (x : Str) (st : Stmt) : DefD := ⟨(x, none), x, x, defArgs st, defBody st, defScope st, [], []⟩
theorem SaysF.gf (X : K.In h) (G : h.Ns mainGlobals mg) (c : SaysF fa fn file er ex K) (i j : Nat) {x : Str} {st : Stmt} (hd : fn[i]? = some (dOf x st)) (hf : fa[j]? = some (.glo x)) : GF K mg x st := by
  obtain ⟨fd, F⟩ := c.def_ i hd
  have e : fdOf K x = fd := by
    obtain ⟨oc, od, dV, kV, doc, pm, an, cdv, ct, osl, _, lk, _⟩ := F.ex
    unfold fdOf
    rw [show K.lookup (ga K x) = _ from lk]
  refine ⟨glo_ok X G (c.fact j hf), ?_⟩
  rw [e]
  exact F
end
end FabH
set_option maxHeartbeats 4000000
/-! Pools of draws as closed things: a list of four ints of which nothing else is told. -/
namespace L2
open PySem PySem.Spec PyProof.Rows
def Ints4 (xs : List V) : Prop := ∃ k c s n : Int, xs = [.int k, .int c, .int s, .int n]
def poolO (a : Addr) : HO := .ext fun h => ∃ xs, Ints4 xs ∧ ∃ (its : List Value) (n : Nat), Vals xs its ∧ h.get? a = some { cls := .type "list", data := .seq its.toArray n }
def IsPool (H : Hp) (a : Addr) : Prop := H a = some (poolO a)
theorem Ints4.len {xs : List V} (h : Ints4 xs) : xs.length ≤ sizeLine := by
  obtain ⟨k, c, s, n, rfl⟩ := h
  show 4 ≤ sizeLine
  rw [sizeLine_eq]
  decide
theorem pool_ne_lst {a : Addr} {xs : List V} : poolO a ≠ .lst xs := fun z => by
  have z' : HO.ext _ = HO.lst xs := z
  cases z'
theorem pool_ne_tup {a : Addr} {xs : List V} : poolO a ≠ .tup xs := fun z => by
  have z' : HO.ext _ = HO.tup xs := z
  cases z'
theorem pool_ne_own {a x : Addr} : poolO a ≠ .own x := fun z => by
  have z' : HO.ext _ = HO.own x := z
  cases z'
theorem pool_ne_frz {a : Addr} {o : Obj} {u : HO} : poolO a ≠ .frz o u := fun z => by
  have z' : HO.ext _ = HO.frz o u := z
  cases z'
theorem pool_ne_tbl {a : Addr} {ps : Array Value} : poolO a ≠ .tbl ps := fun z => by
  have z' : HO.ext _ = HO.tbl ps := z
  cases z'
theorem IsPool.not {H : Hp} {a : Addr} {o : HO} (h : H a = some o) (n : poolO a ≠ o) : ¬ IsPool H a := fun z => by
  have z' : H a = some (poolO a) := z
  rw [h] at z'
  exact n (Option.some.inj z').symm
/-- H with its pools opened -/
structure Opened (H H1 : Hp) : Prop where
  on : ∀ a, IsPool H a → ∃ xs, Ints4 xs ∧ H1 a = some (.lst xs)
  off : ∀ a, ¬ IsPool H a → H1 a = H a
theorem Opened.at {H H1 : Hp} {a : Addr} {o : HO} (x : Opened H H1) (h : H a = some o) (n : poolO a ≠ o) : H1 a = some o := (x.off a (IsPool.not h n)).trans h
theorem Opened.free {H H1 : Hp} {a : Addr} (x : Opened H H1) (h : H a = none) : H1 a = none := (x.off a fun z => by
  have z' : H a = some (poolO a) := z
  rw [h] at z'
  cases z').trans h
theorem Opened.back {H H1 : Hp} {a : Addr} (x : Opened H H1) (h : H1 a = none) : H a = none := by
  by_cases p : IsPool H a
  · obtain ⟨xs, _, e⟩ := x.on a p
    rw [e] at h
    cases h
  · rw [← x.off a p]
    exact h
theorem Opened.back_at {H H1 : Hp} {a : Addr} {o : HO} (x : Opened H H1) (h : H1 a = some o) (n : ∀ xs, o ≠ .lst xs) : H a = some o := by
  by_cases p : IsPool H a
  · obtain ⟨xs, _, e⟩ := x.on a p
    rw [e] at h
    exact absurd (Option.some.inj h).symm (n xs)
  · rw [← x.off a p]
    exact h
section
variable {P : Program} {w : World} {H H1 : Hp} {h : Heap}
open Classical in
theorem open_pools (x : HOk P w H h) : ∃ H1, Opened H H1 ∧ HOk P w H1 h := by
  have key : ∀ a, IsPool H a → ∃ xs, Ints4 xs ∧ ∃ (its : List Value) (n : Nat), Vals xs its ∧ h.get? a = some { cls := .type "list", data := .seq its.toArray n } := fun a p => by
    have q : ObjOk P w H h a (poolO a) := x a _ p
    exact q.1
  have kf : ∀ a, ∃ o : Option HO, (IsPool H a → ∃ xs, Ints4 xs ∧ (∃ (its : List Value) (n : Nat), Vals xs its ∧ h.get? a = some { cls := .type "list", data := .seq its.toArray n }) ∧ o = some (.lst xs)) ∧ (¬ IsPool H a → o = H a) := fun a => by
    by_cases p : IsPool H a
    · obtain ⟨xs, i, z⟩ := key a p
      exact ⟨some (.lst xs), fun _ => ⟨xs, i, z, rfl⟩, fun n => absurd p n⟩
    · exact ⟨H a, fun q => absurd q p, fun _ => rfl⟩
  obtain ⟨H1, e1⟩ : ∃ H1 : Hp, H1 = fun a => (kf a).choose := ⟨_, rfl⟩
  have H1s : ∀ a, (IsPool H a → ∃ xs, Ints4 xs ∧ (∃ (its : List Value) (n : Nat), Vals xs its ∧ h.get? a = some { cls := .type "list", data := .seq its.toArray n }) ∧ H1 a = some (.lst xs)) ∧ (¬ IsPool H a → H1 a = H a) := fun a => by
    rw [e1]
    exact (kf a).choose_spec
  have op : Opened H H1 := ⟨fun a p => by
    obtain ⟨xs, i, _, e⟩ := (H1s a).1 p
    exact ⟨xs, i, e⟩, fun a n => (H1s a).2 n⟩
  refine ⟨H1, op, fun b o e => ?_⟩
  by_cases p : IsPool H b
  · obtain ⟨xs, i, ⟨its, n, r, g⟩, e2⟩ := (H1s b).1 p
    rw [e2] at e
    cases e
    exact ⟨i.len, its, n, r, g⟩
  · rw [op.off b p] at e
    exact (x b o e).stay (fun _ _ _ z => z) (fun c z => op.at z pool_ne_own) fun c xs z => op.at z pool_ne_tup
theorem close_pools (op : Opened H H1) (x : HOk P w H1 h) : HOk P w H h := fun b o e => by
  by_cases p : IsPool H b
  · obtain ⟨xs, i, e2⟩ := op.on b p
    have p' : H b = some (poolO b) := p
    rw [p'] at e
    cases e
    obtain ⟨_, its, n, r, g⟩ := (show ObjOk P w H1 h b (.lst xs) from x b _ e2)
    refine ⟨⟨xs, i, its, n, r, g⟩, ⟨_, g⟩, fun h1 h2 z k => ?_⟩
    obtain ⟨ys, j, its', n', r', g'⟩ := z
    exact ⟨ys, j, its', n', r', k _ g'⟩
  · have e2 : H1 b = some o := (op.off b p).trans e
    exact (x b o e2).stay (fun _ _ _ z => z) (fun c z => op.back_at z fun xs => by intro q; cases q) fun c xs z => op.back_at z fun ys => by intro q; cases q
theorem close_un {fs : List Addr} {H0 H0' H' : Hp} {h h' : Heap} (op : Opened H H0) (op' : Opened H' H0') (u : Un fs [] H0 H0' h h') : Un fs [] H H' h h' where
  keep := fun b o e n hf hx => u.keep b o e (op.free n) hf hx
  slot := fun b o e n hf hx => u.slot b o e (op.free n) hf hx
  free := fun b o e n hx => op'.back (u.free b o e (op.free n) hx)
  there := u.there
  tups := fun b xs e => op'.back_at (u.tups b xs (op.at e pool_ne_tup)) fun ys => by intro q; cases q
  frzs := fun b o v e => op'.back_at (u.frzs b o v (op.at e pool_ne_frz)) fun ys => by intro q; cases q
  tbls := fun b ps e => by
    obtain ⟨m, z⟩ := u.tbls b ps (op.at e pool_ne_tbl)
    exact ⟨m, op'.back_at z fun ys => by intro q; cases q⟩
/-- a def that looks into pools, from a promise over the opened heap -/
theorem FnOk.pools {K : PySem.W.Frag} {mg : Str → Option Value} {base : Heap} {k : Nat} {f : Addr} {fd : FuncData} {ps : List Str} {sp1 sp2 : Sp} (F : FnOk P w K mg base CX0 k f fd ps sp1)
    (hsp : ∀ vs H Q E, sp2 vs H Q E → ∀ H1, Opened H H1 → sp1 vs H1 (fun v H1' => ∃ H', Opened H' H1' ∧ Q v H') E) (hl : ∀ vs H Q E, sp2 vs H Q E → vs.length = ps.length) : FnOk P w K mg base CX0 k f fd ps sp2 := by
  refine ⟨hl, fun A outer s H args us vs Q E hr e0 hb r h => ?_⟩
  obtain ⟨H1, op, ok1⟩ := open_pools e0.hok
  have e1 : Env0 P w K mg base A outer s H1 := ⟨e0.frames, e0.mod, fun b o e => ⟨(e0.bs b o e).1, op.free (e0.bs b o e).2⟩, e0.bsz, e0.funs, fun b hb => op.free (e0.frf b hb), ok1, e0.bare⟩
  refine codeAny_mono (F.run A outer s H1 args us vs _ E hr e1 hb r (hsp vs H Q E h H1 op)) fun res s' hres => ?_
  cases res with
  | error e => exact hres
  | ok fl =>
    cases fl with
    | ret u =>
      obtain ⟨v, H1', os, bare, un, hok, rv, H', op', q⟩ := hres
      exact ⟨v, H', os, bare, close_un op op' un, close_pools op' hok, rv, q⟩
    | next => exact hres
    | brk => exact hres
    | cont => exact hres
end
end L2
set_option maxHeartbeats 4000000
/-! What the laws' common helpers promise, and short steps for readings. -/
namespace L2
open PySem PySem.Spec PyProof.Rows
/-! ### bounds of draws -/
def MOk (m : Int) : Prop := 0 < m ∧ m < 2 ^ 250
theorem MOk.div {m i : Int} (h : MOk m) : CDivW i m := by
  obtain ⟨h1, h2⟩ := h
  refine ⟨h1, ?_⟩
  have h3 : m.natAbs < 2 ^ 250 := by
    have e : ((2 ^ 250 : Nat) : Int) = 2 ^ 250 := by decide
    omega
  have h4 : m.natAbs.log2 < 250 := (Nat.log2_lt (by omega)).mpr h3
  omega
theorem MOk.of {m : Int} (h1 : 0 < m) (h2 : m < 1000000000) : MOk m := ⟨h1, Int.lt_trans h2 (by decide)⟩
/-! ### the helpers' promises -/
section
variable (K : PySem.W.Frag)
/-- _law_pool(script, place) -/
def sp_pool1 : Sp := fun vs H Q _ => ∃ (a : Addr) (ns : List Int) (i : Int), vs = [.ref a, .int i] ∧ SqL K H a (ns.map V.int) ∧ 0 ≤ i ∧ i < 2 ^ 60 ∧ ∀ p xs, Ints4 xs → H p = none → Q (.ref p) (upd H p (.lst xs))
def sp_pool : Sp := fun vs H Q _ => ∃ (a : Addr) (ns : List Int) (i : Int), vs = [.ref a, .int i] ∧ SqL K H a (ns.map V.int) ∧ 0 ≤ i ∧ i < 2 ^ 60 ∧ ∀ p, H p = none → Q (.ref p) (upd H p (poolO p))
/-- _law_draw(pool, many) -/
def sp_draw1 : Sp := fun vs H Q _ => ∃ (p : Addr) (m : Int) (xs : List V), vs = [.ref p, .int m] ∧ Ints4 xs ∧ H p = some (.lst xs) ∧ MOk m ∧ ∀ r ys, Ints4 ys → 0 ≤ r → r < m → Q (.int r) (upd H p (.lst ys))
def sp_draw : Sp := fun vs H Q _ => ∃ (p : Addr) (m : Int), vs = [.ref p, .int m] ∧ IsPool H p ∧ MOk m ∧ ∀ r, 0 ≤ r → r < m → Q (.int r) H
/-- _law_take(pools, many) -/
def sp_take1 : Sp := fun vs H Q _ => ∃ (l : Addr) (ps : List Addr) (m : Int), vs = [.ref l, .int m] ∧ SqL K H l (ps.map V.ref) ∧ ps ≠ [] ∧ (∀ p ∈ ps, ∃ xs, Ints4 xs ∧ H p = some (.lst xs)) ∧ MOk m ∧ ∀ r p ys, p ∈ ps → Ints4 ys → 0 ≤ r → r < m → Q (.int r) (upd H p (.lst ys))
def sp_take : Sp := fun vs H Q _ => ∃ (l : Addr) (ps : List Addr) (m : Int), vs = [.ref l, .int m] ∧ H l = some (.lst (ps.map V.ref)) ∧ ps ≠ [] ∧ (∀ p ∈ ps, IsPool H p) ∧ MOk m ∧ ∀ r, 0 ≤ r → r < m → Q (.int r) H
end
/-- x and y stand for the same data, at most n levels deep (n = 0: nothing) -/
def DS (H : Hp) : Nat → V → V → Prop
  | 0, _, _ => False
  | n + 1, x, y => (x = .non ∧ y = .non) ∨ (∃ b, x = .bl b ∧ y = .bl b) ∨ (∃ i, x = .int i ∧ y = .int i) ∨ (∃ z, x = .str z ∧ y = .str z) ∨
    ∃ (a b : Addr) (xs ys : List V), x = .ref a ∧ y = .ref b ∧ ((H a = some (.lst xs) ∧ H b = some (.lst ys)) ∨ (H a = some (.tup xs) ∧ H b = some (.tup ys))) ∧ xs.length = ys.length ∧ xs.length ≤ 100000 ∧
      ∀ (i : Nat) (u v : V), xs[i]? = some u → ys[i]? = some v → DS H n u v
def sp_same (n : Nat) : Sp := fun vs H Q _ => ∃ x y, vs = [x, y] ∧ DS H n x y ∧ Q (.bl true) H
/-! ### conversions -/
theorem SqL.opened {K : PySem.W.Frag} {H H1 : Hp} {a : Addr} {xs : List V} (op : Opened H H1) (h : SqL K H a xs) : SqL K H1 a xs := by
  rcases h with (h | ⟨o, h⟩) | h
  · exact .inl (.inl (op.at h pool_ne_lst))
  · exact .inl (.inr ⟨o, op.at h pool_ne_frz⟩)
  · exact .inr h
theorem Opened.set {H H1 : Hp} {p : Addr} {xs : List V} (op : Opened H H1) (hp : IsPool H p) (i : Ints4 xs) : Opened H (upd H1 p (.lst xs)) where
  on := fun a h => by
    by_cases e : a = p
    · rw [e, upd_same]
      exact ⟨xs, i, rfl⟩
    · rw [upd_ne e]
      exact op.on a h
  off := fun a h => by
    have ne : a ≠ p := fun e => h (by rw [e]; exact hp)
    rw [upd_ne ne]
    exact op.off a h
theorem Opened.new {H H1 : Hp} {p : Addr} {xs : List V} (op : Opened H H1) (hn : H1 p = none) (i : Ints4 xs) : Opened (upd H p (poolO p)) (upd H1 p (.lst xs)) where
  on := fun a h => by
    by_cases e : a = p
    · rw [e, upd_same]
      exact ⟨xs, i, rfl⟩
    · have h' : upd H p (poolO p) a = some (poolO a) := h
      rw [upd_ne e] at h' ⊢
      exact op.on a h'
  off := fun a h => by
    by_cases e : a = p
    · rw [e] at h
      exact absurd (show IsPool (upd H p (poolO p)) p from upd_same) h
    · rw [upd_ne e, upd_ne e]
      refine op.off a fun z => h ?_
      show upd H p (poolO p) a = some (poolO a)
      rw [upd_ne e]
      exact z
section
variable {P : Program} {w : World} {K : PySem.W.Frag} {mg : Str → Option Value} {base : Heap} {k : Nat} {f : Addr} {fd : FuncData}
theorem pool_closed {a b : Str} (F : FnOk P w K mg base CX0 k f fd [a, b] (sp_pool1 K)) : FnOk P w K mg base CX0 k f fd [a, b] (sp_pool K) :=
  F.pools (fun vs H Q E ⟨a, ns, i, e, hs, h0, h1, q⟩ H1 op => ⟨a, ns, i, e, hs.opened op, h0, h1, fun p xs ix n => ⟨_, op.new n ix, q p (op.back n)⟩⟩)
    fun vs H Q E ⟨_, _, _, e, _⟩ => by rw [e] <;> rfl
theorem draw_closed {a b : Str} (F : FnOk P w K mg base CX0 k f fd [a, b] sp_draw1) : FnOk P w K mg base CX0 k f fd [a, b] sp_draw :=
  F.pools (fun vs H Q E ⟨p, m, e, hp, hm, q⟩ H1 op => by
    obtain ⟨xs, ix, hx⟩ := op.on p hp
    exact ⟨p, m, xs, e, ix, hx, hm, fun r ys iy r0 r1 => ⟨H, op.set hp iy, q r r0 r1⟩⟩)
    fun vs H Q E ⟨_, _, e, _⟩ => by rw [e] <;> rfl
theorem take_closed {a b : Str} (F : FnOk P w K mg base CX0 k f fd [a, b] (sp_take1 K)) : FnOk P w K mg base CX0 k f fd [a, b] sp_take :=
  F.pools (fun vs H Q E ⟨l, ps, m, e, hl, hne, hp, hm, q⟩ H1 op => ⟨l, ps, m, e, (SqL.of hl).opened op, hne, fun p z => op.on p (hp p z), hm, fun r p ys z iy r0 r1 => ⟨H, op.set (hp p z) iy, q r r0 r1⟩⟩)
    fun vs H Q E ⟨_, _, _, e, _⟩ => by rw [e] <;> rfl
end
end L2
set_option maxHeartbeats 4000000
/-! Named readings for the built-ins, and one step at a time through a reading. -/
namespace L2
open PySem PySem.Spec PyProof.Rows
/-! ### readings with names -/
def rLen2 (K : PySem.W.Frag) : List V → Hp → VK → Prop := fun xs H Q => ∃ p ys, xs = [.ref p] ∧ (SqL K H p ys ∨ SqT K H p ys) ∧ Q (.int (ys.length : Nat)) H
def rAbs : List V → Hp → VK → Prop := fun xs H Q => ∃ i, xs = [.int i] ∧ Q (.int (if i < 0 then -i else i)) H
def rInt1 : List V → Hp → VK → Prop := fun xs H Q => (∃ i, xs = [.int i] ∧ Q (.int i) H) ∨ ∃ k, xs = [.bl k] ∧ Q (.int (if k then 1 else 0)) H
def rIsN : R2 := fun x y H Q => y = .non ∧ Q (.bl (decide (x = .non))) H
def rIsNotN : R2 := fun x y H Q => y = .non ∧ Q (.bl (!decide (x = .non))) H
def rInR : R2 := fun x y H Q => ∃ i a lo hi, x = V.int i ∧ y = V.ref a ∧ H a = some (.rng lo hi) ∧ Q (.bl (decide (lo ≤ i ∧ i < hi))) H
def rRange1 : List V → Hp → VK → Prop := fun vs H Q => ∃ j, vs = [V.int j] ∧ ∀ p, H p = none → Q (.ref p) (upd H p (.rng 0 j))
def rRange2 : List V → Hp → VK → Prop := fun vs H Q => ∃ i j, vs = [V.int i, V.int j] ∧ ∀ p, H p = none → Q (.ref p) (upd H p (.rng i j))
def rListOf (K : PySem.W.Frag) : List V → Hp → VK → Prop := fun xs H Q => ∃ p ys, xs = [.ref p] ∧ (SqL K H p ys ∨ SqT K H p ys) ∧ ∀ l, H l = none → Q (.ref l) (upd H l (.lst ys))
def rTupOf (K : PySem.W.Frag) : List V → Hp → VK → Prop := fun xs H Q => ∃ p ys, xs = [.ref p] ∧ ((SqL K H p ys ∧ ∀ l, H l = none → Q (.ref l) (upd H l (.tup ys))) ∨ (SqT K H p ys ∧ Q (.ref p) H))
section
variable {X : Cx}
theorem cr_len : CallR X (.builtin "len") (rLen2 X.K) := call_len_seq
theorem cr_abs : CallR X (.builtin "abs") rAbs := call_abs
theorem cr_int : CallR X (.type "int") rInt1 := call_int1
theorem or_isN : OpR X (compareOp .Is) rIsN := op_isN
theorem or_isNotN : OpR X (compareOp .IsNot) rIsNotN := op_notN
theorem or_inR : OpR X (compareOp .In) rInR := op_in_rng
theorem cr_rng1 : CallR X (.type "range") rRange1 := cr_range1
theorem cr_rng2 : CallR X (.type "range") rRange2 := cr_range2
theorem cr_listOf : CallR X (.type "list") (rListOf X.K) := call_list_of
theorem cr_tupOf : CallR X (.type "tuple") (rTupOf X.K) := call_tuple_of
end
end L2
set_option maxHeartbeats 4000000
/-! One step at a time through a reading. -/
namespace L2
open PySem PySem.Spec PyProof.Rows
/-! ### finding an object -/
theorem at_new {H : Hp} {p a : Addr} {x o : HO} (hp : H p = none) (h : H a = some o) : upd H p x a = some o := by
  rw [upd_ne fun e => by rw [e, hp] at h; cases h]
  exact h
theorem at_set {H : Hp} {p a : Addr} {x o : HO} (ne : a ≠ p) (h : H a = some o) : upd H p x a = some o := by
  rw [upd_ne ne]
  exact h
/-- a list set anew: what is no list stays -/
theorem at_lst {H : Hp} {p a : Addr} {xs : List V} {x o : HO} (hp : H p = some (.lst xs)) (h : H a = some o) (n : ∀ ys, o ≠ .lst ys) : upd H p x a = some o :=
  at_set (fun e => by rw [e, hp] at h; cases h; exact n _ rfl) h
theorem at_lstT {H : Hp} {p a : Addr} {xs ys : List V} {x : HO} (hp : H p = some (.lst xs)) (h : H a = some (.tup ys)) : upd H p x a = some (.tup ys) := at_lst hp h fun _ z => nomatch z
theorem at_lstR {H : Hp} {p a : Addr} {xs : List V} {i j : Int} {x : HO} (hp : H p = some (.lst xs)) (h : H a = some (.rng i j)) : upd H p x a = some (.rng i j) := at_lst hp h fun _ z => nomatch z
theorem at_lstP {H : Hp} {p a : Addr} {xs : List V} {x : HO} (hp : H p = some (.lst xs)) (h : IsPool H a) : IsPool (upd H p x) a := at_lst hp h fun _ => pool_ne_lst
theorem tup_ne_lst {xs : List V} : ∀ ys, HO.tup xs ≠ .lst ys := fun _ h => nomatch h
theorem int_ne_lst {i j : Int} : ∀ ys, HO.rng i j ≠ .lst ys := fun _ h => nomatch h
theorem Same.new {H : Hp} {p : Addr} {x : HO} (hp : H p = none) : Same H (upd H p x) := fun _ _ h => at_new hp h
theorem Same.then {H H1 : Hp} {p : Addr} {x : HO} (s : Same H H1) (hp : H1 p = none) : Same H (upd H1 p x) := s.trans (.new hp)
theorem Same.tup {K : PySem.W.Frag} {H H' : Hp} {a : Addr} {xs : List V} (e : Same H H') (h : SqT K H a xs) : SqT K H' a xs := by
  rcases h with (h | ⟨o, h⟩) | h
  · exact .inl (.inl (e _ _ h))
  · exact .inl (.inr ⟨o, e _ _ h⟩)
  · exact .inr h
theorem free_of {H : Hp} {p a : Addr} {x : HO} (h : upd H p x a = none) : H a = none := by
  unfold upd at h
  split at h
  · cases h
  · exact h
theorem ne_of_free {H : Hp} {p a : Addr} {o : HO} (hp : H p = none) (h : H a = some o) : a ≠ p := fun e => by rw [e, hp] at h; cases h
/-! ### steps -/
section
variable {σ σ' : St} {H H' : Hp} {Q : VK} {QT : Bool → Hp → Prop} {QA : List V → Hp → Prop} {D : Ends} {t u : TS} {ta tb tc te : TE} {c ca cb : TT} {ar tr : TA} {K : PySem.W.Frag}
theorem g_seq (h : t ⟨u D, D.rt, D.bk, D.ct⟩ σ H) : tSeq t u D σ H := h
theorem g_asg {g : TG} (h : te σ H fun x H1 => g x σ H1 D.nx) : tAsg te g D σ H := h
theorem g_ret (h : te σ H D.rt) : tRet te D σ H := h
theorem g_retN (h : D.rt .non H) : tRetN D σ H := h
theorem g_drop (h : te σ H fun _ H1 => D.nx σ H1) : tDrop te D σ H := h
theorem g_next (h : D.nx σ H) : tNext D σ H := h
theorem g_brk (h : D.bk σ H) : tBreak D σ H := h
theorem g_cnt (h : D.ct σ H) : tCont D σ H := h
theorem g_ifS (h : c σ H fun b H1 => if b = true then t D σ H1 else u D σ H1) : tIfS c t u D σ H := h
theorem g_nx {f b c : St → Hp → Prop} {r : VK} (h : f σ H) : Ends.nx ⟨f, r, b, c⟩ σ H := h
theorem g_rt {f b c : St → Hp → Prop} {r : VK} {v : V} (h : r v H) : Ends.rt ⟨f, r, b, c⟩ v H := h
theorem g_bk {f b c : St → Hp → Prop} {r : VK} (h : b σ H) : Ends.bk ⟨f, r, b, c⟩ σ H := h
theorem g_ct {f b c : St → Hp → Prop} {r : VK} (h : c σ H) : Ends.ct ⟨f, r, b, c⟩ σ H := h
theorem g_var {i : Nat} {v : V} (e : σ[i]? = some (some v)) (h : Q v H) : tVar i σ H Q := ⟨v, e, h⟩
theorem g_const {v : V} (h : Q v H) : tC v σ H Q := h
theorem g_op {r : R2} (h : ta σ H fun x H1 => tb σ H1 fun y H2 => r x y H2 Q) : tOp r ta tb σ H Q := h
theorem g_un {r : V → Hp → VK → Prop} (h : ta σ H fun x H1 => r x H1 Q) : tUn r ta σ H Q := h
theorem g_cb {r : List V → Hp → VK → Prop} (h : ar σ H fun vs H1 => r vs H1 Q) : tCB r ar σ H Q := h
theorem g_call {sp : Sp} {dvs : List V} {E : XK} (h : ar σ H fun vs H1 => sp (vs ++ dvs) H1 Q E) : tCall sp dvs E ar σ H Q := h
theorem g_callS {sp : Sp} {E : St → XK} (h : ar σ H fun vs H1 => sp vs H1 Q (E σ)) : tCallS sp E ar σ H Q := h
theorem g_nil (h : QA [] H) : tNil σ H QA := h
theorem g_cons (h : ta σ H fun x H1 => tr σ H1 fun xs H2 => QA (x :: xs) H2) : tCons ta tr σ H QA := h
theorem g_test (h : te σ H fun x H' => ∃ k, x = .bl k ∧ QT k H') : tTest te σ H QT := h
theorem g_tB (h : te σ H fun x H' => ∃ k, x = .bl k ∧ QT k H') : tB te σ H QT := h
theorem g_not (h : c σ H fun b H1 => QT (!b) H1) : tNot c σ H QT := h
theorem g_and (h : ca σ H fun c H1 => if c = true then cb σ H1 QT else QT false H1) : tAnd ca cb σ H QT := h
theorem g_or (h : ca σ H fun c H1 => if c = true then QT true H1 else cb σ H1 QT) : tOr ca cb σ H QT := h
theorem g_andV (h : ta σ H fun x H1 => ∃ c, x = .bl c ∧ if c = true then tb σ H1 Q else Q (.bl false) H1) : tAndV ta tb σ H Q := h
theorem g_orV (h : ta σ H fun x H1 => ∃ c, x = .bl c ∧ if c = true then Q (.bl true) H1 else tb σ H1 Q) : tOrV ta tb σ H Q := h
theorem g_notV (h : ta σ H fun x H1 => ∃ c, x = .bl c ∧ Q (.bl (!c)) H1) : tNotV ta σ H Q := h
theorem g_if (h : c σ H fun b H1 => if b = true then ta σ H1 Q else tb σ H1 Q) : tIf c ta tb σ H Q := h
theorem g_bl {b : Bool} {R : Bool → Prop} (h : R b) : ∃ k, V.bl b = .bl k ∧ R k := ⟨b, rfl, h⟩
theorem g_chain {r r' : R2} (h : ta σ H fun x H1 => tb σ H1 fun y H2 => r x y H2 fun z H3 => ∃ k, z = .bl k ∧ (if k = true then tc σ H3 fun w' H4 => r' y w' H4 Q else Q (.bl false) H3)) : tChain r r' ta tb tc σ H Q := h
theorem g_tup (h : ar σ H fun xs H1 => xs.length ≤ sizeLine ∧ ∀ p, H1 p = none → Q (.ref p) (upd H1 p (.tup xs))) : tTup ar σ H Q := h
theorem g_lst (h : ar σ H fun xs H1 => xs.length ≤ sizeLine ∧ ∀ p, H1 p = none → Q (.ref p) (upd H1 p (.lst xs))) : tLst ar σ H Q := h
theorem g_room {xs : List V} {R : Prop} (l : xs.length ≤ sizeLine) (h : R) : xs.length ≤ sizeLine ∧ R := ⟨l, h⟩
theorem g_rI0 {g : Int → Int → V} {i j : Int} (h : Q (g i j) H) : rI0 g (.int i) (.int j) H Q := ⟨i, j, rfl, rfl, h⟩
theorem g_rI {C : Int → Int → Prop} {g : Int → Int → V} {i j : Int} (c : C i j) (h : Q (g i j) H) : rI C g (.int i) (.int j) H Q := ⟨i, j, rfl, rfl, c, h⟩
theorem g_rU {g : Int → V} {i : Int} (h : Q (g i) H) : rU g (.int i) H Q := ⟨i, rfl, h⟩
theorem g_eqi {i j : Int} (h : Q (.bl (decide (i = j))) H) : rEq (.int i) (.int j) H Q := ⟨rfl, by rw [show decide (V.int i = V.int j) = decide (i = j) from dec_int.trans (by by_cases h : i = j <;> simp [h])]; exact h⟩
theorem g_nei {i j : Int} (h : Q (.bl (!decide (i = j))) H) : rNe (.int i) (.int j) H Q := ⟨rfl, by rw [show decide (V.int i = V.int j) = decide (i = j) from dec_int.trans (by by_cases h : i = j <;> simp [h])]; exact h⟩
theorem g_eqs {i j : Str} (h : Q (.bl (decide (i = j))) H) : rEq (.str i) (.str j) H Q := ⟨rfl, by rw [show decide (V.str i = V.str j) = decide (i = j) from dec_str.trans (by by_cases h : i = j <;> simp [h])]; exact h⟩
theorem g_nes {i j : Str} (h : Q (.bl (!decide (i = j))) H) : rNe (.str i) (.str j) H Q := ⟨rfl, by rw [show decide (V.str i = V.str j) = decide (i = j) from dec_str.trans (by by_cases h : i = j <;> simp [h])]; exact h⟩
theorem g_eqb {i j : Bool} (h : Q (.bl (decide (i = j))) H) : rEq (.bl i) (.bl j) H Q := ⟨rfl, by rw [show decide (V.bl i = V.bl j) = decide (i = j) from dec_bl.trans (by cases i <;> cases j <;> rfl)]; exact h⟩
theorem g_nonI {i : Int} (h : Q (.bl false) H) : rIsN (.int i) .non H Q := ⟨rfl, h⟩
theorem g_nonN (h : Q (.bl true) H) : rIsN .non .non H Q := ⟨rfl, h⟩
theorem g_nonS {i : Str} (h : Q (.bl false) H) : rIsN (.str i) .non H Q := ⟨rfl, h⟩
theorem g_nonB {i : Bool} (h : Q (.bl false) H) : rIsN (.bl i) .non H Q := ⟨rfl, h⟩
theorem g_nonR {i : Addr} (h : Q (.bl false) H) : rIsN (.ref i) .non H Q := ⟨rfl, h⟩
theorem g_isBB {i j : Bool} (h : Q (.bl (decide (i = j))) H) : rIsC (.bl i) (.bl j) H Q := ⟨j, rfl, by rw [show decide (V.bl i = V.bl j) = decide (i = j) from dec_bl.trans (by cases i <;> cases j <;> rfl)]; exact h⟩
theorem g_isBI {i : Int} {j : Bool} (h : Q (.bl false) H) : rIsC (.int i) (.bl j) H Q := ⟨j, rfl, h⟩
theorem g_isBS {i : Str} {j : Bool} (h : Q (.bl false) H) : rIsC (.str i) (.bl j) H Q := ⟨j, rfl, h⟩
theorem g_isBR {i : Addr} {j : Bool} (h : Q (.bl false) H) : rIsC (.ref i) (.bl j) H Q := ⟨j, rfl, h⟩
theorem g_isBN {j : Bool} (h : Q (.bl false) H) : rIsC .non (.bl j) H Q := ⟨j, rfl, h⟩
theorem g_lenL {p : Addr} {ys : List V} (s : SqL K H p ys) (h : Q (.int (ys.length : Nat)) H) : rLen2 K [.ref p] H Q := ⟨p, ys, rfl, .inl s, h⟩
theorem g_lenT {p : Addr} {ys : List V} (s : SqT K H p ys) (h : Q (.int (ys.length : Nat)) H) : rLen2 K [.ref p] H Q := ⟨p, ys, rfl, .inr s, h⟩
theorem g_abs {i : Int} (h : Q (.int (if i < 0 then -i else i)) H) : rAbs [.int i] H Q := ⟨i, rfl, h⟩
theorem g_int {i : Int} (h : Q (.int i) H) : rInt1 [.int i] H Q := .inl ⟨i, rfl, h⟩
theorem g_intB {k : Bool} (h : Q (.int (if k then 1 else 0)) H) : rInt1 [.bl k] H Q := .inr ⟨k, rfl, h⟩
theorem g_ixL {p : Addr} {xs : List V} {i : Int} {v : V} (s : SqL K H p xs) (e : atI xs i = some v) (h : Q v H) : rIxL K (.ref p) (.int i) H Q := ⟨p, xs, i, v, rfl, rfl, s, e, h⟩
theorem g_ixT {p : Addr} {xs : List V} {i : Int} {v : V} (s : SqT K H p xs) (e : atI xs i = some v) (h : Q v H) : rIxT K (.ref p) (.int i) H Q := ⟨p, xs, i, v, rfl, rfl, s, e, h⟩
theorem g_setL {p : Addr} {xs : List V} {i : Int} {v : V} {j : Nat} {QH : Hp → Prop} (s : H p = some (.lst xs)) (e : ixN xs.length i = some j) (h : QH (upd H p (.lst (xs.set j v)))) : rSetL (.ref p) (.int i) v H QH := ⟨p, xs, i, j, rfl, rfl, s, e, h⟩
theorem g_app {p : Addr} {xs : List V} {v : V} (s : H p = some (.lst xs)) (l : xs.length < sizeLine) (h : Q .non (upd H p (.lst (xs ++ [v])))) : rAppend (.ref p) [v] H Q := ⟨p, xs, v, rfl, rfl, s, l, h⟩
theorem g_bm {T : String} {r : V → List V → Hp → VK → Prop} {to : TE} (h : to σ H fun x H1 => tyV K T x H1 ∧ ar σ H1 fun xs H2 => r x xs H2 Q) : tBM K T r to ar σ H Q := h
theorem g_listL {p : Addr} {ys : List V} (s : SqL K H p ys) (h : ∀ l, H l = none → Q (.ref l) (upd H l (.lst ys))) : rListOf K [.ref p] H Q := ⟨p, ys, rfl, .inl s, h⟩
theorem g_listT {p : Addr} {ys : List V} (s : SqT K H p ys) (h : ∀ l, H l = none → Q (.ref l) (upd H l (.lst ys))) : rListOf K [.ref p] H Q := ⟨p, ys, rfl, .inr s, h⟩
theorem g_tupL {p : Addr} {ys : List V} (s : SqL K H p ys) (h : ∀ l, H l = none → Q (.ref l) (upd H l (.tup ys))) : rTupOf K [.ref p] H Q := ⟨p, ys, rfl, .inl ⟨s, h⟩⟩
theorem g_tupT {p : Addr} {ys : List V} (s : SqT K H p ys) (h : Q (.ref p) H) : rTupOf K [.ref p] H Q := ⟨p, ys, rfl, .inr ⟨s, h⟩⟩
theorem g_rng1 {j : Int} (h : ∀ p, H p = none → Q (.ref p) (upd H p (.rng 0 j))) : rRange1 [.int j] H Q := ⟨j, rfl, h⟩
theorem g_rng2 {i j : Int} (h : ∀ p, H p = none → Q (.ref p) (upd H p (.rng i j))) : rRange2 [.int i, .int j] H Q := ⟨i, j, rfl, h⟩
theorem g_notInR {i lo hi : Int} {a : Addr} (s : H a = some (.rng lo hi)) (h : Q (.bl (!decide (lo ≤ i ∧ i < hi))) H) : rNotInR (.int i) (.ref a) H Q := ⟨i, a, lo, hi, rfl, rfl, s, h⟩
theorem g_inR {i lo hi : Int} {a : Addr} (s : H a = some (.rng lo hi)) (h : Q (.bl (decide (lo ≤ i ∧ i < hi))) H) : rInR (.int i) (.ref a) H Q := ⟨i, a, lo, hi, rfl, rfl, s, h⟩
theorem g_cat {a b : Addr} {xs ys : List V} (s : SqT K H a xs) (s' : SqT K H b ys) (l : xs.length + ys.length ≤ sizeLine) (h1 : xs = [] → Q (.ref b) H) (h2 : xs ≠ [] → ys = [] → Q (.ref a) H)
    (h3 : xs ≠ [] → ys ≠ [] → ∀ p, H p = none → Q (.ref p) (upd H p (.tup (xs ++ ys)))) : rCatA K (.ref a) (.ref b) H Q := ⟨a, b, xs, ys, rfl, rfl, s, s', l, h1, h2, h3⟩
theorem g_name {i : Nat} {v : V} {QS : St → Hp → Prop} (h : QS (σ.set i (some v)) H) : gName i v σ H QS := h
theorem g_gtup {n : Nat} {t : TGs} {a : Addr} {xs : List V} {QS : St → Hp → Prop} (s : SqT K H a xs) (l : xs.length = n) (h : t xs σ H QS) : gTup K n t (.ref a) σ H QS := ⟨a, xs, rfl, s, l, h⟩
theorem g_gcons {t : TG} {u : TGs} {v : V} {r : List V} {QS : St → Hp → Prop} (h : t v σ H fun σ' H' => u r σ' H' QS) : gCons t u (v :: r) σ H QS := ⟨v, r, rfl, h⟩
theorem g_gnil {QS : St → Hp → Prop} (h : QS σ H) : gNil [] σ H QS := ⟨rfl, h⟩
theorem g_gsub {to ti : TE} {t : TSet} {v : V} {QS : St → Hp → Prop} (h : to σ H fun o H1 => ti σ H1 fun i H2 => t o i v H2 fun H3 => QS σ H3) : gSub to ti t v σ H QS := h
theorem g_for {wi : TI} {g : TG} {tb : TS} (h : wi σ H fun J H1 => ∃ W : Nat → Nat → St → Hp → Prop, (∃ m, W 0 m σ H1) ∧ ∀ i m σ H, W i m σ H →
    (J.stop i H ∧ D.nx σ H) ∨ (J.go i H ∧ ∃ N : St → Hp → Prop, (∀ σ' H', N σ' H' → ∃ m', m' < m ∧ W (i + 1) m' σ' H') ∧ ∀ x H', J.yld i H x H' → g x σ H' fun σ2 H2 => tb { D with nx := N, ct := N, bk := D.nx } σ2 H2)) : tFor wi g tb D σ H := h
theorem g_iList {R : It → Hp → Prop} (h : ta σ H fun x H1 => ∃ a, x = .ref a ∧ (∃ xs, SqL K H1 a xs) ∧ R (Itl K a) H1) : iList K ta σ H R := h
theorem g_iTup {R : It → Hp → Prop} (h : ta σ H fun x H1 => ∃ a, x = .ref a ∧ (∃ xs, SqT K H1 a xs) ∧ R (Itt K a) H1) : iTup K ta σ H R := h
theorem g_atL {R : Addr → Prop} {a : Addr} {xs : List V} (s : SqL K H a xs) (h : R a) : ∃ b, V.ref a = .ref b ∧ (∃ xs, SqL K H b xs) ∧ R b := ⟨a, rfl, ⟨xs, s⟩, h⟩
theorem g_atT {R : Addr → Prop} {a : Addr} {xs : List V} (s : SqT K H a xs) (h : R a) : ∃ b, V.ref a = .ref b ∧ (∃ xs, SqT K H b xs) ∧ R b := ⟨a, rfl, ⟨xs, s⟩, h⟩
theorem g_iR1 {R : It → Hp → Prop} (h : ar σ H fun vs H1 => ∃ j : Int, vs = [.int j] ∧ -(2 ^ 62) ≤ j ∧ j < 2 ^ 62 ∧ R (Itr 0 j.toNat) H1) : iRng1 ar σ H R := h
theorem g_R1 {R : Int → Prop} {j : Int} (h0 : -(2 ^ 62) ≤ j) (h1 : j < 2 ^ 62) (h : R j) : ∃ i : Int, [V.int j] = [.int i] ∧ -(2 ^ 62) ≤ i ∧ i < 2 ^ 62 ∧ R i := ⟨j, rfl, h0, h1, h⟩
theorem g_iEnum {R : It → Hp → Prop} (h : ar σ H fun vs H1 => ∃ a xs, vs = [.ref a] ∧ SqT K H1 a xs ∧ R (ItTe K a) H1) : iEnumT K ar σ H R := h
theorem g_enum {R : Addr → Prop} {a : Addr} {xs : List V} (s : SqT K H a xs) (h : R a) : ∃ b ys, [V.ref a] = [.ref b] ∧ SqT K H b ys ∧ R b := ⟨a, xs, rfl, s, h⟩
theorem g_lc {wi : TI} {g : TG} {tt : TT} {vs : List Nat} (h : wi σ H fun J H1 => ∀ D, H1 D = none → ∃ W : Nat → Nat → Hp → Prop, (∃ m, W 0 m (upd H1 D (.lst []))) ∧ ∀ i m H, W i m H →
    (J.stop i H ∧ Q (.ref D) H) ∨ (J.go i H ∧ ∃ Nx : Hp → Prop, (∀ H', Nx H' → ∃ m', m' < m ∧ W (i + 1) m' H') ∧ ∀ x H', J.yld i H x H' → g x (wipe σ vs) H' fun σ2 H2 => wipe σ2 vs = wipe σ vs ∧ tt σ2 H2 fun b H3 =>
      if b = true then te σ2 H3 fun y H4 => ∃ acc, H4 D = some (.lst acc) ∧ acc.length < sizeLine ∧ Nx (upd H4 D (.lst (acc ++ [y]))) else Nx H3)) : tLc wi g tt te vs σ H Q := h
theorem g_yes (h : QT true H) : tYes σ H QT := h
theorem g_ite {p : Prop} [Decidable p] {A B : Prop} (h1 : p → A) (h2 : ¬ p → B) : if decide p = true then A else B := by
  by_cases h : p
  · rw [if_pos (by simp [h])]; exact h1 h
  · rw [if_neg (by simp [h])]; exact h2 h
theorem g_iteN {p : Prop} [Decidable p] {A B : Prop} (h1 : ¬ p → A) (h2 : p → B) : if (!decide p) = true then A else B := by
  by_cases h : p
  · rw [if_neg (by simp [h])]; exact h2 h
  · rw [if_pos (by simp [h])]; exact h1 h
theorem g_iteB {b : Bool} {A B : Prop} (h1 : b = true → A) (h2 : b = false → B) : if b = true then A else B := by
  cases b
  · exact h2 rfl
  · exact h1 rfl
theorem g_iteNT {A B : Prop} (h : B) : if (!true) = true then A else B := h
theorem g_iteNF {A B : Prop} (h : A) : if (!false) = true then A else B := h
theorem g_tyL {p : Addr} {xs : List V} {R : Prop} (s : SqL K H p xs) (h : R) : tyV K "list" (.ref p) H ∧ R := ⟨.inl ⟨rfl, _, s⟩, h⟩
theorem g_tyS {z : Str} {R : Prop} (h : R) : tyV K "str" (.str z) H ∧ R := ⟨rfl, h⟩
theorem g_part {R : Option Int → Hp → Prop} (h : te σ H fun x H1 => ∃ i, x = .int i ∧ R (some i) H1) : tPart te σ H R := h
theorem g_nopart {R : Option Int → Hp → Prop} (h : R none H) : tNoPart σ H R := h
theorem g_exi {i : Int} {R : Int → Prop} (h : R i) : ∃ k, V.int i = .int k ∧ R k := ⟨i, rfl, h⟩
theorem g_slN {a : Addr} {xs ys : List V} {lo hi : Option Int} (s : SqT K H a xs) (n : ¬ (HT.sIx xs.length 0 lo = 0 ∧ HT.sIx xs.length xs.length hi = xs.length)) (e : cutV xs lo hi = ys) (h : ∀ p, H p = none → Q (.ref p) (upd H p (.tup ys))) : rSlA K (.ref a) lo hi H Q :=
  ⟨a, xs, rfl, s, fun z => absurd z n, fun _ p hp => by rw [e]; exact h p hp⟩
theorem g_minT {a : Addr} {ns : List Int} (s : SqT K H a (ns.map V.int)) (l : 0 < ns.length) (h : ∀ m, m ∈ ns → (∀ y, y ∈ ns → m ≤ y) → Q (.int m) H) : rMinT K [.ref a] H Q := ⟨a, ns, rfl, s, l, h⟩
theorem g_maxT {a : Addr} {ns : List Int} (s : SqT K H a (ns.map V.int)) (l : 0 < ns.length) (h : ∀ m, m ∈ ns → (∀ y, y ∈ ns → y ≤ m) → Q (.int m) H) : rMaxT K [.ref a] H Q := ⟨a, ns, rfl, s, l, h⟩
theorem g_raise {C : Addr} {fl : Str} {W : WX} (h : ar σ H fun vs H1 => ∃ v, vs = [v] ∧ ∀ d, H1 d = none → W (.ref C) (some d) σ (upd H1 d (.xd [(fl, v)]))) : tRaiseErr C fl W ar D σ H := h
theorem g_exv {x : V} {R : V → Prop} (h : R x) : ∃ v, [x] = [v] ∧ R v := ⟨x, rfl, h⟩
theorem g_xf {a C : Addr} {f : Str} {cls : Value} {od : Option Addr} (h : te σ H fun x H1 => x = .ref a ∧ cls = .ref C ∧ ∃ (dd : Addr) (fs : List (Str × V)) (v : V), od = some dd ∧ H1 dd = some (.xd fs) ∧ fs.lookup f = some v ∧ Q v H1) : tXf a cls od C f te σ H Q := h
theorem g_hit {Wout : WX} {cls c : Value} {oi : Option Nat} {ts : Addr → Value → Option Addr → TS} {r : List ClauseT} {d : Option Addr} (m : PySem.W.exmOne K cls c = some true) (h : ∀ a, H a = none → ts a cls d (endsAs oi D) (setAs oi σ a) H) : wAll K Wout D ((c, oi, ts) :: r) cls d σ H := ⟨true, m, fun _ => h, fun z => absurd z (by decide)⟩
theorem g_miss {Wout : WX} {cls c : Value} {oi : Option Nat} {ts : Addr → Value → Option Addr → TS} {r : List ClauseT} {d : Option Addr} (m : PySem.W.exmOne K cls c = some false) (h : wAll K Wout D r cls d σ H) : wAll K Wout D ((c, oi, ts) :: r) cls d σ H := ⟨false, m, fun z => absurd z (by decide), fun _ => h⟩
theorem g_xfe {a C d : Addr} {f : Str} {fs : List (Str × V)} {v : V} {R : V → Prop} (e : H d = some (.xd fs)) (l : fs.lookup f = some v) (h : R v) :
    V.ref a = .ref a ∧ Value.ref C = .ref C ∧ ∃ (dd : Addr) (fs : List (Str × V)) (v : V), some d = some dd ∧ H dd = some (.xd fs) ∧ fs.lookup f = some v ∧ R v := ⟨rfl, rfl, d, fs, v, rfl, e, l, h⟩
theorem g_isX {a E dd : Addr} {fs : List (Str × V)} {c : V} {u : Value} {b : Bool} (x : ExcC K E) (e : H dd = some (.xd fs)) (cu : ClsV c u) (k : PySem.W.kitOne K (.ref E) u = some b) (h : Q (.bl b) H) : rIsX K a (.ref E) (some dd) [.ref a, c] H Q := ⟨E, dd, fs, c, u, b, rfl, rfl, x, rfl, e, cu, k, h⟩
theorem g_isXT {a E dd tp : Addr} {fs : List (Str × V)} {cs : List V} {us : List Value} {b : Bool} (x : ExcC K E) (e : H dd = some (.xd fs)) (t : H tp = some (.tup cs)) (cu : Paired ClsV cs us) (k : PySem.W.kitAny K (.ref E) us = some b) (h : Q (.bl b) H) : rIsXT K a (.ref E) (some dd) [.ref a, .ref tp] H Q := ⟨E, dd, fs, tp, cs, us, b, rfl, rfl, x, rfl, e, t, cu, k, h⟩
theorem g_iteY {p : Prop} [Decidable p] {A B : Prop} (hp : p) (h : A) : if decide p = true then A else B := by
  rw [if_pos (by simp [hp])]
  exact h
theorem g_iteX {p : Prop} [Decidable p] {A B : Prop} (hp : ¬ p) (h : B) : if decide p = true then A else B := by
  rw [if_neg (by simp [hp])]
  exact h
theorem g_iteNY {p : Prop} [Decidable p] {A B : Prop} (hp : ¬ p) (h : A) : if (!decide p) = true then A else B := by
  rw [if_pos (by simp [hp])]
  exact h
theorem g_iteNX {p : Prop} [Decidable p] {A B : Prop} (hp : p) (h : B) : if (!decide p) = true then A else B := by
  rw [if_neg (by simp [hp])]
  exact h
theorem g_iteT {A B : Prop} (h : A) : if true = true then A else B := h
theorem g_iteF {A B : Prop} (h : B) : if false = true then A else B := h
theorem g_keep {f b c' : St → Hp → Prop} {r : VK} (I : St → Hp → Prop) (k : ∀ σ H, I σ H → f σ H) (h : ∀ f' : St → Hp → Prop, (∀ σ H, I σ H → f' σ H) → tIfS c t u ⟨f', r, b, c'⟩ σ H) : tIfS c t u ⟨f, r, b, c'⟩ σ H := h f k
theorem g_slc {r : V → Option Int → Option Int → Hp → VK → Prop} {tl th : TO} (h : te σ H fun x H1 => tl σ H1 fun l H2 => th σ H2 fun u H3 => r x l u H3 Q) : tSl r te tl th σ H Q := h
theorem g_isi {x c : V} {t u : Value} {b : Bool} (hc : ClsV c u) (hx : TyX K H x t) (e : PySem.W.kitOne K t u = some b) (h : Q (.bl b) H) : rIsi K [x, c] H Q := ⟨x, c, t, u, b, rfl, hc, hx, e, h⟩
end
theorem atI_pos {α : Type} {xs : List α} {i : Int} (h0 : 0 ≤ i) : atI xs i = xs[i.toNat]? := by
  unfold atI ixN
  rw [if_pos h0]
  by_cases h : i < xs.length
  · rw [if_pos h]; rfl
  · rw [if_neg h]
    exact (List.getElem?_eq_none (by omega)).symm
theorem atI_neg {α : Type} {xs : List α} {i : Int} (h0 : i < 0) (h1 : -(xs.length : Int) ≤ i) : atI xs i = xs[(i + xs.length).toNat]? := by
  unfold atI ixN
  rw [if_neg (by omega), if_pos h1]
  rfl
theorem ixN_pos {n : Nat} {i : Int} (h0 : 0 ≤ i) (h1 : i < n) : ixN n i = some i.toNat := by
  unfold ixN
  rw [if_pos h0, if_pos h1]
end L2
namespace L2
open PySem PySem.Spec PyProof.Rows
section
variable {K : PySem.W.Frag} {H : Hp} {Q : VK}
theorem kit_int_int : PySem.W.kitOne K (.type "int") (.type "int") = some true := by kernel_rfl
theorem g_is_int_int {i : Int} (h : Q (.bl true) H) : rIsi K [.int i, .ty "int"] H Q := g_isi (.ty _) (.base (.int _)) kit_int_int h
theorem kit_int_bool : PySem.W.kitOne K (.type "int") (.type "bool") = some false := by kernel_rfl
theorem g_is_int_bool {i : Int} (h : Q (.bl false) H) : rIsi K [.int i, .ty "bool"] H Q := g_isi (.ty _) (.base (.int _)) kit_int_bool h
theorem kit_int_str : PySem.W.kitOne K (.type "int") (.type "str") = some false := by kernel_rfl
theorem g_is_int_str {i : Int} (h : Q (.bl false) H) : rIsi K [.int i, .ty "str"] H Q := g_isi (.ty _) (.base (.int _)) kit_int_str h
theorem kit_int_dict : PySem.W.kitOne K (.type "int") (.type "dict") = some false := by kernel_rfl
theorem g_is_int_dict {i : Int} (h : Q (.bl false) H) : rIsi K [.int i, .ty "dict"] H Q := g_isi (.ty _) (.base (.int _)) kit_int_dict h
theorem kit_int_list : PySem.W.kitOne K (.type "int") (.type "list") = some false := by kernel_rfl
theorem g_is_int_list {i : Int} (h : Q (.bl false) H) : rIsi K [.int i, .ty "list"] H Q := g_isi (.ty _) (.base (.int _)) kit_int_list h
theorem kit_int_tuple : PySem.W.kitOne K (.type "int") (.type "tuple") = some false := by kernel_rfl
theorem g_is_int_tuple {i : Int} (h : Q (.bl false) H) : rIsi K [.int i, .ty "tuple"] H Q := g_isi (.ty _) (.base (.int _)) kit_int_tuple h
theorem kit_bool_bool : PySem.W.kitOne K (.type "bool") (.type "bool") = some true := by kernel_rfl
theorem g_is_bool_bool {i : Bool} (h : Q (.bl true) H) : rIsi K [.bl i, .ty "bool"] H Q := g_isi (.ty _) (.base (.bl _)) kit_bool_bool h
theorem kit_bool_int : PySem.W.kitOne K (.type "bool") (.type "int") = some true := by kernel_rfl
theorem g_is_bool_int {i : Bool} (h : Q (.bl true) H) : rIsi K [.bl i, .ty "int"] H Q := g_isi (.ty _) (.base (.bl _)) kit_bool_int h
theorem kit_str_int : PySem.W.kitOne K (.type "str") (.type "int") = some false := by kernel_rfl
theorem g_is_str_int {i : Str} (h : Q (.bl false) H) : rIsi K [.str i, .ty "int"] H Q := g_isi (.ty _) (.base (.str _)) kit_str_int h
theorem kit_str_str : PySem.W.kitOne K (.type "str") (.type "str") = some true := by kernel_rfl
theorem g_is_str_str {i : Str} (h : Q (.bl true) H) : rIsi K [.str i, .ty "str"] H Q := g_isi (.ty _) (.base (.str _)) kit_str_str h
theorem kit_str_dict : PySem.W.kitOne K (.type "str") (.type "dict") = some false := by kernel_rfl
theorem g_is_str_dict {i : Str} (h : Q (.bl false) H) : rIsi K [.str i, .ty "dict"] H Q := g_isi (.ty _) (.base (.str _)) kit_str_dict h
theorem kit_str_list : PySem.W.kitOne K (.type "str") (.type "list") = some false := by kernel_rfl
theorem g_is_str_list {i : Str} (h : Q (.bl false) H) : rIsi K [.str i, .ty "list"] H Q := g_isi (.ty _) (.base (.str _)) kit_str_list h
theorem kit_str_tuple : PySem.W.kitOne K (.type "str") (.type "tuple") = some false := by kernel_rfl
theorem g_is_str_tuple {i : Str} (h : Q (.bl false) H) : rIsi K [.str i, .ty "tuple"] H Q := g_isi (.ty _) (.base (.str _)) kit_str_tuple h
theorem kit_list_int : PySem.W.kitOne K (.type "list") (.type "int") = some false := by kernel_rfl
theorem g_is_list_int {a : Addr} {xs : List V} (s : H a = some (.lst xs)) (h : Q (.bl false) H) : rIsi K [.ref a, .ty "int"] H Q := g_isi (.ty _) (.base (.lst s)) kit_list_int h
theorem kit_list_str : PySem.W.kitOne K (.type "list") (.type "str") = some false := by kernel_rfl
theorem g_is_list_str {a : Addr} {xs : List V} (s : H a = some (.lst xs)) (h : Q (.bl false) H) : rIsi K [.ref a, .ty "str"] H Q := g_isi (.ty _) (.base (.lst s)) kit_list_str h
theorem kit_list_dict : PySem.W.kitOne K (.type "list") (.type "dict") = some false := by kernel_rfl
theorem g_is_list_dict {a : Addr} {xs : List V} (s : H a = some (.lst xs)) (h : Q (.bl false) H) : rIsi K [.ref a, .ty "dict"] H Q := g_isi (.ty _) (.base (.lst s)) kit_list_dict h
theorem kit_list_list : PySem.W.kitOne K (.type "list") (.type "list") = some true := by kernel_rfl
theorem g_is_list_list {a : Addr} {xs : List V} (s : H a = some (.lst xs)) (h : Q (.bl true) H) : rIsi K [.ref a, .ty "list"] H Q := g_isi (.ty _) (.base (.lst s)) kit_list_list h
theorem kit_list_tuple : PySem.W.kitOne K (.type "list") (.type "tuple") = some false := by kernel_rfl
theorem g_is_list_tuple {a : Addr} {xs : List V} (s : H a = some (.lst xs)) (h : Q (.bl false) H) : rIsi K [.ref a, .ty "tuple"] H Q := g_isi (.ty _) (.base (.lst s)) kit_list_tuple h
theorem kit_tuple_int : PySem.W.kitOne K (.type "tuple") (.type "int") = some false := by kernel_rfl
theorem g_is_tuple_int {a : Addr} {xs : List V} (s : H a = some (.tup xs)) (h : Q (.bl false) H) : rIsi K [.ref a, .ty "int"] H Q := g_isi (.ty _) (.base (.tup s)) kit_tuple_int h
theorem kit_tuple_str : PySem.W.kitOne K (.type "tuple") (.type "str") = some false := by kernel_rfl
theorem g_is_tuple_str {a : Addr} {xs : List V} (s : H a = some (.tup xs)) (h : Q (.bl false) H) : rIsi K [.ref a, .ty "str"] H Q := g_isi (.ty _) (.base (.tup s)) kit_tuple_str h
theorem kit_tuple_dict : PySem.W.kitOne K (.type "tuple") (.type "dict") = some false := by kernel_rfl
theorem g_is_tuple_dict {a : Addr} {xs : List V} (s : H a = some (.tup xs)) (h : Q (.bl false) H) : rIsi K [.ref a, .ty "dict"] H Q := g_isi (.ty _) (.base (.tup s)) kit_tuple_dict h
theorem kit_tuple_list : PySem.W.kitOne K (.type "tuple") (.type "list") = some false := by kernel_rfl
theorem g_is_tuple_list {a : Addr} {xs : List V} (s : H a = some (.tup xs)) (h : Q (.bl false) H) : rIsi K [.ref a, .ty "list"] H Q := g_isi (.ty _) (.base (.tup s)) kit_tuple_list h
theorem kit_tuple_tuple : PySem.W.kitOne K (.type "tuple") (.type "tuple") = some true := by kernel_rfl
theorem g_is_tuple_tuple {a : Addr} {xs : List V} (s : H a = some (.tup xs)) (h : Q (.bl true) H) : rIsi K [.ref a, .ty "tuple"] H Q := g_isi (.ty _) (.base (.tup s)) kit_tuple_tuple h
theorem g_ixSL {p : Addr} {xs : List V} {i : Int} {v : V} (s : SqL K H p xs) (e : atI xs i = some v) (h : Q v H) : rIx K (.ref p) (.int i) H Q := .inl (g_ixL s e h)
theorem g_ixST {p : Addr} {xs : List V} {i : Int} {v : V} (s : SqT K H p xs) (e : atI xs i = some v) (h : Q v H) : rIx K (.ref p) (.int i) H Q := .inr (.inl (g_ixT s e h))
end
theorem atI_zero {α : Type} {xs : List α} {x : α} (h : xs.head? = some x) : atI xs 0 = some x := by
  cases xs with
  | nil => cases h
  | cons y r =>
    cases h
    exact atI_nat (j := 0) rfl
theorem q_of {Q : VK} {H : Hp} {a b : V} (q : Q a H) (e : b = a) : Q b H := by rw [e]; exact q
theorem atI_ints {ns : List Int} {i : Int} (h0 : 0 ≤ i) (h1 : i < ((ns.map V.int).length : Nat)) : ∃ c, atI (ns.map V.int) i = some (.int c) := by
  rw [List.length_map] at h1
  refine ⟨ns[i.toNat]'(by omega), ?_⟩
  rw [atI_pos h0]
  simp [List.getElem?_map, List.getElem?_eq_getElem (show i.toNat < ns.length by omega)]
/-! ### the same data -/
theorem DS.non {H : Hp} {n : Nat} : DS H (n + 1) .non .non := .inl ⟨rfl, rfl⟩
theorem DS.bl {H : Hp} {n : Nat} {b : Bool} : DS H (n + 1) (.bl b) (.bl b) := .inr (.inl ⟨b, rfl, rfl⟩)
theorem DS.int {H : Hp} {n : Nat} {b : Int} : DS H (n + 1) (.int b) (.int b) := .inr (.inr (.inl ⟨b, rfl, rfl⟩))
theorem DS.str {H : Hp} {n : Nat} {b : Str} : DS H (n + 1) (.str b) (.str b) := .inr (.inr (.inr (.inl ⟨b, rfl, rfl⟩)))
theorem DS.tup {H : Hp} {n : Nat} {a b : Addr} {xs ys : List V} (h1 : H a = some (.tup xs)) (h2 : H b = some (.tup ys)) (l : xs.length = ys.length) (z : xs.length ≤ 100000) (k : ∀ (i : Nat) (u v : V), xs[i]? = some u → ys[i]? = some v → DS H n u v) : DS H (n + 1) (.ref a) (.ref b) :=
  .inr (.inr (.inr (.inr ⟨a, b, xs, ys, rfl, rfl, .inr ⟨h1, h2⟩, l, z, k⟩)))
theorem DS.lst {H : Hp} {n : Nat} {a b : Addr} {xs ys : List V} (h1 : H a = some (.lst xs)) (h2 : H b = some (.lst ys)) (l : xs.length = ys.length) (z : xs.length ≤ 100000) (k : ∀ (i : Nat) (u v : V), xs[i]? = some u → ys[i]? = some v → DS H n u v) : DS H (n + 1) (.ref a) (.ref b) :=
  .inr (.inr (.inr (.inr ⟨a, b, xs, ys, rfl, rfl, .inl ⟨h1, h2⟩, l, z, k⟩)))
theorem DS.of_bl {H : Hp} {a b : Addr} {bs : List Bool} (h1 : H a = some (.lst (bs.map V.bl))) (h2 : H b = some (.lst (bs.map V.bl))) (l : bs.length ≤ 100000) : DS H 4 (.ref a) (.ref b) := by
  refine .lst h1 h2 rfl (by rw [List.length_map]; exact l) fun i u v hu hv => ?_
  rw [hu] at hv
  cases hv
  rw [List.getElem?_map] at hu
  obtain ⟨x, _, rfl⟩ := Option.map_eq_some_iff.mp hu
  exact .bl
theorem Same.setNew {H H' : Hp} {l : Addr} {x : HO} (e : Same H H') (n : H l = none) : Same H (upd H' l x) := fun a o h => at_set (ne_of_free n h) (e _ _ h)
end L2
set_option maxHeartbeats 4000000
namespace K20
open PySem PySem.Spec PyProof.Rows L2 FabH He
def topS (i : Nat) : Stmt := PySem.Challenge.pw_gatesofcloth_k20_circuit_refused_at_its.main.body.getD i (.Pass ⟨0, 0, 0, 0⟩)
abbrev theFile : Str := "/claim/cut.py"
abbrev s_is_wire : Stmt := topS 12
abbrev s_is_gate : Stmt := topS 13
abbrev s_check_circuit : Stmt := topS 14
abbrev s__law_pool : Stmt := topS 16
abbrev s__law_draw : Stmt := topS 17
abbrev s__law_take : Stmt := topS 18
abbrev s__law_same : Stmt := topS 19
abbrev s__law_wire : Stmt := topS 20
abbrev s__law_drawn : Stmt := topS 21
abbrev s__law_wrong : Stmt := topS 22
abbrev s__law_bent : Stmt := topS 23
abbrev s__law_near : Stmt := topS 24
abbrev s__law_due : Stmt := topS 25
abbrev s__law_sized : Stmt := topS 26
abbrev s__law_beyond : Stmt := topS 27
abbrev s__law_told : Stmt := topS 28
abbrev s__law_kinds : Stmt := topS 29
abbrev s_law : Stmt := topS 30
def er_SizeError : ErrD := { x := "SizeError", fl := "size", msg := "size out of range", qual := "SizeError.__init__", p1 := ⟨6, 17, 6, 21⟩, p2 := ⟨6, 23, 6, 27⟩, q0 := ⟨7, 8, 7, 13⟩, q1 := ⟨7, 8, 7, 15⟩, q2 := ⟨7, 8, 7, 24⟩, q3 := ⟨7, 25, 7, 44⟩, q4 := ⟨7, 8, 7, 45⟩, q5 := ⟨7, 8, 7, 45⟩, q6 := ⟨8, 8, 8, 12⟩, q7 := ⟨8, 8, 8, 17⟩, q8 := ⟨8, 20, 8, 24⟩, q9 := ⟨8, 8, 8, 24⟩ }
theorem er_SizeError_good : er_SizeError.Good := ⟨by decide +kernel, by decide +kernel, fun _ _ _ _ _ _ _ _ => rfl⟩
def er_BitsError : ErrD := { x := "BitsError", fl := "index", msg := "invalid bits", qual := "BitsError.__init__", p1 := ⟨11, 17, 11, 21⟩, p2 := ⟨11, 23, 11, 28⟩, q0 := ⟨12, 8, 12, 13⟩, q1 := ⟨12, 8, 12, 15⟩, q2 := ⟨12, 8, 12, 24⟩, q3 := ⟨12, 25, 12, 39⟩, q4 := ⟨12, 8, 12, 40⟩, q5 := ⟨12, 8, 12, 40⟩, q6 := ⟨13, 8, 13, 12⟩, q7 := ⟨13, 8, 13, 18⟩, q8 := ⟨13, 21, 13, 26⟩, q9 := ⟨13, 8, 13, 26⟩ }
theorem er_BitsError_good : er_BitsError.Good := ⟨by decide +kernel, by decide +kernel, fun _ _ _ _ _ _ _ _ => rfl⟩
def er_CircuitError : ErrD := { x := "CircuitError", fl := "index", msg := "invalid gate or output", qual := "CircuitError.__init__", p1 := ⟨16, 17, 16, 21⟩, p2 := ⟨16, 23, 16, 28⟩, q0 := ⟨17, 8, 17, 13⟩, q1 := ⟨17, 8, 17, 15⟩, q2 := ⟨17, 8, 17, 24⟩, q3 := ⟨17, 25, 17, 49⟩, q4 := ⟨17, 8, 17, 50⟩, q5 := ⟨17, 8, 17, 50⟩, q6 := ⟨18, 8, 18, 12⟩, q7 := ⟨18, 8, 18, 18⟩, q8 := ⟨18, 21, 18, 26⟩, q9 := ⟨18, 8, 18, 26⟩ }
theorem er_CircuitError_good : er_CircuitError.Good := ⟨by decide +kernel, by decide +kernel, fun _ _ _ _ _ _ _ _ => rfl⟩
def er_NetlistError : ErrD := { x := "NetlistError", fl := "line", msg := "wrong line in a netlist or a store", qual := "NetlistError.__init__", p1 := ⟨21, 17, 21, 21⟩, p2 := ⟨21, 23, 21, 27⟩, q0 := ⟨22, 8, 22, 13⟩, q1 := ⟨22, 8, 22, 15⟩, q2 := ⟨22, 8, 22, 24⟩, q3 := ⟨22, 25, 22, 61⟩, q4 := ⟨22, 8, 22, 62⟩, q5 := ⟨22, 8, 22, 62⟩, q6 := ⟨23, 8, 23, 12⟩, q7 := ⟨23, 8, 23, 17⟩, q8 := ⟨23, 20, 23, 24⟩, q9 := ⟨23, 8, 23, 24⟩ }
theorem er_NetlistError_good : er_NetlistError.Good := ⟨by decide +kernel, by decide +kernel, fun _ _ _ _ _ _ _ _ => rfl⟩
def er_FanoutError : ErrD := { x := "FanoutError", fl := "wire", msg := "wire with more than two readers", qual := "FanoutError.__init__", p1 := ⟨26, 17, 26, 21⟩, p2 := ⟨26, 23, 26, 27⟩, q0 := ⟨27, 8, 27, 13⟩, q1 := ⟨27, 8, 27, 15⟩, q2 := ⟨27, 8, 27, 24⟩, q3 := ⟨27, 25, 27, 58⟩, q4 := ⟨27, 8, 27, 59⟩, q5 := ⟨27, 8, 27, 59⟩, q6 := ⟨28, 8, 28, 12⟩, q7 := ⟨28, 8, 28, 17⟩, q8 := ⟨28, 20, 28, 24⟩, q9 := ⟨28, 8, 28, 24⟩ }
theorem er_FanoutError_good : er_FanoutError.Good := ⟨by decide +kernel, by decide +kernel, fun _ _ _ _ _ _ _ _ => rfl⟩
def er_StoreError : ErrD := { x := "StoreError", fl := "name", msg := "invalid or unknown name", qual := "StoreError.__init__", p1 := ⟨31, 17, 31, 21⟩, p2 := ⟨31, 23, 31, 27⟩, q0 := ⟨32, 8, 32, 13⟩, q1 := ⟨32, 8, 32, 15⟩, q2 := ⟨32, 8, 32, 24⟩, q3 := ⟨32, 25, 32, 50⟩, q4 := ⟨32, 8, 32, 51⟩, q5 := ⟨32, 8, 32, 51⟩, q6 := ⟨33, 8, 33, 12⟩, q7 := ⟨33, 8, 33, 17⟩, q8 := ⟨33, 20, 33, 24⟩, q9 := ⟨33, 8, 33, 24⟩ }
theorem er_StoreError_good : er_StoreError.Good := ⟨by decide +kernel, by decide +kernel, fun _ _ _ _ _ _ _ _ => rfl⟩
/-- what stands behind the top, by names -/
structure Txt (P : Program) (K : PySem.W.Frag) (mg : Str → Option Value) : Prop where
  pf : FileOk P theFile
  f_is_wire : GF K mg "is_wire" s_is_wire
  f_is_gate : GF K mg "is_gate" s_is_gate
  f_check_circuit : GF K mg "check_circuit" s_check_circuit
  f__law_pool : GF K mg "_law_pool" s__law_pool
  f__law_draw : GF K mg "_law_draw" s__law_draw
  f__law_take : GF K mg "_law_take" s__law_take
  f__law_same : GF K mg "_law_same" s__law_same
  f__law_wire : GF K mg "_law_wire" s__law_wire
  f__law_drawn : GF K mg "_law_drawn" s__law_drawn
  f__law_wrong : GF K mg "_law_wrong" s__law_wrong
  f__law_bent : GF K mg "_law_bent" s__law_bent
  f__law_near : GF K mg "_law_near" s__law_near
  f__law_due : GF K mg "_law_due" s__law_due
  f__law_sized : GF K mg "_law_sized" s__law_sized
  f__law_beyond : GF K mg "_law_beyond" s__law_beyond
  f__law_told : GF K mg "_law_told" s__law_told
  f__law_kinds : GF K mg "_law_kinds" s__law_kinds
  f_law : GF K mg "law" s_law
  g_FabricError : mg "FabricError" = some (.ref (ga K "FabricError"))
  g_SizeError : mg "SizeError" = some (.ref (ga K "SizeError"))
  g_BitsError : mg "BitsError" = some (.ref (ga K "BitsError"))
  g_CircuitError : mg "CircuitError" = some (.ref (ga K "CircuitError"))
  g_NetlistError : mg "NetlistError" = some (.ref (ga K "NetlistError"))
  g_FanoutError : mg "FanoutError" = some (.ref (ga K "FanoutError"))
  g_StoreError : mg "StoreError" = some (.ref (ga K "StoreError"))
  e_SizeError : PySem.FabX.ErrTxt K theFile "size" (ga K "SizeError") (initOf K "SizeError") (ccOf K "SizeError") (cdaOf K "SizeError")
  x_SizeError : ExcC K (ga K "SizeError") ∧ XfC K (ga K "SizeError")
  e_BitsError : PySem.FabX.ErrTxt K theFile "index" (ga K "BitsError") (initOf K "BitsError") (ccOf K "BitsError") (cdaOf K "BitsError")
  x_BitsError : ExcC K (ga K "BitsError") ∧ XfC K (ga K "BitsError")
  e_CircuitError : PySem.FabX.ErrTxt K theFile "index" (ga K "CircuitError") (initOf K "CircuitError") (ccOf K "CircuitError") (cdaOf K "CircuitError")
  x_CircuitError : ExcC K (ga K "CircuitError") ∧ XfC K (ga K "CircuitError")
  e_NetlistError : PySem.FabX.ErrTxt K theFile "line" (ga K "NetlistError") (initOf K "NetlistError") (ccOf K "NetlistError") (cdaOf K "NetlistError")
  x_NetlistError : ExcC K (ga K "NetlistError") ∧ XfC K (ga K "NetlistError")
  e_FanoutError : PySem.FabX.ErrTxt K theFile "wire" (ga K "FanoutError") (initOf K "FanoutError") (ccOf K "FanoutError") (cdaOf K "FanoutError")
  x_FanoutError : ExcC K (ga K "FanoutError") ∧ XfC K (ga K "FanoutError")
  e_StoreError : PySem.FabX.ErrTxt K theFile "name" (ga K "StoreError") (initOf K "StoreError") (ccOf K "StoreError") (cdaOf K "StoreError")
  x_StoreError : ExcC K (ga K "StoreError") ∧ XfC K (ga K "StoreError")
  n_ValueError : mg "ValueError" = none
  n_abs : mg "abs" = none
  n_bool : mg "bool" = none
  n_dict : mg "dict" = none
  n_enumerate : mg "enumerate" = none
  n_int : mg "int" = none
  n_isinstance : mg "isinstance" = none
  n_len : mg "len" = none
  n_list : mg "list" = none
  n_max : mg "max" = none
  n_min : mg "min" = none
  n_range : mg "range" = none
  n_str : mg "str" = none
  n_super : mg "super" = none
  n_tuple : mg "tuple" = none
  c_MOST_INPUTS : ∃ t, mg "MOST_INPUTS" = some (.int 2000 t)
  c_MOST_GATES : ∃ t, mg "MOST_GATES" = some (.int 20000 t)
  c_MOST_OUTPUTS : ∃ t, mg "MOST_OUTPUTS" = some (.int 2000 t)
  k_SizeError_ValueError : PySem.W.kitOne K (.ref (ga K "SizeError")) (.type "ValueError") = some true
  k_SizeError_SizeError : PySem.W.kitOne K (.ref (ga K "SizeError")) (.ref (ga K "SizeError")) = some true
  k_SizeError_CircuitError : PySem.W.kitOne K (.ref (ga K "SizeError")) (.ref (ga K "CircuitError")) = some false
  k_SizeError_BitsError : PySem.W.kitOne K (.ref (ga K "SizeError")) (.ref (ga K "BitsError")) = some false
  k_SizeError_FanoutError : PySem.W.kitOne K (.ref (ga K "SizeError")) (.ref (ga K "FanoutError")) = some false
  k_SizeError_NetlistError : PySem.W.kitOne K (.ref (ga K "SizeError")) (.ref (ga K "NetlistError")) = some false
  k_SizeError_StoreError : PySem.W.kitOne K (.ref (ga K "SizeError")) (.ref (ga K "StoreError")) = some false
  k_CircuitError_ValueError : PySem.W.kitOne K (.ref (ga K "CircuitError")) (.type "ValueError") = some true
  k_CircuitError_SizeError : PySem.W.kitOne K (.ref (ga K "CircuitError")) (.ref (ga K "SizeError")) = some false
  k_CircuitError_CircuitError : PySem.W.kitOne K (.ref (ga K "CircuitError")) (.ref (ga K "CircuitError")) = some true
  k_CircuitError_BitsError : PySem.W.kitOne K (.ref (ga K "CircuitError")) (.ref (ga K "BitsError")) = some false
  k_CircuitError_FanoutError : PySem.W.kitOne K (.ref (ga K "CircuitError")) (.ref (ga K "FanoutError")) = some false
  k_CircuitError_NetlistError : PySem.W.kitOne K (.ref (ga K "CircuitError")) (.ref (ga K "NetlistError")) = some false
  k_CircuitError_StoreError : PySem.W.kitOne K (.ref (ga K "CircuitError")) (.ref (ga K "StoreError")) = some false
  m_SizeError_SizeError : PySem.W.exmOne K (.ref (ga K "SizeError")) (.ref (ga K "SizeError")) = some true
  m_CircuitError_SizeError : PySem.W.exmOne K (.ref (ga K "CircuitError")) (.ref (ga K "SizeError")) = some false
  m_CircuitError_CircuitError : PySem.W.exmOne K (.ref (ga K "CircuitError")) (.ref (ga K "CircuitError")) = some true
  m_SizeError_FabricError : PySem.W.exmOne K (.ref (ga K "SizeError")) (.ref (ga K "FabricError")) = some true
  m_CircuitError_FabricError : PySem.W.exmOne K (.ref (ga K "CircuitError")) (.ref (ga K "FabricError")) = some true
def fa : List Fa := [.glo "is_wire",
  .glo "is_gate",
  .glo "check_circuit",
  .glo "_law_pool",
  .glo "_law_draw",
  .glo "_law_take",
  .glo "_law_same",
  .glo "_law_wire",
  .glo "_law_drawn",
  .glo "_law_wrong",
  .glo "_law_bent",
  .glo "_law_near",
  .glo "_law_due",
  .glo "_law_sized",
  .glo "_law_beyond",
  .glo "_law_told",
  .glo "_law_kinds",
  .glo "law",
  .glo "FabricError",
  .glo "SizeError",
  .glo "BitsError",
  .glo "CircuitError",
  .glo "NetlistError",
  .glo "FanoutError",
  .glo "StoreError",
  .free "ValueError",
  .free "abs",
  .free "bool",
  .free "dict",
  .free "enumerate",
  .free "int",
  .free "isinstance",
  .free "len",
  .free "list",
  .free "max",
  .free "min",
  .free "range",
  .free "str",
  .free "super",
  .free "tuple",
  .int "MOST_INPUTS" 2000,
  .int "MOST_GATES" 20000,
  .int "MOST_OUTPUTS" 2000,
  .exm "SizeError" "SizeError" true,
  .exm "CircuitError" "SizeError" false,
  .exm "CircuitError" "CircuitError" true,
  .exm "SizeError" "FabricError" true,
  .exm "CircuitError" "FabricError" true]
def fn : List DefD := [dOf "is_wire" s_is_wire, dOf "is_gate" s_is_gate, dOf "check_circuit" s_check_circuit, dOf "_law_pool" s__law_pool, dOf "_law_draw" s__law_draw, dOf "_law_take" s__law_take, dOf "_law_same" s__law_same, dOf "_law_wire" s__law_wire, dOf "_law_drawn" s__law_drawn, dOf "_law_wrong" s__law_wrong, dOf "_law_bent" s__law_bent, dOf "_law_near" s__law_near, dOf "_law_due" s__law_due, dOf "_law_sized" s__law_sized, dOf "_law_beyond" s__law_beyond, dOf "_law_told" s__law_told, dOf "_law_kinds" s__law_kinds, dOf "law" s_law]
def er : List ErrD := [er_SizeError, er_BitsError, er_CircuitError, er_NetlistError, er_FanoutError, er_StoreError]
def ex (K : PySem.W.Frag) : Bool := suiteB K "SizeError" && (suiteB K "BitsError" && (suiteB K "CircuitError" && (suiteB K "NetlistError" && (suiteB K "FanoutError" && (suiteB K "StoreError" && (oB (PySem.W.kitOne K (.ref (ga K "SizeError")) (.type "ValueError")) true && (oB (PySem.W.kitOne K (.ref (ga K "SizeError")) (.ref (ga K "SizeError"))) true && (oB (PySem.W.kitOne K (.ref (ga K "SizeError")) (.ref (ga K "CircuitError"))) false && (oB (PySem.W.kitOne K (.ref (ga K "SizeError")) (.ref (ga K "BitsError"))) false && (oB (PySem.W.kitOne K (.ref (ga K "SizeError")) (.ref (ga K "FanoutError"))) false && (oB (PySem.W.kitOne K (.ref (ga K "SizeError")) (.ref (ga K "NetlistError"))) false && (oB (PySem.W.kitOne K (.ref (ga K "SizeError")) (.ref (ga K "StoreError"))) false && (oB (PySem.W.kitOne K (.ref (ga K "CircuitError")) (.type "ValueError")) true && (oB (PySem.W.kitOne K (.ref (ga K "CircuitError")) (.ref (ga K "SizeError"))) false && (oB (PySem.W.kitOne K (.ref (ga K "CircuitError")) (.ref (ga K "CircuitError"))) true && (oB (PySem.W.kitOne K (.ref (ga K "CircuitError")) (.ref (ga K "BitsError"))) false && (oB (PySem.W.kitOne K (.ref (ga K "CircuitError")) (.ref (ga K "FanoutError"))) false && (oB (PySem.W.kitOne K (.ref (ga K "CircuitError")) (.ref (ga K "NetlistError"))) false && (oB (PySem.W.kitOne K (.ref (ga K "CircuitError")) (.ref (ga K "StoreError"))) false && (true))))))))))))))))))))
theorem txt_of {P : Program} {K : PySem.W.Frag} {h : Heap} {mg : Str → Option Value} (pf : FileOk P theFile) (X : K.In h) (G : h.Ns mainGlobals mg) (c : SaysF fa fn theFile er ex K) : Txt P K mg := by
  have z := c.bools.2.2.2
  obtain ⟨z0, z⟩ := ba z
  obtain ⟨z1, z⟩ := ba z
  obtain ⟨z2, z⟩ := ba z
  obtain ⟨z3, z⟩ := ba z
  obtain ⟨z4, z⟩ := ba z
  obtain ⟨z5, z⟩ := ba z
  obtain ⟨z6, z⟩ := ba z
  obtain ⟨z7, z⟩ := ba z
  obtain ⟨z8, z⟩ := ba z
  obtain ⟨z9, z⟩ := ba z
  obtain ⟨z10, z⟩ := ba z
  obtain ⟨z11, z⟩ := ba z
  obtain ⟨z12, z⟩ := ba z
  obtain ⟨z13, z⟩ := ba z
  obtain ⟨z14, z⟩ := ba z
  obtain ⟨z15, z⟩ := ba z
  obtain ⟨z16, z⟩ := ba z
  obtain ⟨z17, z⟩ := ba z
  obtain ⟨z18, z⟩ := ba z
  obtain ⟨z19, z⟩ := ba z
  exact {
    pf := pf
    f_is_wire := c.gf X G 0 0 rfl rfl
    f_is_gate := c.gf X G 1 1 rfl rfl
    f_check_circuit := c.gf X G 2 2 rfl rfl
    f__law_pool := c.gf X G 3 3 rfl rfl
    f__law_draw := c.gf X G 4 4 rfl rfl
    f__law_take := c.gf X G 5 5 rfl rfl
    f__law_same := c.gf X G 6 6 rfl rfl
    f__law_wire := c.gf X G 7 7 rfl rfl
    f__law_drawn := c.gf X G 8 8 rfl rfl
    f__law_wrong := c.gf X G 9 9 rfl rfl
    f__law_bent := c.gf X G 10 10 rfl rfl
    f__law_near := c.gf X G 11 11 rfl rfl
    f__law_due := c.gf X G 12 12 rfl rfl
    f__law_sized := c.gf X G 13 13 rfl rfl
    f__law_beyond := c.gf X G 14 14 rfl rfl
    f__law_told := c.gf X G 15 15 rfl rfl
    f__law_kinds := c.gf X G 16 16 rfl rfl
    f_law := c.gf X G 17 17 rfl rfl
    g_FabricError := glo_ok X G (c.fact 18 rfl)
    g_SizeError := glo_ok X G (c.fact 19 rfl)
    g_BitsError := glo_ok X G (c.fact 20 rfl)
    g_CircuitError := glo_ok X G (c.fact 21 rfl)
    g_NetlistError := glo_ok X G (c.fact 22 rfl)
    g_FanoutError := glo_ok X G (c.fact 23 rfl)
    g_StoreError := glo_ok X G (c.fact 24 rfl)
    e_SizeError := c.err 0 rfl er_SizeError_good
    x_SizeError := suiteB_ok z0
    e_BitsError := c.err 1 rfl er_BitsError_good
    x_BitsError := suiteB_ok z1
    e_CircuitError := c.err 2 rfl er_CircuitError_good
    x_CircuitError := suiteB_ok z2
    e_NetlistError := c.err 3 rfl er_NetlistError_good
    x_NetlistError := suiteB_ok z3
    e_FanoutError := c.err 4 rfl er_FanoutError_good
    x_FanoutError := suiteB_ok z4
    e_StoreError := c.err 5 rfl er_StoreError_good
    x_StoreError := suiteB_ok z5
    n_ValueError := free_ok X G (c.fact 25 rfl)
    n_abs := free_ok X G (c.fact 26 rfl)
    n_bool := free_ok X G (c.fact 27 rfl)
    n_dict := free_ok X G (c.fact 28 rfl)
    n_enumerate := free_ok X G (c.fact 29 rfl)
    n_int := free_ok X G (c.fact 30 rfl)
    n_isinstance := free_ok X G (c.fact 31 rfl)
    n_len := free_ok X G (c.fact 32 rfl)
    n_list := free_ok X G (c.fact 33 rfl)
    n_max := free_ok X G (c.fact 34 rfl)
    n_min := free_ok X G (c.fact 35 rfl)
    n_range := free_ok X G (c.fact 36 rfl)
    n_str := free_ok X G (c.fact 37 rfl)
    n_super := free_ok X G (c.fact 38 rfl)
    n_tuple := free_ok X G (c.fact 39 rfl)
    c_MOST_INPUTS := int_ok X G (c.fact 40 rfl)
    c_MOST_GATES := int_ok X G (c.fact 41 rfl)
    c_MOST_OUTPUTS := int_ok X G (c.fact 42 rfl)
    k_SizeError_ValueError := of_decide_eq_true z6
    k_SizeError_SizeError := of_decide_eq_true z7
    k_SizeError_CircuitError := of_decide_eq_true z8
    k_SizeError_BitsError := of_decide_eq_true z9
    k_SizeError_FanoutError := of_decide_eq_true z10
    k_SizeError_NetlistError := of_decide_eq_true z11
    k_SizeError_StoreError := of_decide_eq_true z12
    k_CircuitError_ValueError := of_decide_eq_true z13
    k_CircuitError_SizeError := of_decide_eq_true z14
    k_CircuitError_CircuitError := of_decide_eq_true z15
    k_CircuitError_BitsError := of_decide_eq_true z16
    k_CircuitError_FanoutError := of_decide_eq_true z17
    k_CircuitError_NetlistError := of_decide_eq_true z18
    k_CircuitError_StoreError := of_decide_eq_true z19
    m_SizeError_SizeError := exm_ok (c.fact 43 rfl)
    m_CircuitError_SizeError := exm_ok (c.fact 44 rfl)
    m_CircuitError_CircuitError := exm_ok (c.fact 45 rfl)
    m_SizeError_FabricError := exm_ok (c.fact 46 rfl)
    m_CircuitError_FabricError := exm_ok (c.fact 47 rfl) }
end K20
set_option maxHeartbeats 0
namespace K20
open PySem PySem.W PySem.Calls PyProof.Rows
def names0 : List PySem.Str := ["FabricError", "SizeError", "BitsError", "CircuitError", "NetlistError", "FanoutError", "StoreError", "MOST_INPUTS", "MOST_GATES", "MOST_OUTPUTS", "is_wire", "is_gate", "check_circuit", "_law_pool", "_law_draw", "_law_take", "_law_same", "_law_wire", "_law_drawn", "_law_wrong", "_law_bent", "_law_near", "_law_due", "_law_sized", "_law_beyond", "_law_told", "_law_kinds"]
def names : List PySem.Str := names0
abbrev R : OpenRow := OpenLaw.row PySem.Challenge.rw_gatesofcloth_k20_circuit_refused_at_its
abbrev hk : Hook := FabH.hookF 6 fa fn theFile er ex
def ob (s : SharedT) : FabH.AlF := FabH.obsFG 6 fa fn theFile er ex (HandSHeadRun.getT s)
theorem ob_eq (s : SharedT) : ob s = hk.obs s.abs := FabH.obsFG_eq (HandSHeadRun.getT_eq s)
theorem run (w : World) : HandSHeadRun.RunEq R (view R.prog [30]) hk ob 4000 names w := by
  intro os
  kernel_rfl
end K20
set_option maxHeartbeats 4000000
/-! k20: the mirror and the promises. -/
namespace K20
open PySem PySem.Spec PyProof.Rows L2 FabH He
abbrev Gate : Type := Int × Int × Int
structure Circ where
  free : Int
  gates : List Gate
  ends : List Int
def wireOk (x w : Int) : Bool := decide (-1 ≤ x ∧ x < w)
def gateOk (g : Gate) (w : Int) : Bool := decide (0 ≤ g.1 ∧ g.1 ≤ 15) && (wireOk g.2.1 w && wireOk g.2.2 w)
/-- the first gate that is wrong; the first output -/
def firstBad : Int → List Gate → Option Nat
  | _, [] => none
  | w, g :: r => if gateOk g w = true then (firstBad (w + 1) r).map (· + 1) else some 0
def firstEnd : Int → List Int → Option Nat
  | _, [] => none
  | w, e :: r => if wireOk e w = true then (firstEnd w r).map (· + 1) else some 0
inductive Vd where
  | ok | size (n : Int) | circ (i : Int)
def Vd.tag : Vd → Str
  | .ok => "told"
  | .size _ => "size"
  | .circ _ => "circuit"
def Vd.val : Vd → V
  | .ok => .non
  | .size n => .int n
  | .circ i => .int i
def verdict (c : Circ) : Vd :=
  if 0 ≤ c.free ∧ c.free ≤ 2000 then (if c.gates.length ≤ 20000 then (if c.ends.length ≤ 2000 then (match firstBad c.free c.gates with
    | some j => .circ (j : Nat)
    | none => match firstEnd (c.free + (c.gates.length : Nat)) c.ends with
      | some j => .circ ((c.gates.length : Nat) + (j : Nat))
      | none => .ok) else .size (c.ends.length : Nat)) else .size (c.gates.length : Nat)) else .size c.free
/-! ### data on the heap -/
def gV (H : Hp) (v : V) (g : Gate) : Prop := ∃ a, v = .ref a ∧ H a = some (.tup [.int g.1, .int g.2.1, .int g.2.2])
def gsV (H : Hp) (vs : List V) (gs : List Gate) : Prop := vs.length = gs.length ∧ ∀ (i : Nat) (v : V) (g : Gate), vs[i]? = some v → gs[i]? = some g → gV H v g
def cV (H : Hp) (v : V) (c : Circ) : Prop := ∃ (a g e : Addr) (vs : List V), v = .ref a ∧ H a = some (.tup [.int c.free, .ref g, .ref e]) ∧ H g = some (.tup vs) ∧ gsV H vs c.gates ∧ H e = some (.tup (c.ends.map V.int))
def dV (H : Hp) (v : V) (d : Vd) : Prop := ∃ a, v = .ref a ∧ H a = some (.tup [.str d.tag, d.val])
def pV (H : Hp) (v : V) (c : Circ) : Prop := ∃ (l : Addr) (a b : V), v = .ref l ∧ H l = some (.lst [a, b]) ∧ cV H a c ∧ dV H b (verdict c)
structure Small (c : Circ) : Prop where
  g : c.gates.length ≤ 100000
  e : c.ends.length ≤ 100000
/-- right, with sizes that a drawn circuit may have -/
structure Right (c : Circ) : Prop where
  f0 : 0 ≤ c.free
  f1 : c.free ≤ 2000
  g : ∀ (i : Nat) (g : Gate), c.gates[i]? = some g → gateOk g (c.free + (i : Nat)) = true
  e : ∀ (i : Nat) (z : Int), c.ends[i]? = some z → wireOk z (c.free + (c.gates.length : Nat)) = true
  gl : c.gates.length ≤ 100
  el : c.ends.length ≤ 100
section
variable (K : PySem.W.Frag)
def sp_is_wire : Sp := fun vs H Q _ => ∃ x w : Int, vs = [.int x, .int w] ∧ Q (.bl (wireOk x w)) H
def sp_is_gate : Sp := fun vs H Q _ => ∃ (g : Gate) (w : Int), vs = [.int g.1, .int g.2.1, .int g.2.2, .int w] ∧ Q (.bl (gateOk g w)) H
def sp_check_circuit : Sp := fun vs H Q E => ∃ v c, vs = [v] ∧ cV H v c ∧ Small c ∧ (verdict c = .ok → ∀ H', Same H H' → Q .non H') ∧
  (∀ n, verdict c = .size n → ∀ d H', Same H H' → H' d = some (.xd [(("size" : Str), .int n)]) → E (.ref (ga K "SizeError")) (some d) H') ∧
  (∀ i, verdict c = .circ i → ∀ d H', Same H H' → H' d = some (.xd [(("index" : Str), .int i)]) → E (.ref (ga K "CircuitError")) (some d) H')
/-- pools as the helpers take them -/
def poolsV (H : Hp) (v : V) : Prop := ∃ (l : Addr) (ps : List Addr), v = .ref l ∧ H l = some (.lst (ps.map V.ref)) ∧ ps ≠ [] ∧ ∀ p ∈ ps, IsPool H p
def sp__law_wire : Sp := fun vs H Q _ => ∃ (v : V) (w : Int), vs = [v, .int w] ∧ poolsV H v ∧ 0 ≤ w ∧ w < 100000 ∧ ∀ r, wireOk r w = true → Q (.int r) H
def sp__law_drawn : Sp := fun vs H Q _ => ∃ (v : V) (f n m : Int), vs = [v, .int f, .int n, .int m] ∧ poolsV H v ∧ 0 ≤ f ∧ f ≤ 2000 ∧ 0 ≤ n ∧ n ≤ 90 ∧ 0 ≤ m ∧ m ≤ 90 ∧
  ∀ u c H', Same H H' → cV H' u c → Right c → c.free = f → c.gates.length = n.toNat → c.ends.length = m.toNat → Q u H'
def sp__law_wrong : Sp := fun vs H Q _ => ∃ (p : Addr) (lo hi : Int), vs = [.ref p, .int lo, .int hi] ∧ IsPool H p ∧ ∀ r, (r < lo ∨ hi < r) → Q (.int r) H
def sp__law_bent : Sp := fun vs H Q _ => ∃ (p : Addr) (v : V) (c : Circ) (t : Int), vs = [.ref p, v, .int t] ∧ IsPool H p ∧ cV H v c ∧ Right c ∧ 0 ≤ t ∧ t ≤ 100 ∧
  ∀ u c' H', Same H H' → pV H' u c' → c'.free = c.free → c'.gates.length = c.gates.length → c'.ends.length = c.ends.length → Q u H'
def sp__law_near : Sp := fun vs H Q _ => ∃ (v : V) (f n m : Int), vs = [v, .int f, .int n, .int m] ∧ poolsV H v ∧ 0 ≤ f ∧ f ≤ 2000 ∧ 0 ≤ n ∧ n ≤ 90 ∧ 0 ≤ m ∧ m ≤ 90 ∧
  ∀ u c H', Same H H' → cV H' u c → c.free = f → c.gates.length = n.toNat → c.ends.length = m.toNat → Q u H'
def sp__law_due : Sp := fun vs H Q _ => ∃ (v : V) (c : Circ), vs = [v] ∧ cV H v c ∧ 0 ≤ c.free ∧ c.free ≤ 2000 ∧ c.gates.length ≤ 100 ∧ c.ends.length ≤ 100 ∧ ∀ u H', Same H H' → dV H' u (verdict c) → Q u H'
def sp__law_sized : Sp := fun vs H Q _ => ∃ (p : Addr) (v b : V) (c d : Circ), vs = [.ref p, v, b] ∧ IsPool H p ∧ cV H v c ∧ Right c ∧ cV H b d ∧ 0 ≤ d.free ∧ d.free ≤ 2000 ∧ d.gates.length ≤ 100 ∧ d.ends.length ≤ 100 ∧
  ∀ u c' H', Same H H' → pV H' u c' → Small c' → Q u H'
def sp__law_beyond : Sp := fun vs H Q _ => ∃ (p : Addr) (v : V) (c : Circ), vs = [.ref p, v] ∧ IsPool H p ∧ cV H v c ∧ Right c ∧ ∀ u c' H', Same H H' → pV H' u c' → Small c' → Q u H'
def sp__law_told : Sp := fun vs H Q _ => ∃ v c, vs = [v] ∧ cV H v c ∧ Small c ∧ ∀ u H', Same H H' → dV H' u (verdict c) → Q u H'
def kindsOf : Vd → List V
  | .ok => [.bl false, .bl false, .bl false, .bl false]
  | .size _ => [.bl true, .bl true, .bl false, .bl false]
  | .circ _ => [.bl true, .bl false, .bl true, .bl false]
def sp__law_kinds : Sp := fun vs H Q _ => ∃ v c, vs = [v] ∧ cV H v c ∧ Small c ∧ ∀ l H', Same H H' → H' l = some (.lst (kindsOf (verdict c))) → Q (.ref l) H'
def sp_law : Sp := fun vs H Q _ => ∃ (a : Addr) (ns : List Int), vs = [.ref a] ∧ SqL K H a (ns.map V.int) ∧ ns.length ≤ 63 ∧ ∀ H', Q (.bl true) H'
end
end K20
set_option maxHeartbeats 4000000
namespace K20
open PySem PySem.Spec PyProof.Rows L2 FabH He
abbrev N_is_wire : List Str := ["wire", "wires"]
theorem sc_is_wire : FnScope N_is_wire ["wire", "wires"] (defScope s_is_wire) := ⟨rfl, rfl, rfl, by decide +kernel, rfl, by decide +kernel, by decide +kernel⟩
noncomputable def d_is_wire {P : Program} {w : World} {K : PySem.W.Frag} {mg : Str → Option Value} {base : Heap} {f : Addr} {cdv : Value} {A : Around} {outer : List Env} {s : Shared} {H : Hp} {E : XK} (T : Txt P K mg)
    (hr : Room 0 (A.deeper (envOfC "is_wire" (defScope s_is_wire) s.heap.objs.size f cdv))) :
    { t : TS // PSs (cxOf CX0 P w K mg base N_is_wire "is_wire" (defScope s_is_wire) f cdv A outer s H E).nox (defBody s_is_wire) t } := ⟨_, by exact
    (pss_one (ps_ret (pe_chain op_le op_lt (pe_un un_neg (pe_int)) (pv 0) (pv 1))))⟩
abbrev N_is_gate : List Str := ["table", "first", "second", "wire"]
theorem sc_is_gate : FnScope N_is_gate ["table", "first", "second", "wire"] (defScope s_is_gate) := ⟨rfl, rfl, rfl, by decide +kernel, rfl, by decide +kernel, by decide +kernel⟩
noncomputable def d_is_gate {P : Program} {w : World} {K : PySem.W.Frag} {mg : Str → Option Value} {base : Heap} {f : Addr} {cdv : Value} {A : Around} {outer : List Env} {s : Shared} {H : Hp} {E : XK} (T : Txt P K mg)
    (G_is_wire : FnOk P w K mg base CX0 1 (ga K "is_wire") (fdOf K "is_wire") ["wire", "wires"] (sp_is_wire)) (b_is_wire : Binds K (fdOf K "is_wire") ["wire", "wires"] [])
    (hr : Room 1 (A.deeper (envOfC "is_gate" (defScope s_is_gate) s.heap.objs.size f cdv))) :
    { t : TS // PSs (cxOf CX0 P w K mg base N_is_gate "is_gate" (defScope s_is_gate) f cdv A outer s H E).nox (defBody s_is_gate) t } := ⟨_, by exact
    (pss_one (ps_ret (pe_and (pe_chain op_le op_le (pe_int) (pv 0) (pe_int)) (pe_and (pe_call G_is_wire (hr.mono (by omega)) rfl T.f_is_wire.g T.f_is_wire.f.kp b_is_wire .nil pass0 (pa_cons (pv 1) (pa_cons (pv 3) pa_nil))) (pe_one (pe_call G_is_wire (hr.mono (by omega)) rfl T.f_is_wire.g T.f_is_wire.f.kp b_is_wire .nil pass0 (pa_cons (pv 2) (pa_cons (pv 3) pa_nil))))))))⟩
abbrev N_check_circuit : List Str := ["circuit", "inputs", "gates", "outputs", "j", "table", "first", "second", "wire"]
theorem sc_check_circuit : FnScope N_check_circuit ["circuit"] (defScope s_check_circuit) := ⟨rfl, rfl, rfl, by decide +kernel, rfl, by decide +kernel, by decide +kernel⟩
noncomputable def d_check_circuit {P : Program} {w : World} {K : PySem.W.Frag} {mg : Str → Option Value} {base : Heap} {f : Addr} {cdv : Value} {A : Around} {outer : List Env} {s : Shared} {H : Hp} {E : XK} (T : Txt P K mg)
    (G_is_gate : FnOk P w K mg base CX0 2 (ga K "is_gate") (fdOf K "is_gate") ["table", "first", "second", "wire"] (sp_is_gate)) (b_is_gate : Binds K (fdOf K "is_gate") ["table", "first", "second", "wire"] [])
    (G_is_wire : FnOk P w K mg base CX0 1 (ga K "is_wire") (fdOf K "is_wire") ["wire", "wires"] (sp_is_wire)) (b_is_wire : Binds K (fdOf K "is_wire") ["wire", "wires"] [])
    (hr : Room 2 (A.deeper (envOfC "check_circuit" (defScope s_check_circuit) s.heap.objs.size f cdv))) :
    { t : TS // PSs (cxOf (L2.CX P w) P w K mg base N_check_circuit "check_circuit" (defScope s_check_circuit) f cdv A outer s H E) (defBody s_check_circuit) t } := ⟨_, by exact
    (pss_cons (ps_asg (pv 0) (pg_tup rfl (pgs_cons (pg_name (i := 1) sc_check_circuit.nd rfl (Or.inl rfl)) (pgs_cons (pg_name (i := 2) sc_check_circuit.nd rfl (Or.inl rfl)) (pgs_cons (pg_name (i := 3) sc_check_circuit.nd rfl (Or.inl rfl)) pgs_nil)))))
    (pss_cons (ps_if (pt_not (pt_chain op_le op_le (pe_int) (pv 1) (pe_glob (v := .int 2000) rfl T.c_MOST_INPUTS.choose_spec ⟨_, rfl⟩))) (pss_one (ps_raiseErr rfl T.e_SizeError (by decide) T.g_SizeError T.n_super T.pf hr (takes_of rfl rfl rfl rfl) (by exact (pa_cons (pv 1) pa_nil)))) pss_nil)
    (pss_cons (ps_if (pt_cmpR op_gt (pe_callB cr_len rfl T.n_len (by first | decide +kernel | boot_by_name) (pa_cons (pv 2) pa_nil)) (pe_glob (v := .int 20000) rfl T.c_MOST_GATES.choose_spec ⟨_, rfl⟩) (nomark _)) (pss_one (ps_raiseErr rfl T.e_SizeError (by decide) T.g_SizeError T.n_super T.pf hr (takes_of rfl rfl rfl rfl) (by exact (pa_cons (pe_callB cr_len rfl T.n_len (by first | decide +kernel | boot_by_name) (pa_cons (pv 2) pa_nil)) pa_nil)))) pss_nil)
    (pss_cons (ps_if (pt_cmpR op_gt (pe_callB cr_len rfl T.n_len (by first | decide +kernel | boot_by_name) (pa_cons (pv 3) pa_nil)) (pe_glob (v := .int 2000) rfl T.c_MOST_OUTPUTS.choose_spec ⟨_, rfl⟩) (nomark _)) (pss_one (ps_raiseErr rfl T.e_SizeError (by decide) T.g_SizeError T.n_super T.pf hr (takes_of rfl rfl rfl rfl) (by exact (pa_cons (pe_callB cr_len rfl T.n_len (by first | decide +kernel | boot_by_name) (pa_cons (pv 3) pa_nil)) pa_nil)))) pss_nil)
    (pss_cons (ps_for (passes_of rfl) rfl (pi_enumT rfl T.n_enumerate (pa_cons (pv 2) pa_nil)) (pg_tup rfl (pgs_cons (pg_name (i := 4) sc_check_circuit.nd rfl (Or.inl rfl)) (pgs_cons (pg_tup rfl (pgs_cons (pg_name (i := 5) sc_check_circuit.nd rfl (Or.inl rfl)) (pgs_cons (pg_name (i := 6) sc_check_circuit.nd rfl (Or.inl rfl)) (pgs_cons (pg_name (i := 7) sc_check_circuit.nd rfl (Or.inl rfl)) pgs_nil)))) pgs_nil))) (pss_one (ps_if (pt_not (pt_val (pe_call G_is_gate (hr.mono (by omega)) rfl T.f_is_gate.g T.f_is_gate.f.kp b_is_gate .nil pass0 (pa_cons (pv 5) (pa_cons (pv 6) (pa_cons (pv 7) (pa_cons (pe_op op_add (pv 1) (pv 4)) pa_nil))))))) (pss_one (ps_raiseErr rfl T.e_CircuitError (by decide) T.g_CircuitError T.n_super T.pf hr (takes_of rfl rfl rfl rfl) (by exact (pa_cons (pv 4) pa_nil)))) pss_nil)))
    (pss_one (ps_for (passes_of rfl) rfl (pi_enumT rfl T.n_enumerate (pa_cons (pv 3) pa_nil)) (pg_tup rfl (pgs_cons (pg_name (i := 4) sc_check_circuit.nd rfl (Or.inl rfl)) (pgs_cons (pg_name (i := 8) sc_check_circuit.nd rfl (Or.inl rfl)) pgs_nil))) (pss_one (ps_if (pt_not (pt_val (pe_call G_is_wire (hr.mono (by omega)) rfl T.f_is_wire.g T.f_is_wire.f.kp b_is_wire .nil pass0 (pa_cons (pv 8) (pa_cons (pe_op op_add (pv 1) (pe_callB cr_len rfl T.n_len (by first | decide +kernel | boot_by_name) (pa_cons (pv 2) pa_nil))) pa_nil))))) (pss_one (ps_raiseErr rfl T.e_CircuitError (by decide) T.g_CircuitError T.n_super T.pf hr (takes_of rfl rfl rfl rfl) (by exact (pa_cons (pe_op op_add (pe_callB cr_len rfl T.n_len (by first | decide +kernel | boot_by_name) (pa_cons (pv 2) pa_nil)) (pv 4)) pa_nil)))) pss_nil)))))))))⟩
abbrev N__law_pool : List Str := ["script", "place", "cell"]
theorem sc__law_pool : FnScope N__law_pool ["script", "place"] (defScope s__law_pool) := ⟨rfl, rfl, rfl, by decide +kernel, rfl, by decide +kernel, by decide +kernel⟩
noncomputable def d__law_pool {P : Program} {w : World} {K : PySem.W.Frag} {mg : Str → Option Value} {base : Heap} {f : Addr} {cdv : Value} {A : Around} {outer : List Env} {s : Shared} {H : Hp} {E : XK} (T : Txt P K mg)
    (hr : Room 0 (A.deeper (envOfC "_law_pool" (defScope s__law_pool) s.heap.objs.size f cdv))) :
    { t : TS // PSs (cxOf CX0 P w K mg base N__law_pool "_law_pool" (defScope s__law_pool) f cdv A outer s H E).nox (defBody s__law_pool) t } := ⟨_, by exact
    (pss_cons (ps_if (pt_cmpR op_eq (pe_callB cr_len rfl T.n_len (by first | decide +kernel | boot_by_name) (pa_cons (pv 0) pa_nil)) (pe_int) (nomark _)) (pss_one (ps_ret (pe_lst (pa_cons (pe_int) (pa_cons (pe_int) (pa_cons (pe_int) (pa_cons (pe_int) pa_nil))))))) pss_nil)
    (pss_cons (ps_set (i := 2) sc__law_pool.nd rfl (Or.inl rfl) (pe_callB cr_abs rfl T.n_abs (by first | decide +kernel | boot_by_name) (pa_cons (pe_ix ix_list (pv 0) (pe_op op_mod (pe_callTy cr_int rfl T.n_int (by first | decide +kernel | boot_by_name) (pa_cons (pv 1) pa_nil)) (pe_callB cr_len rfl T.n_len (by first | decide +kernel | boot_by_name) (pa_cons (pv 0) pa_nil))) (fun _ _ => rfl)) pa_nil)))
    (pss_cons (ps_if (PW.pt (pw_and (pt_cmpR op_lt (pv 1) (pe_callB cr_len rfl T.n_len (by first | decide +kernel | boot_by_name) (pa_cons (pv 0) pa_nil)) (nomark _)) (pw_and1 (pt_cmpR op_ge (pv 2) (pe_op op_pow (pe_int) (pe_int)) (nomark _))))) (pss_one (ps_ret (pe_lst (pa_cons (pe_int) (pa_cons (pv 2) (pa_cons (pe_op op_mod (pe_callTy cr_int rfl T.n_int (by first | decide +kernel | boot_by_name) (pa_cons (pv 2) pa_nil)) (pe_int)) (pa_cons (pe_int) pa_nil))))))) pss_nil)
    (pss_one (ps_ret (pe_lst (pa_cons (pe_int) (pa_cons (pe_int) (pa_cons (pe_op op_mod (pe_callTy cr_int rfl T.n_int (by first | decide +kernel | boot_by_name) (pa_cons (pe_op op_add (pv 2) (pe_op op_mul (pe_int) (pv 1))) pa_nil)) (pe_int)) (pa_cons (pe_int) pa_nil))))))))))⟩
abbrev N__law_draw : List Str := ["pool", "many", "got", "x"]
theorem sc__law_draw : FnScope N__law_draw ["pool", "many"] (defScope s__law_draw) := ⟨rfl, rfl, rfl, by decide +kernel, rfl, by decide +kernel, by decide +kernel⟩
noncomputable def d__law_draw {P : Program} {w : World} {K : PySem.W.Frag} {mg : Str → Option Value} {base : Heap} {f : Addr} {cdv : Value} {A : Around} {outer : List Env} {s : Shared} {H : Hp} {E : XK} (T : Txt P K mg)
    (hr : Room 0 (A.deeper (envOfC "_law_draw" (defScope s__law_draw) s.heap.objs.size f cdv))) :
    { t : TS // PSs (cxOf CX0 P w K mg base N__law_draw "_law_draw" (defScope s__law_draw) f cdv A outer s H E).nox (defBody s__law_draw) t } := ⟨_, by exact
    (pss_cons (ps_asg (pe_op op_add (pe_ix ix_list (pv 0) (pe_int) (fun _ _ => rfl)) (pe_int)) (pg_sub (pv 0) (pe_int) set_list))
    (pss_cons (ps_if (pt_cmpR op_eq (pe_ix ix_list (pv 0) (pe_int) (fun _ _ => rfl)) (pe_int) (nomark _)) (pss_one (ps_ret (pe_int))) pss_nil)
    (pss_cons (ps_if (PW.pt (pw_and (pt_cmpR op_eq (pe_ix ix_list (pv 0) (pe_int) (fun _ _ => rfl)) (pe_int) (nomark _)) (pw_and (pt_cmpR op_le (pe_ix ix_list (pv 0) (pe_int) (fun _ _ => rfl)) (pe_int) (nomark _)) (pw_and1 (pt_cmpR op_gt (pe_ix ix_list (pv 0) (pe_int) (fun _ _ => rfl)) (pe_int) (nomark _)))))) (pss_cons (ps_set (i := 2) sc__law_draw.nd rfl (Or.inl rfl) (pe_op op_mod (pe_callTy cr_int rfl T.n_int (by first | decide +kernel | boot_by_name) (pa_cons (pe_ix ix_list (pv 0) (pe_int) (fun _ _ => rfl)) pa_nil)) (pv 1)))
    (pss_cons (ps_asg (pe_op op_fdivW (pe_ix ix_list (pv 0) (pe_int) (fun _ _ => rfl)) (pv 1)) (pg_sub (pv 0) (pe_int) set_list))
    (pss_one (ps_ret (pv 2))))) pss_nil)
    (pss_cons (ps_set (i := 3) sc__law_draw.nd rfl (Or.inl rfl) (pe_op op_mod (pe_callTy cr_int rfl T.n_int (by first | decide +kernel | boot_by_name) (pa_cons (pe_op op_add (pe_op op_add (pe_ix ix_list (pv 0) (pe_int) (fun _ _ => rfl)) (pe_op op_mul (pe_int) (pe_ix ix_list (pv 0) (pe_int) (fun _ _ => rfl)))) (pe_int)) pa_nil)) (pe_int)))
    (pss_cons (ps_set (i := 3) sc__law_draw.nd rfl (Or.inl rfl) (pe_op op_mod (pe_callTy cr_int rfl T.n_int (by first | decide +kernel | boot_by_name) (pa_cons (pe_op op_add (pe_op op_add (pe_op op_mul (pv 3) (pv 3)) (pe_op op_mul (pe_int) (pe_ix ix_list (pv 0) (pe_int) (fun _ _ => rfl)))) (pe_int)) pa_nil)) (pe_int)))
    (pss_cons (ps_set (i := 3) sc__law_draw.nd rfl (Or.inl rfl) (pe_op op_mod (pe_callTy cr_int rfl T.n_int (by first | decide +kernel | boot_by_name) (pa_cons (pe_op op_add (pe_op op_add (pe_op op_mul (pv 3) (pv 3)) (pe_int)) (pe_ix ix_list (pv 0) (pe_int) (fun _ _ => rfl))) pa_nil)) (pe_int)))
    (pss_one (ps_ret (pe_op op_mod (pe_callTy cr_int rfl T.n_int (by first | decide +kernel | boot_by_name) (pa_cons (pe_op op_fdivW (pv 3) (pe_int)) pa_nil)) (pv 1))))))))))⟩
abbrev N__law_take : List Str := ["pools", "many", "pool"]
theorem sc__law_take : FnScope N__law_take ["pools", "many"] (defScope s__law_take) := ⟨rfl, rfl, rfl, by decide +kernel, rfl, by decide +kernel, by decide +kernel⟩
noncomputable def d__law_take {P : Program} {w : World} {K : PySem.W.Frag} {mg : Str → Option Value} {base : Heap} {f : Addr} {cdv : Value} {A : Around} {outer : List Env} {s : Shared} {H : Hp} {E : XK} (T : Txt P K mg)
    (G__law_draw : FnOk P w K mg base CX0 1 (ga K "_law_draw") (fdOf K "_law_draw") ["pool", "many"] (sp_draw1)) (b__law_draw : Binds K (fdOf K "_law_draw") ["pool", "many"] [])
    (hr : Room 1 (A.deeper (envOfC "_law_take" (defScope s__law_take) s.heap.objs.size f cdv))) :
    { t : TS // PSs (cxOf CX0 P w K mg base N__law_take "_law_take" (defScope s__law_take) f cdv A outer s H E).nox (defBody s__law_take) t } := ⟨_, by exact
    (pss_cons (ps_for PassesOwn.never rfl (pi_list (pv 0)) (pg_name (i := 2) sc__law_take.nd rfl (Or.inl rfl)) (pss_one (ps_if (pt_cmpR op_lt (pe_ix ix_list (pv 2) (pe_int) (fun _ _ => rfl)) (pe_int) (nomark _)) (pss_one (ps_ret (pe_call G__law_draw (hr.mono (by omega)) rfl T.f__law_draw.g T.f__law_draw.f.kp b__law_draw .nil pass0 (pa_cons (pv 2) (pa_cons (pv 1) pa_nil))))) pss_nil)))
    (pss_one (ps_ret (pe_call G__law_draw (hr.mono (by omega)) rfl T.f__law_draw.g T.f__law_draw.f.kp b__law_draw .nil pass0 (pa_cons (pe_ix ix_list (pv 0) (pe_int) (fun _ _ => rfl)) (pa_cons (pv 1) pa_nil))))))⟩
abbrev N__law_same : List Str := ["told", "due", "name", "k"]
theorem sc__law_same : FnScope N__law_same ["told", "due"] (defScope s__law_same) := ⟨rfl, rfl, rfl, by decide +kernel, rfl, by decide +kernel, by decide +kernel⟩
noncomputable def d__law_same {P : Program} {w : World} {K : PySem.W.Frag} {mg : Str → Option Value} {base : Heap} {f : Addr} {cdv : Value} {A : Around} {outer : List Env} {s : Shared} {H : Hp} {E : XK} {n j : Nat} (T : Txt P K mg)
    (G__law_same : FnOk P w K mg base CX0 j (ga K "_law_same") (fdOf K "_law_same") ["told", "due"] (sp_same n)) (b__law_same : Binds K (fdOf K "_law_same") ["told", "due"] [])
    (hr : Room j (A.deeper (envOfC "_law_same" (defScope s__law_same) s.heap.objs.size f cdv))) :
    { t : TS // PSs (cxOf CX0 P w K mg base N__law_same "_law_same" (defScope s__law_same) f cdv A outer s H E).nox (defBody s__law_same) t } := ⟨_, by exact
    (pss_cons (ps_if (pt_cmpR or_isN (pv 1) (pe_non) (nomark _)) (pss_one (ps_ret (pe_cmpR or_isN (pv 0) (pe_non) (nomark _)))) pss_nil)
    (pss_cons (ps_if (pt_cmpR op_isB (pv 1) (pe_bl) (nomark _)) (pss_one (ps_ret (pe_cmpR op_isB (pv 0) (pe_bl) (nomark _)))) pss_nil)
    (pss_cons (ps_if (pt_cmpR op_isB (pv 1) (pe_bl) (nomark _)) (pss_one (ps_ret (pe_cmpR op_isB (pv 0) (pe_bl) (nomark _)))) pss_nil)
    (pss_cons (ps_if (pt_val (pe_callB call_isi rfl T.n_isinstance (by first | decide +kernel | boot_by_name) (pa_cons (pv 1) (pa_cons (pe_bltn (v := .ty "int") rfl T.n_int PyProof.Rows.Boot.«int» rfl) pa_nil)))) (pss_one (ps_ret (pe_and (pe_callB call_isi rfl T.n_isinstance (by first | decide +kernel | boot_by_name) (pa_cons (pv 0) (pa_cons (pe_bltn (v := .ty "int") rfl T.n_int PyProof.Rows.Boot.«int» rfl) pa_nil))) (pe_and (pe_not (pe_callB call_isi rfl T.n_isinstance (by first | decide +kernel | boot_by_name) (pa_cons (pv 0) (pa_cons (pe_bltn (v := .ty "bool") rfl T.n_bool PyProof.Rows.Boot.«bool» rfl) pa_nil)))) (pe_one (pe_cmpR op_eq (pv 0) (pv 1) (nomark _))))))) pss_nil)
    (pss_cons (ps_if (pt_val (pe_callB call_isi rfl T.n_isinstance (by first | decide +kernel | boot_by_name) (pa_cons (pv 1) (pa_cons (pe_bltn (v := .ty "str") rfl T.n_str PyProof.Rows.Boot.«str» rfl) pa_nil)))) (pss_one (ps_ret (pe_and (pe_callB call_isi rfl T.n_isinstance (by first | decide +kernel | boot_by_name) (pa_cons (pv 0) (pa_cons (pe_bltn (v := .ty "str") rfl T.n_str PyProof.Rows.Boot.«str» rfl) pa_nil))) (pe_one (pe_cmpR op_eq (pv 0) (pv 1) (nomark _)))))) pss_nil)
    (pss_cons (ps_if (pt_val (pe_callB call_isi rfl T.n_isinstance (by first | decide +kernel | boot_by_name) (pa_cons (pv 1) (pa_cons (pe_bltn (v := .ty "dict") rfl T.n_dict PyProof.Rows.Boot.«dict» rfl) pa_nil)))) pss_never pss_nil)
    (pss_cons (ps_if (PW.pt (pw_and (pt_val (pe_callB call_isi rfl T.n_isinstance (by first | decide +kernel | boot_by_name) (pa_cons (pv 1) (pa_cons (pe_bltn (v := .ty "list") rfl T.n_list PyProof.Rows.Boot.«list» rfl) pa_nil)))) (pw_and1 (pt_not (pt_val (pe_callB call_isi rfl T.n_isinstance (by first | decide +kernel | boot_by_name) (pa_cons (pv 0) (pa_cons (pe_bltn (v := .ty "list") rfl T.n_list PyProof.Rows.Boot.«list» rfl) pa_nil)))))))) (pss_one (ps_ret (pe_bl))) pss_nil)
    (pss_cons (ps_if (PW.pt (pw_and (pt_val (pe_callB call_isi rfl T.n_isinstance (by first | decide +kernel | boot_by_name) (pa_cons (pv 1) (pa_cons (pe_bltn (v := .ty "tuple") rfl T.n_tuple PyProof.Rows.Boot.«tuple» rfl) pa_nil)))) (pw_and1 (pt_not (pt_val (pe_callB call_isi rfl T.n_isinstance (by first | decide +kernel | boot_by_name) (pa_cons (pv 0) (pa_cons (pe_bltn (v := .ty "tuple") rfl T.n_tuple PyProof.Rows.Boot.«tuple» rfl) pa_nil)))))))) (pss_one (ps_ret (pe_bl))) pss_nil)
    (pss_cons (ps_if (pt_cmpR op_ne (pe_callB cr_len rfl T.n_len (by first | decide +kernel | boot_by_name) (pa_cons (pv 0) pa_nil)) (pe_callB cr_len rfl T.n_len (by first | decide +kernel | boot_by_name) (pa_cons (pv 1) pa_nil)) (nomark _)) (pss_one (ps_ret (pe_bl))) pss_nil)
    (pss_cons (ps_for PassesOwn.never rfl (pi_range1 rfl T.n_range (pa_cons (pe_callB cr_len rfl T.n_len (by first | decide +kernel | boot_by_name) (pa_cons (pv 1) pa_nil)) pa_nil)) (pg_name (i := 3) sc__law_same.nd rfl (Or.inl rfl)) (pss_one (ps_if (pt_not (pt_val (pe_call G__law_same hr rfl T.f__law_same.g T.f__law_same.f.kp b__law_same .nil pass0 (pa_cons (pe_ix ix_seq (pv 0) (pv 3) (fun _ _ => rfl)) (pa_cons (pe_ix ix_seq (pv 1) (pv 3) (fun _ _ => rfl)) pa_nil))))) (pss_one (ps_ret (pe_bl))) pss_nil)))
    (pss_one (ps_ret (pe_bl)))))))))))))⟩
abbrev N__law_wire : List Str := ["pools", "wires"]
theorem sc__law_wire : FnScope N__law_wire ["pools", "wires"] (defScope s__law_wire) := ⟨rfl, rfl, rfl, by decide +kernel, rfl, by decide +kernel, by decide +kernel⟩
noncomputable def d__law_wire {P : Program} {w : World} {K : PySem.W.Frag} {mg : Str → Option Value} {base : Heap} {f : Addr} {cdv : Value} {A : Around} {outer : List Env} {s : Shared} {H : Hp} {E : XK} (T : Txt P K mg)
    (G__law_take : FnOk P w K mg base CX0 2 (ga K "_law_take") (fdOf K "_law_take") ["pools", "many"] (sp_take)) (b__law_take : Binds K (fdOf K "_law_take") ["pools", "many"] [])
    (hr : Room 2 (A.deeper (envOfC "_law_wire" (defScope s__law_wire) s.heap.objs.size f cdv))) :
    { t : TS // PSs (cxOf CX0 P w K mg base N__law_wire "_law_wire" (defScope s__law_wire) f cdv A outer s H E).nox (defBody s__law_wire) t } := ⟨_, by exact
    (pss_one (ps_ret (pe_op op_sub (pe_call G__law_take (hr.mono (by omega)) rfl T.f__law_take.g T.f__law_take.f.kp b__law_take .nil pass0 (pa_cons (pv 0) (pa_cons (pe_op op_add (pv 1) (pe_int)) pa_nil))) (pe_int))))⟩
abbrev N__law_drawn : List Str := ["pools", "free", "count", "many", "gatelist", "j", "table", "one", "ends"]
theorem sc__law_drawn : FnScope N__law_drawn ["pools", "free", "count", "many"] (defScope s__law_drawn) := ⟨rfl, rfl, rfl, by decide +kernel, rfl, by decide +kernel, by decide +kernel⟩
noncomputable def d__law_drawn {P : Program} {w : World} {K : PySem.W.Frag} {mg : Str → Option Value} {base : Heap} {f : Addr} {cdv : Value} {A : Around} {outer : List Env} {s : Shared} {H : Hp} {E : XK} (T : Txt P K mg)
    (G__law_take : FnOk P w K mg base CX0 2 (ga K "_law_take") (fdOf K "_law_take") ["pools", "many"] (sp_take)) (b__law_take : Binds K (fdOf K "_law_take") ["pools", "many"] [])
    (G__law_wire : FnOk P w K mg base CX0 3 (ga K "_law_wire") (fdOf K "_law_wire") ["pools", "wires"] (sp__law_wire)) (b__law_wire : Binds K (fdOf K "_law_wire") ["pools", "wires"] [])
    (hr : Room 3 (A.deeper (envOfC "_law_drawn" (defScope s__law_drawn) s.heap.objs.size f cdv))) :
    { t : TS // PSs (cxOf CX0 P w K mg base N__law_drawn "_law_drawn" (defScope s__law_drawn) f cdv A outer s H E).nox (defBody s__law_drawn) t } := ⟨_, by exact
    (pss_cons (ps_set (i := 4) sc__law_drawn.nd rfl (Or.inl rfl) (pe_lst pa_nil))
    (pss_cons (ps_for PassesOwn.never rfl (pi_range1 rfl T.n_range (pa_cons (pv 2) pa_nil)) (pg_name (i := 5) sc__law_drawn.nd rfl (Or.inl rfl)) (pss_cons (ps_set (i := 6) sc__law_drawn.nd rfl (Or.inl rfl) (pe_call G__law_take (hr.mono (by omega)) rfl T.f__law_take.g T.f__law_take.f.kp b__law_take .nil pass0 (pa_cons (pv 0) (pa_cons (pe_int) pa_nil))))
    (pss_cons (ps_set (i := 7) sc__law_drawn.nd rfl (Or.inl rfl) (pe_call G__law_wire (hr.mono (by omega)) rfl T.f__law_wire.g T.f__law_wire.f.kp b__law_wire .nil pass0 (pa_cons (pv 0) (pa_cons (pe_op op_add (pv 1) (pv 5)) pa_nil))))
    (pss_one (ps_expr (pe_bm PySem.F.plainAttrs_list PySem.F.slot_list_append PySem.F.type_list_append mt_append (pv 4) (pa_cons (pe_tup (pa_cons (pv 6) (pa_cons (pv 7) (pa_cons (pe_call G__law_wire (hr.mono (by omega)) rfl T.f__law_wire.g T.f__law_wire.f.kp b__law_wire .nil pass0 (pa_cons (pv 0) (pa_cons (pe_op op_add (pv 1) (pv 5)) pa_nil))) pa_nil)))) pa_nil)))))))
    (pss_cons (ps_setLc (i := 8) (own := [("j", 5)]) rfl sc__law_drawn.nd rfl rfl (sw_true rfl rfl rfl (by decide +kernel)) (pi_range1 rfl T.n_range (pa_cons (pv 3) pa_nil)) (blkOk_by (own := [("j", 5)]) (N := N__law_drawn) (sc := defScope s__law_drawn) (by decide +kernel)) (fun _ _ _ _ _ => (pg_name (i := 5) sc__law_drawn.nd rfl (Or.inl rfl))) (fun _ _ _ _ _ => pts_nil) (fun _ _ _ _ _ => (pe_call G__law_wire (hr.mono (by omega)) rfl T.f__law_wire.g T.f__law_wire.f.kp b__law_wire .nil pass0 (pa_cons (pv 0) (pa_cons (pe_op op_add (pv 1) (pv 2)) pa_nil)))))
    (pss_one (ps_ret (pe_tup (pa_cons (pv 1) (pa_cons (pe_callTy cr_tupOf rfl T.n_tuple (by first | decide +kernel | boot_by_name) (pa_cons (pv 4) pa_nil)) (pa_cons (pe_callTy cr_tupOf rfl T.n_tuple (by first | decide +kernel | boot_by_name) (pa_cons (pv 8) pa_nil)) pa_nil)))))))))⟩
abbrev N__law_wrong : List Str := ["side", "least", "most", "away"]
theorem sc__law_wrong : FnScope N__law_wrong ["side", "least", "most"] (defScope s__law_wrong) := ⟨rfl, rfl, rfl, by decide +kernel, rfl, by decide +kernel, by decide +kernel⟩
noncomputable def d__law_wrong {P : Program} {w : World} {K : PySem.W.Frag} {mg : Str → Option Value} {base : Heap} {f : Addr} {cdv : Value} {A : Around} {outer : List Env} {s : Shared} {H : Hp} {E : XK} (T : Txt P K mg)
    (G__law_draw : FnOk P w K mg base CX0 1 (ga K "_law_draw") (fdOf K "_law_draw") ["pool", "many"] (sp_draw)) (b__law_draw : Binds K (fdOf K "_law_draw") ["pool", "many"] [])
    (hr : Room 1 (A.deeper (envOfC "_law_wrong" (defScope s__law_wrong) s.heap.objs.size f cdv))) :
    { t : TS // PSs (cxOf CX0 P w K mg base N__law_wrong "_law_wrong" (defScope s__law_wrong) f cdv A outer s H E).nox (defBody s__law_wrong) t } := ⟨_, by exact
    (pss_cons (ps_set (i := 3) sc__law_wrong.nd rfl (Or.inl rfl) (pe_int))
    (pss_cons (ps_if (pt_cmpR op_eq (pe_call G__law_draw (hr.mono (by omega)) rfl T.f__law_draw.g T.f__law_draw.f.kp b__law_draw .nil pass0 (pa_cons (pv 0) (pa_cons (pe_int) pa_nil))) (pe_int) (nomark _)) (pss_one (ps_set (i := 3) sc__law_wrong.nd rfl (Or.inl rfl) (pe_op op_add (pe_int) (pe_call G__law_draw (hr.mono (by omega)) rfl T.f__law_draw.g T.f__law_draw.f.kp b__law_draw .nil pass0 (pa_cons (pv 0) (pa_cons (pe_op op_pow (pe_int) (pe_int)) pa_nil)))))) pss_nil)
    (pss_cons (ps_if (pt_cmpR op_eq (pe_call G__law_draw (hr.mono (by omega)) rfl T.f__law_draw.g T.f__law_draw.f.kp b__law_draw .nil pass0 (pa_cons (pv 0) (pa_cons (pe_int) pa_nil))) (pe_int) (nomark _)) (pss_one (ps_ret (pe_op op_sub (pv 1) (pv 3)))) pss_nil)
    (pss_one (ps_ret (pe_op op_add (pv 2) (pv 3)))))))⟩
abbrev N__law_bent : List Str := ["side", "circuit", "times", "gatelist", "ends", "places", "k", "at", "gate", "part", "due"]
theorem sc__law_bent : FnScope N__law_bent ["side", "circuit", "times"] (defScope s__law_bent) := ⟨rfl, rfl, rfl, by decide +kernel, rfl, by decide +kernel, by decide +kernel⟩
noncomputable def d__law_bent {P : Program} {w : World} {K : PySem.W.Frag} {mg : Str → Option Value} {base : Heap} {f : Addr} {cdv : Value} {A : Around} {outer : List Env} {s : Shared} {H : Hp} {E : XK} (T : Txt P K mg)
    (G__law_draw : FnOk P w K mg base CX0 1 (ga K "_law_draw") (fdOf K "_law_draw") ["pool", "many"] (sp_draw)) (b__law_draw : Binds K (fdOf K "_law_draw") ["pool", "many"] [])
    (G__law_wrong : FnOk P w K mg base CX0 2 (ga K "_law_wrong") (fdOf K "_law_wrong") ["side", "least", "most"] (sp__law_wrong)) (b__law_wrong : Binds K (fdOf K "_law_wrong") ["side", "least", "most"] [])
    (hr : Room 2 (A.deeper (envOfC "_law_bent" (defScope s__law_bent) s.heap.objs.size f cdv))) :
    { t : TS // PSs (cxOf CX0 P w K mg base N__law_bent "_law_bent" (defScope s__law_bent) f cdv A outer s H E).nox (defBody s__law_bent) t } := ⟨_, by exact
    (pss_cons (ps_set (i := 3) sc__law_bent.nd rfl (Or.inl rfl) (pe_callTy cr_listOf rfl T.n_list (by first | decide +kernel | boot_by_name) (pa_cons (pe_ix ix_tup (pv 1) (pe_int) (fun _ _ => rfl)) pa_nil)))
    (pss_cons (ps_set (i := 4) sc__law_bent.nd rfl (Or.inl rfl) (pe_callTy cr_listOf rfl T.n_list (by first | decide +kernel | boot_by_name) (pa_cons (pe_ix ix_tup (pv 1) (pe_int) (fun _ _ => rfl)) pa_nil)))
    (pss_cons (ps_set (i := 5) sc__law_bent.nd rfl (Or.inl rfl) (pe_lst pa_nil))
    (pss_cons (ps_for PassesOwn.never rfl (pi_range1 rfl T.n_range (pa_cons (pv 2) pa_nil)) (pg_name (i := 6) sc__law_bent.nd rfl (Or.inl rfl)) (pss_one (ps_if (pt_cmpR op_gt (pe_op op_add (pe_callB cr_len rfl T.n_len (by first | decide +kernel | boot_by_name) (pa_cons (pv 3) pa_nil)) (pe_callB cr_len rfl T.n_len (by first | decide +kernel | boot_by_name) (pa_cons (pv 4) pa_nil))) (pe_int) (nomark _)) (pss_cons (ps_set (i := 7) sc__law_bent.nd rfl (Or.inl rfl) (pe_call G__law_draw (hr.mono (by omega)) rfl T.f__law_draw.g T.f__law_draw.f.kp b__law_draw .nil pass0 (pa_cons (pv 0) (pa_cons (pe_op op_add (pe_callB cr_len rfl T.n_len (by first | decide +kernel | boot_by_name) (pa_cons (pv 3) pa_nil)) (pe_callB cr_len rfl T.n_len (by first | decide +kernel | boot_by_name) (pa_cons (pv 4) pa_nil))) pa_nil))))
    (pss_cons (ps_expr (pe_bm PySem.F.plainAttrs_list PySem.F.slot_list_append PySem.F.type_list_append mt_append (pv 5) (pa_cons (pv 7) pa_nil)))
    (pss_one (ps_if (pt_cmpR op_lt (pv 7) (pe_callB cr_len rfl T.n_len (by first | decide +kernel | boot_by_name) (pa_cons (pv 3) pa_nil)) (nomark _)) (pss_cons (ps_set (i := 8) sc__law_bent.nd rfl (Or.inl rfl) (pe_callTy cr_listOf rfl T.n_list (by first | decide +kernel | boot_by_name) (pa_cons (pe_ix ix_list (pv 3) (pv 7) (fun _ _ => rfl)) pa_nil)))
    (pss_cons (ps_set (i := 9) sc__law_bent.nd rfl (Or.inl rfl) (pe_call G__law_draw (hr.mono (by omega)) rfl T.f__law_draw.g T.f__law_draw.f.kp b__law_draw .nil pass0 (pa_cons (pv 0) (pa_cons (pe_int) pa_nil))))
    (pss_cons (ps_if (pt_cmpR op_eq (pv 9) (pe_int) (nomark _)) (pss_one (ps_asg (pe_call G__law_wrong (hr.mono (by omega)) rfl T.f__law_wrong.g T.f__law_wrong.f.kp b__law_wrong .nil pass0 (pa_cons (pv 0) (pa_cons (pe_int) (pa_cons (pe_int) pa_nil)))) (pg_sub (pv 8) (pe_int) set_list))) (pss_one (ps_asg (pe_call G__law_wrong (hr.mono (by omega)) rfl T.f__law_wrong.g T.f__law_wrong.f.kp b__law_wrong .nil pass0 (pa_cons (pv 0) (pa_cons (pe_un un_neg (pe_int)) (pa_cons (pe_op op_sub (pe_op op_add (pe_ix ix_tup (pv 1) (pe_int) (fun _ _ => rfl)) (pv 7)) (pe_int)) pa_nil)))) (pg_sub (pv 8) (pv 9) set_list))))
    (pss_one (ps_asg (pe_callTy cr_tupOf rfl T.n_tuple (by first | decide +kernel | boot_by_name) (pa_cons (pv 8) pa_nil)) (pg_sub (pv 3) (pv 7) set_list)))))) (pss_cons (ps_set (i := 7) sc__law_bent.nd rfl (Or.inl rfl) (pe_op op_sub (pv 7) (pe_callB cr_len rfl T.n_len (by first | decide +kernel | boot_by_name) (pa_cons (pv 3) pa_nil))))
    (pss_one (ps_asg (pe_call G__law_wrong (hr.mono (by omega)) rfl T.f__law_wrong.g T.f__law_wrong.f.kp b__law_wrong .nil pass0 (pa_cons (pv 0) (pa_cons (pe_un un_neg (pe_int)) (pa_cons (pe_op op_sub (pe_op op_add (pe_ix ix_tup (pv 1) (pe_int) (fun _ _ => rfl)) (pe_callB cr_len rfl T.n_len (by first | decide +kernel | boot_by_name) (pa_cons (pv 3) pa_nil))) (pe_int)) pa_nil)))) (pg_sub (pv 4) (pv 7) set_list)))))))) pss_nil)))
    (pss_cons (ps_set (i := 10) sc__law_bent.nd rfl (Or.inl rfl) (pe_tup (pa_cons (pe_str) (pa_cons (pe_non) pa_nil))))
    (pss_cons (ps_if (pt_cmpR op_gt (pe_callB cr_len rfl T.n_len (by first | decide +kernel | boot_by_name) (pa_cons (pv 5) pa_nil)) (pe_int) (nomark _)) (pss_one (ps_set (i := 10) sc__law_bent.nd rfl (Or.inl rfl) (pe_tup (pa_cons (pe_str) (pa_cons (pe_callB (cr_min rfl) rfl T.n_min (by first | decide +kernel | boot_by_name) (pa_cons (pv 5) pa_nil)) pa_nil))))) pss_nil)
    (pss_one (ps_ret (pe_lst (pa_cons (pe_tup (pa_cons (pe_ix ix_tup (pv 1) (pe_int) (fun _ _ => rfl)) (pa_cons (pe_callTy cr_tupOf rfl T.n_tuple (by first | decide +kernel | boot_by_name) (pa_cons (pv 3) pa_nil)) (pa_cons (pe_callTy cr_tupOf rfl T.n_tuple (by first | decide +kernel | boot_by_name) (pa_cons (pv 4) pa_nil)) pa_nil)))) (pa_cons (pv 10) pa_nil)))))))))))⟩
abbrev N__law_near : List Str := ["pools", "free", "count", "many", "gatelist", "j", "table", "one", "ends"]
theorem sc__law_near : FnScope N__law_near ["pools", "free", "count", "many"] (defScope s__law_near) := ⟨rfl, rfl, rfl, by decide +kernel, rfl, by decide +kernel, by decide +kernel⟩
noncomputable def d__law_near {P : Program} {w : World} {K : PySem.W.Frag} {mg : Str → Option Value} {base : Heap} {f : Addr} {cdv : Value} {A : Around} {outer : List Env} {s : Shared} {H : Hp} {E : XK} (T : Txt P K mg)
    (G__law_take : FnOk P w K mg base CX0 2 (ga K "_law_take") (fdOf K "_law_take") ["pools", "many"] (sp_take)) (b__law_take : Binds K (fdOf K "_law_take") ["pools", "many"] [])
    (hr : Room 2 (A.deeper (envOfC "_law_near" (defScope s__law_near) s.heap.objs.size f cdv))) :
    { t : TS // PSs (cxOf CX0 P w K mg base N__law_near "_law_near" (defScope s__law_near) f cdv A outer s H E).nox (defBody s__law_near) t } := ⟨_, by exact
    (pss_cons (ps_set (i := 4) sc__law_near.nd rfl (Or.inl rfl) (pe_lst pa_nil))
    (pss_cons (ps_for PassesOwn.never rfl (pi_range1 rfl T.n_range (pa_cons (pv 2) pa_nil)) (pg_name (i := 5) sc__law_near.nd rfl (Or.inl rfl)) (pss_cons (ps_set (i := 6) sc__law_near.nd rfl (Or.inl rfl) (pe_op op_sub (pe_call G__law_take (hr.mono (by omega)) rfl T.f__law_take.g T.f__law_take.f.kp b__law_take .nil pass0 (pa_cons (pv 0) (pa_cons (pe_int) pa_nil))) (pe_int)))
    (pss_cons (ps_set (i := 7) sc__law_near.nd rfl (Or.inl rfl) (pe_op op_sub (pe_call G__law_take (hr.mono (by omega)) rfl T.f__law_take.g T.f__law_take.f.kp b__law_take .nil pass0 (pa_cons (pv 0) (pa_cons (pe_op op_add (pe_op op_add (pv 1) (pv 5)) (pe_int)) pa_nil))) (pe_int)))
    (pss_one (ps_expr (pe_bm PySem.F.plainAttrs_list PySem.F.slot_list_append PySem.F.type_list_append mt_append (pv 4) (pa_cons (pe_tup (pa_cons (pv 6) (pa_cons (pv 7) (pa_cons (pe_op op_sub (pe_call G__law_take (hr.mono (by omega)) rfl T.f__law_take.g T.f__law_take.f.kp b__law_take .nil pass0 (pa_cons (pv 0) (pa_cons (pe_op op_add (pe_op op_add (pv 1) (pv 5)) (pe_int)) pa_nil))) (pe_int)) pa_nil)))) pa_nil)))))))
    (pss_cons (ps_setLc (i := 8) (own := [("j", 5)]) rfl sc__law_near.nd rfl rfl (sw_true rfl rfl rfl (by decide +kernel)) (pi_range1 rfl T.n_range (pa_cons (pv 3) pa_nil)) (blkOk_by (own := [("j", 5)]) (N := N__law_near) (sc := defScope s__law_near) (by decide +kernel)) (fun _ _ _ _ _ => (pg_name (i := 5) sc__law_near.nd rfl (Or.inl rfl))) (fun _ _ _ _ _ => pts_nil) (fun _ _ _ _ _ => (pe_op op_sub (pe_call G__law_take (hr.mono (by omega)) rfl T.f__law_take.g T.f__law_take.f.kp b__law_take .nil pass0 (pa_cons (pv 0) (pa_cons (pe_op op_add (pe_op op_add (pv 1) (pv 2)) (pe_int)) pa_nil))) (pe_int))))
    (pss_one (ps_ret (pe_tup (pa_cons (pv 1) (pa_cons (pe_callTy cr_tupOf rfl T.n_tuple (by first | decide +kernel | boot_by_name) (pa_cons (pv 4) pa_nil)) (pa_cons (pe_callTy cr_tupOf rfl T.n_tuple (by first | decide +kernel | boot_by_name) (pa_cons (pv 8) pa_nil)) pa_nil)))))))))⟩
abbrev N__law_due : List Str := ["circuit", "wires", "gate", "j"]
theorem sc__law_due : FnScope N__law_due ["circuit"] (defScope s__law_due) := ⟨rfl, rfl, rfl, by decide +kernel, rfl, by decide +kernel, by decide +kernel⟩
noncomputable def d__law_due {P : Program} {w : World} {K : PySem.W.Frag} {mg : Str → Option Value} {base : Heap} {f : Addr} {cdv : Value} {A : Around} {outer : List Env} {s : Shared} {H : Hp} {E : XK} (T : Txt P K mg)
    (hr : Room 0 (A.deeper (envOfC "_law_due" (defScope s__law_due) s.heap.objs.size f cdv))) :
    { t : TS // PSs (cxOf CX0 P w K mg base N__law_due "_law_due" (defScope s__law_due) f cdv A outer s H E).nox (defBody s__law_due) t } := ⟨_, by exact
    (pss_cons (ps_set (i := 1) sc__law_due.nd rfl (Or.inl rfl) (pe_ix ix_tup (pv 0) (pe_int) (fun _ _ => rfl)))
    (pss_cons (ps_for PassesOwn.never rfl (pi_tup (pe_ix ix_tup (pv 0) (pe_int) (fun _ _ => rfl))) (pg_name (i := 2) sc__law_due.nd rfl (Or.inl rfl)) (pss_cons (ps_if (PW.pt (pw_or (pt_cmpR op_notInR (pe_ix ix_tup (pv 2) (pe_int) (fun _ _ => rfl)) (pe_callTy cr_rng1 rfl T.n_range (by first | decide +kernel | boot_by_name) (pa_cons (pe_int) pa_nil)) rfl) (pw_or (pt_cmpR op_lt (pe_callB (cr_minT rfl) rfl T.n_min (by first | decide +kernel | boot_by_name) (pa_cons (pe_slice sl_tupA (pv 2) (po_some (pe_int)) po_none) pa_nil)) (pe_un un_neg (pe_int)) (nomark _)) (pw_or1 (pt_cmpR op_ge (pe_callB (cr_maxT rfl) rfl T.n_max (by first | decide +kernel | boot_by_name) (pa_cons (pe_slice sl_tupA (pv 2) (po_some (pe_int)) po_none) pa_nil)) (pv 1) (nomark _)))))) (pss_one (ps_ret (pe_tup (pa_cons (pe_str) (pa_cons (pe_op op_sub (pv 1) (pe_ix ix_tup (pv 0) (pe_int) (fun _ _ => rfl))) pa_nil))))) pss_nil)
    (pss_one (ps_set (i := 1) sc__law_due.nd rfl (Or.inl rfl) (pe_op op_add (pv 1) (pe_int))))))
    (pss_cons (ps_for PassesOwn.never rfl (pi_range1 rfl T.n_range (pa_cons (pe_callB cr_len rfl T.n_len (by first | decide +kernel | boot_by_name) (pa_cons (pe_ix ix_tup (pv 0) (pe_int) (fun _ _ => rfl)) pa_nil)) pa_nil)) (pg_name (i := 3) sc__law_due.nd rfl (Or.inl rfl)) (pss_one (ps_if (pt_cmpR op_notInR (pe_ix ix_tup (pe_ix ix_tup (pv 0) (pe_int) (fun _ _ => rfl)) (pv 3) (fun _ _ => rfl)) (pe_callTy cr_rng2 rfl T.n_range (by first | decide +kernel | boot_by_name) (pa_cons (pe_un un_neg (pe_int)) (pa_cons (pv 1) pa_nil))) rfl) (pss_one (ps_ret (pe_tup (pa_cons (pe_str) (pa_cons (pe_op op_add (pe_callB cr_len rfl T.n_len (by first | decide +kernel | boot_by_name) (pa_cons (pe_ix ix_tup (pv 0) (pe_int) (fun _ _ => rfl)) pa_nil)) (pv 3)) pa_nil))))) pss_nil)))
    (pss_one (ps_ret (pe_tup (pa_cons (pe_str) (pa_cons (pe_non) pa_nil))))))))⟩
abbrev N__law_sized : List Str := ["side", "circuit", "bent", "kind", "idle", "free", "ends", "many", "at", "due", "count", "gatelist"]
theorem sc__law_sized : FnScope N__law_sized ["side", "circuit", "bent"] (defScope s__law_sized) := ⟨rfl, rfl, rfl, by decide +kernel, rfl, by decide +kernel, by decide +kernel⟩
noncomputable def d__law_sized {P : Program} {w : World} {K : PySem.W.Frag} {mg : Str → Option Value} {base : Heap} {f : Addr} {cdv : Value} {A : Around} {outer : List Env} {s : Shared} {H : Hp} {E : XK} (T : Txt P K mg)
    (G__law_draw : FnOk P w K mg base CX0 1 (ga K "_law_draw") (fdOf K "_law_draw") ["pool", "many"] (sp_draw)) (b__law_draw : Binds K (fdOf K "_law_draw") ["pool", "many"] [])
    (G__law_wrong : FnOk P w K mg base CX0 2 (ga K "_law_wrong") (fdOf K "_law_wrong") ["side", "least", "most"] (sp__law_wrong)) (b__law_wrong : Binds K (fdOf K "_law_wrong") ["side", "least", "most"] [])
    (hr : Room 2 (A.deeper (envOfC "_law_sized" (defScope s__law_sized) s.heap.objs.size f cdv))) :
    { t : TS // PSs (cxOf CX0 P w K mg base N__law_sized "_law_sized" (defScope s__law_sized) f cdv A outer s H E).nox (defBody s__law_sized) t } := ⟨_, by exact
    (pss_cons (ps_set (i := 3) sc__law_sized.nd rfl (Or.inl rfl) (pe_call G__law_draw (hr.mono (by omega)) rfl T.f__law_draw.g T.f__law_draw.f.kp b__law_draw .nil pass0 (pa_cons (pv 0) (pa_cons (pe_int) pa_nil))))
    (pss_cons (ps_set (i := 4) sc__law_sized.nd rfl (Or.inl rfl) (pe_tup (pa_cons (pe_int) (pa_cons (pe_un un_neg (pe_int)) (pa_cons (pe_un un_neg (pe_int)) pa_nil)))))
    (pss_cons (ps_if (pt_cmpR op_eq (pv 3) (pe_int) (nomark _)) (pss_one (ps_ret (pe_lst (pa_cons (pe_tup (pa_cons (pe_int) (pa_cons (pe_ix ix_tup (pv 1) (pe_int) (fun _ _ => rfl)) (pa_cons (pe_ix ix_tup (pv 1) (pe_int) (fun _ _ => rfl)) pa_nil)))) (pa_cons (pe_tup (pa_cons (pe_str) (pa_cons (pe_non) pa_nil))) pa_nil))))) pss_nil)
    (pss_cons (ps_if (PW.pt (pw_or (pt_cmpR op_eq (pv 3) (pe_int) (nomark _)) (pw_or1 (pt_cmpR op_eq (pv 3) (pe_int) (nomark _))))) (pss_cons (ps_set (i := 5) sc__law_sized.nd rfl (Or.inl rfl) (pe_call G__law_wrong (hr.mono (by omega)) rfl T.f__law_wrong.g T.f__law_wrong.f.kp b__law_wrong .nil pass0 (pa_cons (pv 0) (pa_cons (pe_int) (pa_cons (pe_int) pa_nil)))))
    (pss_cons (ps_set (i := 6) sc__law_sized.nd rfl (Or.inl rfl) (pe_op op_catA (pe_ix ix_tup (pv 2) (pe_int) (fun _ _ => rfl)) (pe_op op_repTF (pe_tup (pa_cons (pe_un un_neg (pe_int)) pa_nil)) (pe_op op_mul (pe_int) (pe_op op_sub (pv 3) (pe_int))))))
    (pss_one (ps_ret (pe_lst (pa_cons (pe_tup (pa_cons (pv 5) (pa_cons (pe_ix ix_tup (pv 2) (pe_int) (fun _ _ => rfl)) (pa_cons (pv 6) pa_nil)))) (pa_cons (pe_tup (pa_cons (pe_str) (pa_cons (pv 5) pa_nil))) pa_nil))))))) pss_nil)
    (pss_cons (ps_if (pt_cmpR op_eq (pv 3) (pe_int) (nomark _)) (pss_cons (ps_set (i := 7) sc__law_sized.nd rfl (Or.inl rfl) (pe_op op_add (pe_int) (pe_call G__law_draw (hr.mono (by omega)) rfl T.f__law_draw.g T.f__law_draw.f.kp b__law_draw .nil pass0 (pa_cons (pv 0) (pa_cons (pe_int) pa_nil)))))
    (pss_one (ps_ret (pe_lst (pa_cons (pe_tup (pa_cons (pe_ix ix_tup (pv 2) (pe_int) (fun _ _ => rfl)) (pa_cons (pe_ix ix_tup (pv 2) (pe_int) (fun _ _ => rfl)) (pa_cons (pe_op op_repTF (pe_tup (pa_cons (pe_un un_neg (pe_int)) pa_nil)) (pv 7)) pa_nil)))) (pa_cons (pe_tup (pa_cons (pe_str) (pa_cons (pv 7) pa_nil))) pa_nil)))))) pss_nil)
    (pss_cons (ps_if (PW.pt (pw_or (pt_cmpR op_eq (pv 3) (pe_int) (nomark _)) (pw_or1 (pt_cmpR op_eq (pv 3) (pe_int) (nomark _))))) (pss_cons (ps_set (i := 6) sc__law_sized.nd rfl (Or.inl rfl) (pe_op op_rep (pe_lst (pa_cons (pe_un un_neg (pe_int)) pa_nil)) (pe_int)))
    (pss_cons (ps_set (i := 8) sc__law_sized.nd rfl (Or.inl rfl) (pe_call G__law_draw (hr.mono (by omega)) rfl T.f__law_draw.g T.f__law_draw.f.kp b__law_draw .nil pass0 (pa_cons (pv 0) (pa_cons (pe_int) pa_nil))))
    (pss_cons (ps_set (i := 9) sc__law_sized.nd rfl (Or.inl rfl) (pe_tup (pa_cons (pe_str) (pa_cons (pe_non) pa_nil))))
    (pss_cons (ps_if (pt_cmpR op_eq (pv 3) (pe_int) (nomark _)) (pss_cons (ps_asg (pe_call G__law_wrong (hr.mono (by omega)) rfl T.f__law_wrong.g T.f__law_wrong.f.kp b__law_wrong .nil pass0 (pa_cons (pv 0) (pa_cons (pe_un un_neg (pe_int)) (pa_cons (pe_op op_sub (pe_op op_add (pe_ix ix_tup (pv 1) (pe_int) (fun _ _ => rfl)) (pe_callB cr_len rfl T.n_len (by first | decide +kernel | boot_by_name) (pa_cons (pe_ix ix_tup (pv 1) (pe_int) (fun _ _ => rfl)) pa_nil))) (pe_int)) pa_nil)))) (pg_sub (pv 6) (pv 8) set_list))
    (pss_one (ps_set (i := 9) sc__law_sized.nd rfl (Or.inl rfl) (pe_tup (pa_cons (pe_str) (pa_cons (pe_op op_add (pe_callB cr_len rfl T.n_len (by first | decide +kernel | boot_by_name) (pa_cons (pe_ix ix_tup (pv 1) (pe_int) (fun _ _ => rfl)) pa_nil)) (pv 8)) pa_nil)))))) pss_nil)
    (pss_one (ps_ret (pe_lst (pa_cons (pe_tup (pa_cons (pe_ix ix_tup (pv 1) (pe_int) (fun _ _ => rfl)) (pa_cons (pe_ix ix_tup (pv 1) (pe_int) (fun _ _ => rfl)) (pa_cons (pe_callTy cr_tupOf rfl T.n_tuple (by first | decide +kernel | boot_by_name) (pa_cons (pv 6) pa_nil)) pa_nil)))) (pa_cons (pv 9) pa_nil))))))))) pss_nil)
    (pss_cons (ps_if (pt_cmpR op_eq (pv 3) (pe_int) (nomark _)) (pss_cons (ps_set (i := 10) sc__law_sized.nd rfl (Or.inl rfl) (pe_op op_add (pe_int) (pe_call G__law_draw (hr.mono (by omega)) rfl T.f__law_draw.g T.f__law_draw.f.kp b__law_draw .nil pass0 (pa_cons (pv 0) (pa_cons (pe_int) pa_nil)))))
    (pss_one (ps_ret (pe_lst (pa_cons (pe_tup (pa_cons (pe_ix ix_tup (pv 1) (pe_int) (fun _ _ => rfl)) (pa_cons (pe_op op_repTF (pe_tup (pa_cons (pv 4) pa_nil)) (pv 10)) (pa_cons (pe_op op_catA (pe_ix ix_tup (pv 2) (pe_int) (fun _ _ => rfl)) (pe_op op_repTF (pe_tup (pa_cons (pe_un un_neg (pe_int)) pa_nil)) (pe_op op_mul (pe_int) (pe_call G__law_draw (hr.mono (by omega)) rfl T.f__law_draw.g T.f__law_draw.f.kp b__law_draw .nil pass0 (pa_cons (pv 0) (pa_cons (pe_int) pa_nil)))))) pa_nil)))) (pa_cons (pe_tup (pa_cons (pe_str) (pa_cons (pv 10) pa_nil))) pa_nil)))))) pss_nil)
    (pss_cons (ps_set (i := 11) sc__law_sized.nd rfl (Or.inl rfl) (pe_op op_rep (pe_lst (pa_cons (pv 4) pa_nil)) (pe_int)))
    (pss_cons (ps_set (i := 9) sc__law_sized.nd rfl (Or.inl rfl) (pe_tup (pa_cons (pe_str) (pa_cons (pe_non) pa_nil))))
    (pss_cons (ps_if (pt_cmpR op_eq (pe_call G__law_draw (hr.mono (by omega)) rfl T.f__law_draw.g T.f__law_draw.f.kp b__law_draw .nil pass0 (pa_cons (pv 0) (pa_cons (pe_int) pa_nil))) (pe_int) (nomark _)) (pss_cons (ps_set (i := 8) sc__law_sized.nd rfl (Or.inl rfl) (pe_call G__law_draw (hr.mono (by omega)) rfl T.f__law_draw.g T.f__law_draw.f.kp b__law_draw .nil pass0 (pa_cons (pv 0) (pa_cons (pe_int) pa_nil))))
    (pss_cons (ps_asg (pe_tup (pa_cons (pe_int) (pa_cons (pe_un un_neg (pe_int)) (pa_cons (pe_op op_add (pe_ix ix_tup (pv 1) (pe_int) (fun _ _ => rfl)) (pv 8)) pa_nil)))) (pg_sub (pv 11) (pv 8) set_list))
    (pss_one (ps_set (i := 9) sc__law_sized.nd rfl (Or.inl rfl) (pe_tup (pa_cons (pe_str) (pa_cons (pv 8) pa_nil))))))) pss_nil)
    (pss_one (ps_ret (pe_lst (pa_cons (pe_tup (pa_cons (pe_ix ix_tup (pv 1) (pe_int) (fun _ _ => rfl)) (pa_cons (pe_callTy cr_tupOf rfl T.n_tuple (by first | decide +kernel | boot_by_name) (pa_cons (pv 11) pa_nil)) (pa_cons (pe_ix ix_tup (pv 1) (pe_int) (fun _ _ => rfl)) pa_nil)))) (pa_cons (pv 9) pa_nil)))))))))))))))⟩
abbrev N__law_beyond : List Str := ["side", "circuit", "flags", "free", "gatelist", "ends", "sizes"]
theorem sc__law_beyond : FnScope N__law_beyond ["side", "circuit"] (defScope s__law_beyond) := ⟨rfl, rfl, rfl, by decide +kernel, rfl, by decide +kernel, by decide +kernel⟩
noncomputable def d__law_beyond {P : Program} {w : World} {K : PySem.W.Frag} {mg : Str → Option Value} {base : Heap} {f : Addr} {cdv : Value} {A : Around} {outer : List Env} {s : Shared} {H : Hp} {E : XK} (T : Txt P K mg)
    (G__law_draw : FnOk P w K mg base CX0 1 (ga K "_law_draw") (fdOf K "_law_draw") ["pool", "many"] (sp_draw)) (b__law_draw : Binds K (fdOf K "_law_draw") ["pool", "many"] [])
    (G__law_wrong : FnOk P w K mg base CX0 2 (ga K "_law_wrong") (fdOf K "_law_wrong") ["side", "least", "most"] (sp__law_wrong)) (b__law_wrong : Binds K (fdOf K "_law_wrong") ["side", "least", "most"] [])
    (hr : Room 2 (A.deeper (envOfC "_law_beyond" (defScope s__law_beyond) s.heap.objs.size f cdv))) :
    { t : TS // PSs (cxOf CX0 P w K mg base N__law_beyond "_law_beyond" (defScope s__law_beyond) f cdv A outer s H E).nox (defBody s__law_beyond) t } := ⟨_, by exact
    (pss_cons (ps_set (i := 2) sc__law_beyond.nd rfl (Or.inl rfl) (pe_op op_add (pe_int) (pe_call G__law_draw (hr.mono (by omega)) rfl T.f__law_draw.g T.f__law_draw.f.kp b__law_draw .nil pass0 (pa_cons (pv 0) (pa_cons (pe_int) pa_nil)))))
    (pss_cons (ps_set (i := 3) sc__law_beyond.nd rfl (Or.inl rfl) (pe_ix ix_tup (pv 1) (pe_int) (fun _ _ => rfl)))
    (pss_cons (ps_set (i := 4) sc__law_beyond.nd rfl (Or.inl rfl) (pe_ix ix_tup (pv 1) (pe_int) (fun _ _ => rfl)))
    (pss_cons (ps_set (i := 5) sc__law_beyond.nd rfl (Or.inl rfl) (pe_ix ix_tup (pv 1) (pe_int) (fun _ _ => rfl)))
    (pss_cons (ps_set (i := 6) sc__law_beyond.nd rfl (Or.inl rfl) (pe_lst pa_nil))
    (pss_cons (ps_if (pt_cmpR op_gt (pe_op op_and (pv 2) (pe_int)) (pe_int) (nomark _)) (pss_cons (ps_set (i := 3) sc__law_beyond.nd rfl (Or.inl rfl) (pe_call G__law_wrong (hr.mono (by omega)) rfl T.f__law_wrong.g T.f__law_wrong.f.kp b__law_wrong .nil pass0 (pa_cons (pv 0) (pa_cons (pe_int) (pa_cons (pe_int) pa_nil)))))
    (pss_one (ps_expr (pe_bm PySem.F.plainAttrs_list PySem.F.slot_list_append PySem.F.type_list_append mt_append (pv 6) (pa_cons (pv 3) pa_nil))))) pss_nil)
    (pss_cons (ps_if (pt_cmpR op_gt (pe_op op_and (pv 2) (pe_int)) (pe_int) (nomark _)) (pss_cons (ps_set (i := 4) sc__law_beyond.nd rfl (Or.inl rfl) (pe_op op_catA (pv 4) (pe_op op_repTF (pe_tup (pa_cons (pe_tup (pa_cons (pe_int) (pa_cons (pe_un un_neg (pe_int)) (pa_cons (pe_un un_neg (pe_int)) pa_nil)))) pa_nil)) (pe_op op_sub (pe_op op_add (pe_int) (pe_call G__law_draw (hr.mono (by omega)) rfl T.f__law_draw.g T.f__law_draw.f.kp b__law_draw .nil pass0 (pa_cons (pv 0) (pa_cons (pe_int) pa_nil)))) (pe_callB cr_len rfl T.n_len (by first | decide +kernel | boot_by_name) (pa_cons (pv 4) pa_nil))))))
    (pss_one (ps_expr (pe_bm PySem.F.plainAttrs_list PySem.F.slot_list_append PySem.F.type_list_append mt_append (pv 6) (pa_cons (pe_callB cr_len rfl T.n_len (by first | decide +kernel | boot_by_name) (pa_cons (pv 4) pa_nil)) pa_nil))))) pss_nil)
    (pss_cons (ps_if (pt_cmpR op_gt (pe_op op_and (pv 2) (pe_int)) (pe_int) (nomark _)) (pss_cons (ps_set (i := 5) sc__law_beyond.nd rfl (Or.inl rfl) (pe_op op_catA (pv 5) (pe_op op_repTF (pe_tup (pa_cons (pe_un un_neg (pe_int)) pa_nil)) (pe_op op_sub (pe_op op_add (pe_int) (pe_call G__law_draw (hr.mono (by omega)) rfl T.f__law_draw.g T.f__law_draw.f.kp b__law_draw .nil pass0 (pa_cons (pv 0) (pa_cons (pe_int) pa_nil)))) (pe_callB cr_len rfl T.n_len (by first | decide +kernel | boot_by_name) (pa_cons (pv 5) pa_nil))))))
    (pss_one (ps_expr (pe_bm PySem.F.plainAttrs_list PySem.F.slot_list_append PySem.F.type_list_append mt_append (pv 6) (pa_cons (pe_callB cr_len rfl T.n_len (by first | decide +kernel | boot_by_name) (pa_cons (pv 5) pa_nil)) pa_nil))))) pss_nil)
    (pss_one (ps_ret (pe_lst (pa_cons (pe_tup (pa_cons (pv 3) (pa_cons (pv 4) (pa_cons (pv 5) pa_nil)))) (pa_cons (pe_tup (pa_cons (pe_str) (pa_cons (pe_ix ix_list (pv 6) (pe_int) (fun _ _ => rfl)) pa_nil))) pa_nil)))))))))))))⟩
abbrev N__law_told : List Str := ["circuit", "got", "e"]
theorem sc__law_told : FnScope N__law_told ["circuit"] (defScope s__law_told) := ⟨rfl, rfl, rfl, by decide +kernel, rfl, by decide +kernel, by decide +kernel⟩
noncomputable def d__law_told {P : Program} {w : World} {K : PySem.W.Frag} {mg : Str → Option Value} {base : Heap} {f : Addr} {cdv : Value} {A : Around} {outer : List Env} {s : Shared} {H : Hp} {E : XK} (T : Txt P K mg)
    (G_check_circuit : FnOk P w K mg base (L2.CX P w) 3 (ga K "check_circuit") (fdOf K "check_circuit") ["circuit"] (sp_check_circuit K)) (b_check_circuit : Binds K (fdOf K "check_circuit") ["circuit"] [])
    (hr : Room 3 (A.deeper (envOfC "_law_told" (defScope s__law_told) s.heap.objs.size f cdv))) :
    { t : TS // PSs (cxOf CX0 P w K mg base N__law_told "_law_told" (defScope s__law_told) f cdv A outer s H E).nox (defBody s__law_told) t } := ⟨_, by exact
    (pss_cons (ps_set (i := 1) sc__law_told.nd rfl (Or.inl rfl) (pe_tup (pa_cons (pe_str) (pa_cons (pe_int) pa_nil))))
    (pss_cons (ps_try_all (Wout := fun _ _ _ _ => False) rfl rfl sc__law_told.nd takes0 (fun W pn xe tk xo => (pss_one (ps_set (i := 1) sc__law_told.nd rfl (Or.inl rfl) (pe_tup (pa_cons (pe_str) (pa_cons (pe_callS G_check_circuit (hr.mono (by omega)) rfl T.f_check_circuit.g T.f_check_circuit.f.kp b_check_circuit (fun σ => passAt tk σ) (pa_cons (pv 0) pa_nil)) pa_nil)))))) (HdsA.as (i := 2) rfl rfl ⟨rfl, by decide, Or.inl T.g_SizeError⟩ (fun a oe cls d pn hz hf => (pss_one (ps_set (i := 1) sc__law_told.nd rfl (Or.inl rfl) (pe_tup (pa_cons (pe_str) (pa_cons (pe_xf T.x_SizeError.2 T.e_SizeError.noN hz hf (pv 2)) pa_nil)))))) (HdsA.as (i := 2) rfl rfl ⟨rfl, by decide, Or.inl T.g_CircuitError⟩ (fun a oe cls d pn hz hf => (pss_one (ps_set (i := 1) sc__law_told.nd rfl (Or.inl rfl) (pe_tup (pa_cons (pe_str) (pa_cons (pe_xf T.x_CircuitError.2 T.e_CircuitError.noN hz hf (pv 2)) pa_nil)))))) HdsA.nil)))
    (pss_one (ps_ret (pv 1)))))⟩
abbrev N__law_kinds : List Str := ["circuit", "got", "e", "others"]
theorem sc__law_kinds : FnScope N__law_kinds ["circuit"] (defScope s__law_kinds) := ⟨rfl, rfl, rfl, by decide +kernel, rfl, by decide +kernel, by decide +kernel⟩
noncomputable def d__law_kinds {P : Program} {w : World} {K : PySem.W.Frag} {mg : Str → Option Value} {base : Heap} {f : Addr} {cdv : Value} {A : Around} {outer : List Env} {s : Shared} {H : Hp} {E : XK} (T : Txt P K mg)
    (G_check_circuit : FnOk P w K mg base (L2.CX P w) 3 (ga K "check_circuit") (fdOf K "check_circuit") ["circuit"] (sp_check_circuit K)) (b_check_circuit : Binds K (fdOf K "check_circuit") ["circuit"] [])
    (hr : Room 3 (A.deeper (envOfC "_law_kinds" (defScope s__law_kinds) s.heap.objs.size f cdv))) :
    { t : TS // PSs (cxOf CX0 P w K mg base N__law_kinds "_law_kinds" (defScope s__law_kinds) f cdv A outer s H E).nox (defBody s__law_kinds) t } := ⟨_, by exact
    (pss_cons (ps_set (i := 1) sc__law_kinds.nd rfl (Or.inl rfl) (pe_lst (pa_cons (pe_bl) (pa_cons (pe_bl) (pa_cons (pe_bl) (pa_cons (pe_bl) pa_nil))))))
    (pss_cons (ps_try_all (Wout := fun _ _ _ _ => False) rfl rfl sc__law_kinds.nd takes0 (fun W pn xe tk xo => (pss_one (ps_expr (pe_callS G_check_circuit (hr.mono (by omega)) rfl T.f_check_circuit.g T.f_check_circuit.f.kp b_check_circuit (fun σ => passAt tk σ) (pa_cons (pv 0) pa_nil))))) (HdsA.as (i := 2) rfl rfl ⟨rfl, by decide, Or.inl T.g_FabricError⟩ (fun a oe cls d pn hz hf => (pss_cons (ps_set (i := 3) sc__law_kinds.nd rfl (Or.inl rfl) (pe_callB (call_isXT hz hf) rfl T.n_isinstance (by first | decide +kernel | boot_by_name) (pa_cons (pv 2) (pa_cons (pe_tup (pa_cons (pe_glob (v := .ref (ga K "BitsError")) rfl T.g_BitsError rfl) (pa_cons (pe_glob (v := .ref (ga K "FanoutError")) rfl T.g_FanoutError rfl) (pa_cons (pe_glob (v := .ref (ga K "NetlistError")) rfl T.g_NetlistError rfl) (pa_cons (pe_glob (v := .ref (ga K "StoreError")) rfl T.g_StoreError rfl) pa_nil))))) pa_nil))))
    (pss_one (ps_set (i := 1) sc__law_kinds.nd rfl (Or.inl rfl) (pe_lst (pa_cons (pe_callB (call_isX hz hf) rfl T.n_isinstance (by first | decide +kernel | boot_by_name) (pa_cons (pv 2) (pa_cons (pe_bltn (v := .ty "ValueError") rfl T.n_ValueError PyProof.Rows.Boot.«ValueError» rfl) pa_nil))) (pa_cons (pe_callB (call_isX hz hf) rfl T.n_isinstance (by first | decide +kernel | boot_by_name) (pa_cons (pv 2) (pa_cons (pe_glob (v := .ref (ga K "SizeError")) rfl T.g_SizeError rfl) pa_nil))) (pa_cons (pe_callB (call_isX hz hf) rfl T.n_isinstance (by first | decide +kernel | boot_by_name) (pa_cons (pv 2) (pa_cons (pe_glob (v := .ref (ga K "CircuitError")) rfl T.g_CircuitError rfl) pa_nil))) (pa_cons (pv 3) pa_nil))))))))) HdsA.nil))
    (pss_one (ps_ret (pv 1)))))⟩
abbrev N_law : List Str := ["script", "side", "pools", "place", "kind", "free", "count", "many", "asked", "near", "circuit", "fuller", "bent", "pair", "due", "kinds"]
theorem sc_law : FnScope N_law ["script"] (defScope s_law) := ⟨rfl, rfl, rfl, by decide +kernel, rfl, by decide +kernel, by decide +kernel⟩
noncomputable def d_law {P : Program} {w : World} {K : PySem.W.Frag} {mg : Str → Option Value} {base : Heap} {f : Addr} {cdv : Value} {A : Around} {outer : List Env} {s : Shared} {H : Hp} {E : XK} (T : Txt P K mg)
    (G__law_bent : FnOk P w K mg base CX0 3 (ga K "_law_bent") (fdOf K "_law_bent") ["side", "circuit", "times"] (sp__law_bent)) (b__law_bent : Binds K (fdOf K "_law_bent") ["side", "circuit", "times"] [])
    (G__law_beyond : FnOk P w K mg base CX0 3 (ga K "_law_beyond") (fdOf K "_law_beyond") ["side", "circuit"] (sp__law_beyond)) (b__law_beyond : Binds K (fdOf K "_law_beyond") ["side", "circuit"] [])
    (G__law_draw : FnOk P w K mg base CX0 1 (ga K "_law_draw") (fdOf K "_law_draw") ["pool", "many"] (sp_draw)) (b__law_draw : Binds K (fdOf K "_law_draw") ["pool", "many"] [])
    (G__law_drawn : FnOk P w K mg base CX0 4 (ga K "_law_drawn") (fdOf K "_law_drawn") ["pools", "free", "count", "many"] (sp__law_drawn)) (b__law_drawn : Binds K (fdOf K "_law_drawn") ["pools", "free", "count", "many"] [])
    (G__law_due : FnOk P w K mg base CX0 1 (ga K "_law_due") (fdOf K "_law_due") ["circuit"] (sp__law_due)) (b__law_due : Binds K (fdOf K "_law_due") ["circuit"] [])
    (G__law_kinds : FnOk P w K mg base CX0 4 (ga K "_law_kinds") (fdOf K "_law_kinds") ["circuit"] (sp__law_kinds)) (b__law_kinds : Binds K (fdOf K "_law_kinds") ["circuit"] [])
    (G__law_near : FnOk P w K mg base CX0 3 (ga K "_law_near") (fdOf K "_law_near") ["pools", "free", "count", "many"] (sp__law_near)) (b__law_near : Binds K (fdOf K "_law_near") ["pools", "free", "count", "many"] [])
    (G__law_pool : FnOk P w K mg base CX0 1 (ga K "_law_pool") (fdOf K "_law_pool") ["script", "place"] (sp_pool K)) (b__law_pool : Binds K (fdOf K "_law_pool") ["script", "place"] [])
    (G__law_same : FnOk P w K mg base CX0 6 (ga K "_law_same") (fdOf K "_law_same") ["told", "due"] (sp_same 4)) (b__law_same : Binds K (fdOf K "_law_same") ["told", "due"] [])
    (G__law_sized : FnOk P w K mg base CX0 3 (ga K "_law_sized") (fdOf K "_law_sized") ["side", "circuit", "bent"] (sp__law_sized)) (b__law_sized : Binds K (fdOf K "_law_sized") ["side", "circuit", "bent"] [])
    (G__law_told : FnOk P w K mg base CX0 4 (ga K "_law_told") (fdOf K "_law_told") ["circuit"] (sp__law_told)) (b__law_told : Binds K (fdOf K "_law_told") ["circuit"] [])
    (hr : Room 6 (A.deeper (envOfC "law" (defScope s_law) s.heap.objs.size f cdv))) :
    { t : TS // PSs (cxOf CX0 P w K mg base N_law "law" (defScope s_law) f cdv A outer s H E).nox (defBody s_law) t } := ⟨_, by exact
    (pss_cons (ps_set (i := 1) sc_law.nd rfl (Or.inl rfl) (pe_call G__law_pool (hr.mono (by omega)) rfl T.f__law_pool.g T.f__law_pool.f.kp b__law_pool .nil pass0 (pa_cons (pv 0) (pa_cons (pe_int) pa_nil))))
    (pss_cons (ps_setLc (i := 2) (own := [("place", 3)]) rfl sc_law.nd rfl rfl (sw_true rfl rfl rfl (by decide +kernel)) (pi_range1 rfl T.n_range (pa_cons (pe_int) pa_nil)) (blkOk_by (own := [("place", 3)]) (N := N_law) (sc := defScope s_law) (by decide +kernel)) (fun _ _ _ _ _ => (pg_name (i := 3) sc_law.nd rfl (Or.inl rfl))) (fun _ _ _ _ _ => pts_nil) (fun _ _ _ _ _ => (pe_call G__law_pool (hr.mono (by omega)) rfl T.f__law_pool.g T.f__law_pool.f.kp b__law_pool .nil pass0 (pa_cons (pv 0) (pa_cons (pv 3) pa_nil)))))
    (pss_cons (ps_set (i := 4) sc_law.nd rfl (Or.inl rfl) (pe_call G__law_draw (hr.mono (by omega)) rfl T.f__law_draw.g T.f__law_draw.f.kp b__law_draw .nil pass0 (pa_cons (pv 1) (pa_cons (pe_int) pa_nil))))
    (pss_cons (ps_set (i := 5) sc_law.nd rfl (Or.inl rfl) (pe_call G__law_draw (hr.mono (by omega)) rfl T.f__law_draw.g T.f__law_draw.f.kp b__law_draw .nil pass0 (pa_cons (pv 1) (pa_cons (pe_int) pa_nil))))
    (pss_cons (ps_set (i := 6) sc_law.nd rfl (Or.inl rfl) (pe_call G__law_draw (hr.mono (by omega)) rfl T.f__law_draw.g T.f__law_draw.f.kp b__law_draw .nil pass0 (pa_cons (pv 1) (pa_cons (pe_int) pa_nil))))
    (pss_cons (ps_set (i := 7) sc_law.nd rfl (Or.inl rfl) (pe_call G__law_draw (hr.mono (by omega)) rfl T.f__law_draw.g T.f__law_draw.f.kp b__law_draw .nil pass0 (pa_cons (pv 1) (pa_cons (pe_int) pa_nil))))
    (pss_cons (ps_if (pt_cmpR op_eq (pe_call G__law_draw (hr.mono (by omega)) rfl T.f__law_draw.g T.f__law_draw.f.kp b__law_draw .nil pass0 (pa_cons (pv 1) (pa_cons (pe_int) pa_nil))) (pe_int) (nomark _)) (pss_cons (ps_set (i := 6) sc_law.nd rfl (Or.inl rfl) (pe_call G__law_draw (hr.mono (by omega)) rfl T.f__law_draw.g T.f__law_draw.f.kp b__law_draw .nil pass0 (pa_cons (pv 1) (pa_cons (pe_int) pa_nil))))
    (pss_one (ps_set (i := 7) sc_law.nd rfl (Or.inl rfl) (pe_call G__law_draw (hr.mono (by omega)) rfl T.f__law_draw.g T.f__law_draw.f.kp b__law_draw .nil pass0 (pa_cons (pv 1) (pa_cons (pe_int) pa_nil)))))) pss_nil)
    (pss_cons (ps_set (i := 8) sc_law.nd rfl (Or.inl rfl) (pe_lst (pa_cons (pe_tup (pa_cons (pv 5) (pa_cons (pe_tup pa_nil) (pa_cons (pe_tup pa_nil) pa_nil)))) (pa_cons (pe_tup (pa_cons (pe_str) (pa_cons (pe_non) pa_nil))) pa_nil))))
    (pss_cons (ps_if (PW.pt (pw_or (pt_cmpR op_eq (pv 4) (pe_int) (nomark _)) (pw_or1 (pt_cmpR op_eq (pv 4) (pe_int) (nomark _))))) (pss_cons (ps_set (i := 9) sc_law.nd rfl (Or.inl rfl) (pe_call G__law_near (hr.mono (by omega)) rfl T.f__law_near.g T.f__law_near.f.kp b__law_near .nil pass0 (pa_cons (pv 2) (pa_cons (pe_call G__law_draw (hr.mono (by omega)) rfl T.f__law_draw.g T.f__law_draw.f.kp b__law_draw .nil pass0 (pa_cons (pv 1) (pa_cons (pe_int) pa_nil))) (pa_cons (pe_call G__law_draw (hr.mono (by omega)) rfl T.f__law_draw.g T.f__law_draw.f.kp b__law_draw .nil pass0 (pa_cons (pv 1) (pa_cons (pe_int) pa_nil))) (pa_cons (pe_call G__law_draw (hr.mono (by omega)) rfl T.f__law_draw.g T.f__law_draw.f.kp b__law_draw .nil pass0 (pa_cons (pv 1) (pa_cons (pe_int) pa_nil))) pa_nil))))))
    (pss_one (ps_set (i := 8) sc_law.nd rfl (Or.inl rfl) (pe_lst (pa_cons (pv 9) (pa_cons (pe_call G__law_due (hr.mono (by omega)) rfl T.f__law_due.g T.f__law_due.f.kp b__law_due .nil pass0 (pa_cons (pv 9) pa_nil)) pa_nil)))))) pss_nil)
    (pss_cons (ps_set (i := 10) sc_law.nd rfl (Or.inl rfl) (pe_call G__law_drawn (hr.mono (by omega)) rfl T.f__law_drawn.g T.f__law_drawn.f.kp b__law_drawn .nil pass0 (pa_cons (pv 2) (pa_cons (pv 5) (pa_cons (pv 6) (pa_cons (pv 7) pa_nil))))))
    (pss_cons (ps_if (pt_cmpR op_lt (pv 4) (pe_int) (nomark _)) (pss_one (ps_set (i := 8) sc_law.nd rfl (Or.inl rfl) (pe_call G__law_bent (hr.mono (by omega)) rfl T.f__law_bent.g T.f__law_bent.f.kp b__law_bent .nil pass0 (pa_cons (pv 1) (pa_cons (pv 10) (pa_cons (pe_call G__law_draw (hr.mono (by omega)) rfl T.f__law_draw.g T.f__law_draw.f.kp b__law_draw .nil pass0 (pa_cons (pv 1) (pa_cons (pe_int) pa_nil))) pa_nil)))))) (pss_one (ps_if (pt_cmpR op_eq (pv 4) (pe_int) (nomark _)) (pss_one (ps_set (i := 8) sc_law.nd rfl (Or.inl rfl) (pe_call G__law_sized (hr.mono (by omega)) rfl T.f__law_sized.g T.f__law_sized.f.kp b__law_sized .nil pass0 (pa_cons (pv 1) (pa_cons (pv 10) (pa_cons (pe_ix ix_list (pe_call G__law_bent (hr.mono (by omega)) rfl T.f__law_bent.g T.f__law_bent.f.kp b__law_bent .nil pass0 (pa_cons (pv 1) (pa_cons (pv 10) (pa_cons (pe_call G__law_draw (hr.mono (by omega)) rfl T.f__law_draw.g T.f__law_draw.f.kp b__law_draw .nil pass0 (pa_cons (pv 1) (pa_cons (pe_int) pa_nil))) pa_nil)))) (pe_int) (fun _ _ => rfl)) pa_nil)))))) pss_nil)))
    (pss_cons (ps_set (i := 11) sc_law.nd rfl (Or.inl rfl) (pe_tup (pa_cons (pv 5) (pa_cons (pe_op op_catA (pe_ix ix_tup (pv 10) (pe_int) (fun _ _ => rfl)) (pe_tup (pa_cons (pe_tup (pa_cons (pe_int) (pa_cons (pe_un un_neg (pe_int)) (pa_cons (pe_un un_neg (pe_int)) pa_nil)))) pa_nil))) (pa_cons (pe_ix ix_tup (pv 10) (pe_int) (fun _ _ => rfl)) pa_nil)))))
    (pss_cons (ps_set (i := 12) sc_law.nd rfl (Or.inl rfl) (pe_call G__law_bent (hr.mono (by omega)) rfl T.f__law_bent.g T.f__law_bent.f.kp b__law_bent .nil pass0 (pa_cons (pv 1) (pa_cons (pv 11) (pa_cons (pe_op op_add (pe_int) (pe_call G__law_draw (hr.mono (by omega)) rfl T.f__law_draw.g T.f__law_draw.f.kp b__law_draw .nil pass0 (pa_cons (pv 1) (pa_cons (pe_int) pa_nil)))) pa_nil)))))
    (pss_cons (ps_for PassesOwn.never rfl (pi_list (pe_lst (pa_cons (pv 8) (pa_cons (pe_lst (pa_cons (pv 10) (pa_cons (pe_tup (pa_cons (pe_str) (pa_cons (pe_non) pa_nil))) pa_nil))) (pa_cons (pv 12) (pa_cons (pe_call G__law_beyond (hr.mono (by omega)) rfl T.f__law_beyond.g T.f__law_beyond.f.kp b__law_beyond .nil pass0 (pa_cons (pv 1) (pa_cons (pv 10) pa_nil))) (pa_cons (pv 8) pa_nil))))))) (pg_name (i := 13) sc_law.nd rfl (Or.inl rfl)) (pss_cons (ps_set (i := 14) sc_law.nd rfl (Or.inl rfl) (pe_ix ix_list (pv 13) (pe_int) (fun _ _ => rfl)))
    (pss_cons (ps_set (i := 15) sc_law.nd rfl (Or.inl rfl) (pe_lst (pa_cons (pe_cmpR op_ne (pe_ix ix_tup (pv 14) (pe_int) (fun _ _ => rfl)) (pe_str) (nomark _)) (pa_cons (pe_cmpR op_eq (pe_ix ix_tup (pv 14) (pe_int) (fun _ _ => rfl)) (pe_str) (nomark _)) (pa_cons (pe_cmpR op_eq (pe_ix ix_tup (pv 14) (pe_int) (fun _ _ => rfl)) (pe_str) (nomark _)) (pa_cons (pe_bl) pa_nil))))))
    (pss_one (ps_if (PW.pt (pw_or (pt_not (pt_val (pe_call G__law_same (hr.mono (by omega)) rfl T.f__law_same.g T.f__law_same.f.kp b__law_same .nil pass0 (pa_cons (pe_call G__law_told (hr.mono (by omega)) rfl T.f__law_told.g T.f__law_told.f.kp b__law_told .nil pass0 (pa_cons (pe_ix ix_list (pv 13) (pe_int) (fun _ _ => rfl)) pa_nil)) (pa_cons (pv 14) pa_nil))))) (pw_or1 (pt_not (pt_val (pe_call G__law_same (hr.mono (by omega)) rfl T.f__law_same.g T.f__law_same.f.kp b__law_same .nil pass0 (pa_cons (pe_call G__law_kinds (hr.mono (by omega)) rfl T.f__law_kinds.g T.f__law_kinds.f.kp b__law_kinds .nil pass0 (pa_cons (pe_ix ix_list (pv 13) (pe_int) (fun _ _ => rfl)) pa_nil)) (pa_cons (pv 15) pa_nil)))))))) (pss_one (ps_ret (pe_bl))) pss_nil)))))
    (pss_one (ps_ret (pe_bl)))))))))))))))))⟩
end K20
set_option maxHeartbeats 4000000
/-! k20: what grows stays. -/
namespace K20
open PySem PySem.Spec PyProof.Rows L2 FabH He
variable {H H' : Hp} {v : V} {l : Addr} {xs : List V} {x : HO}
theorem gV.same {g : Gate} (e : Same H H') (h : gV H v g) : gV H' v g := h.imp fun _ ⟨a, b⟩ => ⟨a, e _ _ b⟩
theorem gV.set {g : Gate} (hl : H l = some (.lst xs)) (h : gV H v g) : gV (upd H l x) v g := h.imp fun _ ⟨a, b⟩ => ⟨a, at_lst hl b tup_ne_lst⟩
theorem gsV.same {vs : List V} {gs : List Gate} (e : Same H H') (h : gsV H vs gs) : gsV H' vs gs := ⟨h.1, fun i v g a b => (h.2 i v g a b).same e⟩
theorem gsV.set {vs : List V} {gs : List Gate} (hl : H l = some (.lst xs)) (h : gsV H vs gs) : gsV (upd H l x) vs gs := ⟨h.1, fun i v g a b => (h.2 i v g a b).set hl⟩
theorem gsV.nil : gsV H [] [] := ⟨rfl, fun i v g a _ => by cases a⟩
theorem gsV.snoc {vs : List V} {gs : List Gate} {g : Gate} (h : gsV H vs gs) (hg : gV H v g) : gsV H (vs ++ [v]) (gs ++ [g]) := by
  refine ⟨by simp [h.1], fun i u k a b => ?_⟩
  by_cases hi : i < vs.length
  · rw [List.getElem?_append_left hi] at a
    rw [List.getElem?_append_left (by rw [← h.1]; exact hi)] at b
    exact h.2 i u k a b
  · have e : i = vs.length := by
      have := (List.getElem?_eq_some_iff.mp a).1
      simp at this
      omega
    subst e
    rw [List.getElem?_append_right (Nat.le_refl _), Nat.sub_self] at a
    rw [h.1, List.getElem?_append_right (Nat.le_refl _), Nat.sub_self] at b
    cases a
    cases b
    exact hg
theorem cV.same {c : Circ} (e : Same H H') (h : cV H v c) : cV H' v c := by
  obtain ⟨a, g, k, vs, rfl, h1, h2, h3, h4⟩ := h
  exact ⟨a, g, k, vs, rfl, e _ _ h1, e _ _ h2, h3.same e, e _ _ h4⟩
theorem dV.same {d : Vd} (e : Same H H') (h : dV H v d) : dV H' v d := h.imp fun _ ⟨a, b⟩ => ⟨a, e _ _ b⟩
theorem pV.same {c : Circ} (e : Same H H') (h : pV H v c) : pV H' v c := by
  obtain ⟨l, a, b, rfl, h1, h2, h3⟩ := h
  exact ⟨l, a, b, rfl, e _ _ h1, h2.same e, h3.same e⟩
theorem poolsV.same (e : Same H H') (h : poolsV H v) : poolsV H' v := by
  obtain ⟨l, ps, rfl, h1, h2, h3⟩ := h
  exact ⟨l, ps, rfl, e _ _ h1, h2, fun p z => e _ _ (h3 p z)⟩
theorem IsPool.same {p : Addr} (e : Same H H') (h : IsPool H p) : IsPool H' p := e _ _ h
theorem cV.mk {a g k : Addr} {vs : List V} {c : Circ} (h1 : H a = some (.tup [.int c.free, .ref g, .ref k])) (h2 : H g = some (.tup vs)) (h3 : gsV H vs c.gates) (h4 : H k = some (.tup (c.ends.map V.int))) : cV H (.ref a) c := ⟨a, g, k, vs, rfl, h1, h2, h3, h4⟩
end K20
namespace K20
theorem snoc_get {α : Type} {xs : List α} {x y : α} {k : Nat} (h : (xs ++ [x])[k]? = some y) : xs[k]? = some y ∨ (k = xs.length ∧ x = y) := by
  by_cases hi : k < xs.length
  · rw [List.getElem?_append_left hi] at h
    exact .inl h
  · have e : k = xs.length := by
      have := (List.getElem?_eq_some_iff.mp h).1
      simp at this
      omega
    subst e
    rw [List.getElem?_append_right (Nat.le_refl _), Nat.sub_self] at h
    exact .inr ⟨rfl, Option.some.inj h⟩
end K20
namespace K20
open PySem PySem.Spec PyProof.Rows L2 FabH He
theorem firstBad_none : ∀ {gs : List Gate} {w : Int}, (∀ (k : Nat) (g : Gate), gs[k]? = some g → gateOk g (w + (k : Nat)) = true) → firstBad w gs = none
  | [], _, _ => rfl
  | g :: r, w, h => by
    have h0 := h 0 g rfl
    rw [show w + ((0 : Nat) : Int) = w by simp] at h0
    unfold firstBad
    rw [if_pos h0, firstBad_none fun k g' z => by
      have := h (k + 1) g' z
      rwa [show w + ((k + 1 : Nat) : Int) = w + 1 + (k : Nat) by omega] at this]
    rfl
theorem firstBad_at : ∀ {gs : List Gate} {w : Int} {i : Nat} {g : Gate}, gs[i]? = some g → (∀ (k : Nat), k < i → ∀ g', gs[k]? = some g' → gateOk g' (w + (k : Nat)) = true) → gateOk g (w + (i : Nat)) = false → firstBad w gs = some i
  | [], _, _, _, e, _, _ => by cases e
  | a :: r, w, 0, g, e, _, b => by
    cases e
    rw [show w + ((0 : Nat) : Int) = w by simp] at b
    unfold firstBad
    rw [if_neg (by rw [b]; decide)]
  | a :: r, w, i + 1, g, e, h, b => by
    have h0 := h 0 (Nat.succ_pos i) a rfl
    rw [show w + ((0 : Nat) : Int) = w by simp] at h0
    unfold firstBad
    rw [if_pos h0, firstBad_at (i := i) (g := g) e (fun k hk g' z => by
      have := h (k + 1) (Nat.succ_lt_succ hk) g' z
      rwa [show w + ((k + 1 : Nat) : Int) = w + 1 + (k : Nat) by omega] at this) (by rwa [show w + ((i + 1 : Nat) : Int) = w + 1 + (i : Nat) by omega] at b)]
    rfl
theorem firstEnd_none : ∀ {es : List Int} {w : Int}, (∀ (k : Nat) (z : Int), es[k]? = some z → wireOk z w = true) → firstEnd w es = none
  | [], _, _ => rfl
  | z :: r, w, h => by
    unfold firstEnd
    rw [if_pos (h 0 z rfl), firstEnd_none fun k z' e => h (k + 1) z' e]
    rfl
theorem firstEnd_at : ∀ {es : List Int} {w : Int} {i : Nat} {z : Int}, es[i]? = some z → (∀ (k : Nat), k < i → ∀ z', es[k]? = some z' → wireOk z' w = true) → wireOk z w = false → firstEnd w es = some i
  | [], _, _, _, e, _, _ => by cases e
  | a :: r, w, 0, g, e, _, b => by
    cases e
    unfold firstEnd
    rw [if_neg (by rw [b]; decide)]
  | a :: r, w, i + 1, g, e, h, b => by
    unfold firstEnd
    rw [if_pos (h 0 (Nat.succ_pos i) a rfl), firstEnd_at (i := i) (z := g) e (fun k hk g' z => h (k + 1) (Nat.succ_lt_succ hk) g' z) b]
    rfl
/-- the sizes are in range -/
structure Fits (c : Circ) : Prop where
  f0 : 0 ≤ c.free
  f1 : c.free ≤ 2000
  g : c.gates.length ≤ 20000
  e : c.ends.length ≤ 2000
theorem verdict_fit {c : Circ} (h : Fits c) : verdict c = (match firstBad c.free c.gates with
    | some j => .circ (j : Nat)
    | none => match firstEnd (c.free + (c.gates.length : Nat)) c.ends with
      | some j => .circ ((c.gates.length : Nat) + (j : Nat))
      | none => .ok) := by
  unfold verdict
  rw [if_pos ⟨h.f0, h.f1⟩, if_pos h.g, if_pos h.e]
  all_goals
    cases firstBad c.free c.gates with
    | some j => rfl
    | none => cases firstEnd (c.free + (c.gates.length : Nat)) c.ends <;> rfl
theorem verdict_gate {c : Circ} (h : Fits c) {i : Nat} {g : Gate} (e : c.gates[i]? = some g) (ok : ∀ (k : Nat), k < i → ∀ g', c.gates[k]? = some g' → gateOk g' (c.free + (k : Nat)) = true) (b : gateOk g (c.free + (i : Nat)) = false) : verdict c = .circ (i : Nat) := by
  rw [verdict_fit h, firstBad_at e ok b]
theorem verdict_end {c : Circ} (h : Fits c) (okg : ∀ (k : Nat) (g : Gate), c.gates[k]? = some g → gateOk g (c.free + (k : Nat)) = true) {i : Nat} {z : Int} (e : c.ends[i]? = some z) (ok : ∀ (k : Nat), k < i → ∀ z', c.ends[k]? = some z' → wireOk z' (c.free + (c.gates.length : Nat)) = true)
    (b : wireOk z (c.free + (c.gates.length : Nat)) = false) : verdict c = .circ ((c.gates.length : Nat) + (i : Nat)) := by
  rw [verdict_fit h, firstBad_none okg, firstEnd_at e ok b]
theorem verdict_ok {c : Circ} (h : Fits c) (okg : ∀ (k : Nat) (g : Gate), c.gates[k]? = some g → gateOk g (c.free + (k : Nat)) = true) (oke : ∀ (k : Nat) (z : Int), c.ends[k]? = some z → wireOk z (c.free + (c.gates.length : Nat)) = true) : verdict c = .ok := by
  rw [verdict_fit h, firstBad_none okg, firstEnd_none oke]
theorem Right.ok {c : Circ} (r : Right c) : verdict c = .ok := verdict_ok ⟨r.f0, r.f1, Nat.le_trans r.gl (by decide), Nat.le_trans r.el (by decide)⟩ r.g r.e
end K20
namespace K20
theorem gateOk_iff {g : Gate} {w : Int} : gateOk g w = true ↔ (0 ≤ g.1 ∧ g.1 ≤ 15) ∧ (-1 ≤ g.2.1 ∧ g.2.1 < w) ∧ (-1 ≤ g.2.2 ∧ g.2.2 < w) := by
  simp only [gateOk, wireOk, Bool.and_eq_true, decide_eq_true_eq]
theorem wireOk_iff {x w : Int} : wireOk x w = true ↔ (-1 ≤ x ∧ x < w) := by
  simp only [wireOk, decide_eq_true_eq]
theorem gateOk_not {g : Gate} {w : Int} (h : ¬ ((0 ≤ g.1 ∧ g.1 ≤ 15) ∧ (-1 ≤ g.2.1 ∧ g.2.1 < w) ∧ (-1 ≤ g.2.2 ∧ g.2.2 < w))) : gateOk g w = false := by
  cases e : gateOk g w with
  | false => rfl
  | true => exact absurd (gateOk_iff.mp e) h
theorem wireOk_not {x w : Int} (h : ¬ (-1 ≤ x ∧ x < w)) : wireOk x w = false := by
  cases e : wireOk x w with
  | false => rfl
  | true => exact absurd (wireOk_iff.mp e) h
end K20
namespace K20
open PySem PySem.Spec PyProof.Rows L2 FabH He
/-- gates and outputs bent at the places ps alone -/
structure BentI (c : Circ) (gs : List Gate) (es : List Int) (ps : List Int) : Prop where
  gl : gs.length = c.gates.length
  el : es.length = c.ends.length
  rng : ∀ p ∈ ps, 0 ≤ p ∧ p < (gs.length : Int) + (es.length : Int)
  g : ∀ (k : Nat) (g : Gate), gs[k]? = some g → gateOk g (c.free + (k : Nat)) = !decide ((k : Int) ∈ ps)
  e : ∀ (k : Nat) (z : Int), es[k]? = some z → wireOk z (c.free + (gs.length : Nat)) = !decide ((gs.length : Int) + (k : Int) ∈ ps)
theorem BentI.start {c : Circ} (r : Right c) : BentI c c.gates c.ends [] := ⟨rfl, rfl, fun p h => (by cases h), fun k g h => by rw [r.g k g h]; rfl, fun k z h => by rw [r.e k z h]; rfl⟩
theorem mem_snoc {ps : List Int} {a b : Int} (ne : a ≠ b) : (decide (a ∈ ps ++ [b])) = decide (a ∈ ps) := by
  simp [ne]
theorem mem_last {ps : List Int} {b : Int} : (decide (b ∈ ps ++ [b])) = true := by simp
theorem BentI.gate {c : Circ} {gs : List Gate} {es ps : List Int} (h : BentI c gs es ps) {k : Nat} {g' : Gate} (hk : k < gs.length) (b : gateOk g' (c.free + (k : Nat)) = false) : BentI c (gs.set k g') es (ps ++ [(k : Int)]) := by
  refine ⟨by rw [List.length_set]; exact h.gl, h.el, fun p hp => ?_, fun i g hi => ?_, fun i z hi => ?_⟩
  · rw [List.length_set]
    rcases List.mem_append.mp hp with hp | hp
    · exact h.rng p hp
    · have e : p = k := by simpa using hp
      omega
  · by_cases e : i = k
    · subst e
      rw [List.getElem?_set_self hk] at hi
      cases hi
      rw [b, mem_last]
      rfl
    · rw [List.getElem?_set_ne (Ne.symm e)] at hi
      rw [h.g i g hi, mem_snoc (by omega)]
  · have := h.e i z hi
    rw [List.length_set, this, mem_snoc (by omega)]
theorem BentI.wire {c : Circ} {gs : List Gate} {es ps : List Int} (h : BentI c gs es ps) {k : Nat} {z' : Int} (hk : k < es.length) (b : wireOk z' (c.free + (gs.length : Nat)) = false) : BentI c gs (es.set k z') (ps ++ [(gs.length : Int) + (k : Int)]) := by
  refine ⟨h.gl, by rw [List.length_set]; exact h.el, fun p hp => ?_, fun i g hi => ?_, fun i z hi => ?_⟩
  · rw [List.length_set]
    rcases List.mem_append.mp hp with hp | hp
    · exact h.rng p hp
    · have e : p = (gs.length : Int) + (k : Int) := by simpa using hp
      omega
  · have hl := (List.getElem?_eq_some_iff.mp hi).1
    rw [h.g i g hi, mem_snoc (by omega)]
  · by_cases e : i = k
    · subst e
      rw [List.getElem?_set_self hk] at hi
      cases hi
      rw [b, mem_last]
      rfl
    · rw [List.getElem?_set_ne (Ne.symm e)] at hi
      rw [h.e i z hi, mem_snoc (by omega)]
theorem BentI.none {c : Circ} {gs : List Gate} {es : List Int} (h : BentI c gs es []) (f : Fits ⟨c.free, gs, es⟩) : verdict ⟨c.free, gs, es⟩ = .ok :=
  verdict_ok f (fun k g e => by rw [h.g k g e]; rfl) (fun k z e => by rw [h.e k z e]; rfl)
theorem BentI.min {c : Circ} {gs : List Gate} {es ps : List Int} (h : BentI c gs es ps) (f : Fits ⟨c.free, gs, es⟩) {m : Int} (hm : m ∈ ps) (hl : ∀ y, y ∈ ps → m ≤ y) : verdict ⟨c.free, gs, es⟩ = .circ m := by
  obtain ⟨m0, m1⟩ := h.rng m hm
  have before : ∀ (k : Nat), (k : Int) < m → ∀ g, gs[k]? = some g → gateOk g (c.free + (k : Nat)) = true := fun k hk g e => by
    rw [h.g k g e, decide_eq_false fun z => absurd (hl _ z) (by omega)]
    rfl
  by_cases hg : m < gs.length
  · obtain ⟨g, e⟩ : ∃ g, gs[m.toNat]? = some g := ⟨_, List.getElem?_eq_getElem (by omega)⟩
    have em : ((m.toNat : Nat) : Int) = m := by omega
    have r := verdict_gate f (i := m.toNat) e (fun k hk g' e' => before k (by omega) g' e') (by
      rw [h.g _ g e, em, decide_eq_true hm]
      rfl)
    rw [r, em]
  · have hi : (m - gs.length).toNat < es.length := by omega
    obtain ⟨z, e⟩ : ∃ z, es[(m - gs.length).toNat]? = some z := ⟨_, List.getElem?_eq_getElem hi⟩
    have em : (gs.length : Int) + (((m - gs.length).toNat : Nat) : Int) = m := by omega
    have r := verdict_end f (fun k g e' => before k (by have hl : k < gs.length := (List.getElem?_eq_some_iff.mp e').1; omega) g e') (i := (m - gs.length).toNat) e (fun k hk z' e' => by
      show wireOk z' (c.free + (gs.length : Nat)) = true
      rw [h.e k z' e', decide_eq_false fun y => absurd (hl _ y) (by omega)]
      rfl) (by
      show wireOk z (c.free + (gs.length : Nat)) = false
      rw [h.e _ z e, em, decide_eq_true hm]
      rfl)
    rw [r]
    show Vd.circ ((gs.length : Int) + (((m - gs.length).toNat : Nat) : Int)) = _
    rw [em]
theorem gsV.put {H : Hp} {vs : List V} {gs : List Gate} {k : Nat} {v : V} {g : Gate} (h : gsV H vs gs) (hg : gV H v g) : gsV H (vs.set k v) (gs.set k g) := by
  refine ⟨by rw [List.length_set, List.length_set]; exact h.1, fun i u x a b => ?_⟩
  by_cases e : i = k
  · subst e
    have hl := (List.getElem?_eq_some_iff.mp a).1
    rw [List.length_set] at hl
    rw [List.getElem?_set_self hl] at a
    rw [List.getElem?_set_self (by rw [← h.1]; exact hl)] at b
    cases a
    cases b
    exact hg
  · rw [List.getElem?_set_ne (Ne.symm e)] at a b
    exact h.2 i u x a b
end K20
namespace K20
theorem verdict_free {c : Circ} (h : ¬ (0 ≤ c.free ∧ c.free ≤ 2000)) : verdict c = .size c.free := by
  unfold verdict
  rw [if_neg h]
theorem verdict_many {c : Circ} (h : 0 ≤ c.free ∧ c.free ≤ 2000) (h2 : ¬ c.gates.length ≤ 20000) : verdict c = .size (c.gates.length : Nat) := by
  unfold verdict
  rw [if_pos h, if_neg h2]
theorem verdict_outs {c : Circ} (h : 0 ≤ c.free ∧ c.free ≤ 2000) (h2 : c.gates.length ≤ 20000) (h3 : ¬ c.ends.length ≤ 2000) : verdict c = .size (c.ends.length : Nat) := by
  unfold verdict
  rw [if_pos h, if_pos h2, if_neg h3]
end K20
namespace K20
open PySem PySem.Spec PyProof.Rows L2 FabH He
theorem g_cat2 {K : PySem.W.Frag} {H : Hp} {Q : VK} {a b : Addr} {xs ys : List V} (ha : H a = some (.tup xs)) (hb : H b = some (.tup ys)) (l : xs.length + ys.length ≤ sizeLine) (h : ∀ p H', Same H H' → H' p = some (.tup (xs ++ ys)) → Q (.ref p) H') : rCatA K (.ref a) (.ref b) H Q :=
  g_cat (.of ha) (.of hb) l (fun e => h b H (.refl H) (by rw [hb, e]; rfl)) (fun _ e => h a H (.refl H) (by rw [ha, e, List.append_nil])) fun _ _ p hp => h p _ (.new hp) upd_same
theorem g_rep2 {K : PySem.W.Frag} {H : Hp} {Q : VK} {a : Addr} {x : V} {k : Int} (ha : H a = some (.tup [x])) (k0 : -(2 ^ 62) ≤ k) (k1 : k.toNat ≤ 1000000) (h : ∀ p H', Same H H' → H' p = some (.tup (List.replicate k.toNat x)) → Q (.ref p) H') : rRepF K (.ref a) (.int k) H Q := by
  refine ⟨a, k, [x], rfl, rfl, .of ha, by simp, k0, by simpa using k1, fun e => ?_, fun ne p hp => ?_⟩
  · subst e
    exact h a H (.refl H) ha
  · refine h p _ (.new hp) ?_
    rw [upd_same, List.flatten_replicate_singleton]
theorem gsV.app {H : Hp} {vs ws : List V} {gs ks : List Gate} (h : gsV H vs gs) (h2 : gsV H ws ks) : gsV H (vs ++ ws) (gs ++ ks) := by
  refine ⟨by simp [h.1, h2.1], fun i v g a b => ?_⟩
  by_cases hi : i < vs.length
  · rw [List.getElem?_append_left hi] at a
    rw [List.getElem?_append_left (by rw [← h.1]; exact hi)] at b
    exact h.2 i v g a b
  · rw [List.getElem?_append_right (by omega)] at a
    rw [List.getElem?_append_right (by rw [← h.1]; omega), ← h.1] at b
    exact h2.2 _ v g a b
theorem gsV.rep {H : Hp} {v : V} {g : Gate} (n : Nat) (h : gV H v g) : gsV H (List.replicate n v) (List.replicate n g) := by
  refine ⟨by simp, fun i u k a b => ?_⟩
  have e1 := List.getElem?_eq_some_iff.mp a
  have e2 := List.getElem?_eq_some_iff.mp b
  obtain ⟨_, e1⟩ := e1
  obtain ⟨_, e2⟩ := e2
  rw [List.getElem_replicate] at e1 e2
  subst e1 e2
  exact h
theorem and7 {t : Int} (t0 : 0 ≤ t) (t1 : t < 7) (h1 : ¬ 0 < Builtin.bitAnd (1 + t) 1) (h2 : ¬ 0 < Builtin.bitAnd (1 + t) 2) (h4 : ¬ 0 < Builtin.bitAnd (1 + t) 4) : False := by
  rcases (show t = 0 ∨ t = 1 ∨ t = 2 ∨ t = 3 ∨ t = 4 ∨ t = 5 ∨ t = 6 by omega) with rfl | rfl | rfl | rfl | rfl | rfl | rfl
  · exact h1 (by decide)
  · exact h2 (by decide)
  · exact h1 (by decide)
  · exact h4 (by decide)
  · exact h1 (by decide)
  · exact h2 (by decide)
  · exact h1 (by decide)
def idle : Gate := (0, -1, -1)
end K20
namespace K20
open PySem PySem.Spec PyProof.Rows L2 FabH He
theorem g_repL {H : Hp} {Q : VK} {l : Addr} {x : V} {k : Int} (hl : H l = some (.lst [x])) (k0 : 0 ≤ k) (k1 : k ≤ 1000000) (h : ∀ p, H p = none → Q (.ref p) (upd H p (.lst (List.replicate k.toNat x)))) : rRep (.ref l) (.int k) H Q := by
  refine ⟨l, k, [x], rfl, rfl, hl, by omega, by omega, by simp [sizeLine_eq]; omega, fun p hp => ?_⟩
  rw [List.flatten_replicate_singleton]
  exact h p hp
theorem gateOk.mono {g : Gate} {w w' : Int} (h : gateOk g w = true) (l : w ≤ w') : gateOk g w' = true := by
  have := gateOk_iff.mp h
  exact gateOk_iff.mpr (by omega)
theorem wireOk.mono {x w w' : Int} (h : wireOk x w = true) (l : w ≤ w') : wireOk x w' = true := by
  have := wireOk_iff.mp h
  exact wireOk_iff.mpr (by omega)
theorem rep_get {α : Type} {n k : Nat} {x z : α} (h : (List.replicate n x)[k]? = some z) : z = x := by
  obtain ⟨_, e⟩ := List.getElem?_eq_some_iff.mp h
  rw [List.getElem_replicate] at e
  exact e.symm
theorem rep_set {α : Type} {n k i : Nat} {x y z : α} (h : ((List.replicate n x).set i y)[k]? = some z) : (k = i ∧ z = y) ∨ (k ≠ i ∧ z = x) := by
  by_cases e : k = i
  · subst e
    have hl := (List.getElem?_eq_some_iff.mp h).1
    rw [List.length_set] at hl
    rw [List.getElem?_set_self hl] at h
    exact .inl ⟨rfl, (Option.some.inj h).symm⟩
  · rw [List.getElem?_set_ne (Ne.symm e)] at h
    exact .inr ⟨e, rep_get h⟩
theorem rep_at {α : Type} {n i : Nat} {x y : α} (h : i < n) : ((List.replicate n x).set i y)[i]? = some y := List.getElem?_set_self (by simpa using h)
theorem idle_ok {w : Int} (h : 0 ≤ w) : gateOk idle w = true := gateOk_iff.mpr ⟨⟨by decide, by decide⟩, ⟨by decide, by show (-1 : Int) < w; omega⟩, ⟨by decide, by show (-1 : Int) < w; omega⟩⟩
/-! ### the circuits of _law_sized -/
section
variable {c d : Circ} (rc : Right c)
include rc
theorem sized0 : verdict ⟨2000, c.gates, c.ends⟩ = .ok :=
  verdict_ok ⟨by dsimp only; decide, by dsimp only; decide, Nat.le_trans rc.gl (by decide), Nat.le_trans rc.el (by decide)⟩ (fun k g h => gateOk.mono (rc.g k g h) (by have := rc.f1; dsimp only; omega)) fun k z h => wireOk.mono (rc.e k z h) (by have := rc.f1; dsimp only; omega)
theorem sized4 (n : Nat) (hn : n ≤ 2000) : verdict ⟨c.free, c.gates, List.replicate n (-1)⟩ = .ok :=
  verdict_ok ⟨rc.f0, rc.f1, Nat.le_trans rc.gl (by decide), by simpa using hn⟩ rc.g fun k z h => by
    rw [rep_get h]
    exact wireOk_iff.mpr (by have := rc.f0; dsimp only; omega)
theorem sized5 (n i : Nat) (hn : n ≤ 2000) (hi : i < n) {r : Int} (hr : wireOk r (c.free + (c.gates.length : Nat)) = false) : verdict ⟨c.free, c.gates, (List.replicate n (-1)).set i r⟩ = .circ ((c.gates.length : Nat) + (i : Nat)) :=
  verdict_end (c := ⟨c.free, c.gates, (List.replicate n (-1)).set i r⟩) ⟨rc.f0, rc.f1, Nat.le_trans rc.gl (by decide), by simpa using hn⟩ rc.g (i := i) (z := r) (rep_at hi) (fun k hk z h => by
    rcases rep_set h with ⟨e, _⟩ | ⟨_, e⟩
    · omega
    · rw [e]
      exact wireOk_iff.mpr (by have := rc.f0; dsimp only; omega)) hr
theorem sized7 (n : Nat) (hn : n = 20000) : verdict ⟨c.free, List.replicate n idle, c.ends⟩ = .ok :=
  verdict_ok ⟨rc.f0, rc.f1, by dsimp only; rw [List.length_replicate]; omega, Nat.le_trans rc.el (by decide)⟩ (fun k g h => by
    rw [rep_get h]
    exact idle_ok (by have := rc.f0; dsimp only; omega)) fun k z h => wireOk.mono (rc.e k z h) (by
      have := rc.gl
      dsimp only
      rw [List.length_replicate]
      omega)
theorem sized8 (n i : Nat) (hn : n = 20000) (hi : i < n) : verdict ⟨c.free, (List.replicate n idle).set i (0, -1, c.free + (i : Nat)), c.ends⟩ = .circ (i : Nat) :=
  verdict_gate (c := ⟨c.free, (List.replicate n idle).set i (0, -1, c.free + (i : Nat)), c.ends⟩) ⟨rc.f0, rc.f1, by dsimp only; rw [List.length_set, List.length_replicate]; omega, Nat.le_trans rc.el (by decide)⟩ (rep_at hi) (fun k hk g h => by
    rcases rep_set h with ⟨e, _⟩ | ⟨_, e⟩
    · omega
    · rw [e]
      exact idle_ok (by have := rc.f0; dsimp only; omega)) (gateOk_not (by dsimp only; omega))
end
end K20
namespace K20
open PySem PySem.Spec PyProof.Rows L2 FabH He
/-- a pair that the law may try -/
def PS (H : Hp) (v : V) : Prop := ∃ c, pV H v c ∧ Small c
theorem PS.same {H H' : Hp} {v : V} (e : Same H H') (h : PS H v) : PS H' v := h.imp fun _ ⟨a, b⟩ => ⟨a.same e, b⟩
theorem ds_val {H : Hp} {n : Nat} (d : Vd) : DS H (n + 1) d.val d.val := by
  cases d with
  | ok => exact .non
  | size n => exact .int
  | circ n => exact .int
theorem ds_dV {H : Hp} {u v : V} {d : Vd} (h1 : dV H u d) (h2 : dV H v d) : DS H 4 u v := by
  obtain ⟨a, rfl, e1⟩ := h1
  obtain ⟨b, rfl, e2⟩ := h2
  refine .tup e1 e2 rfl (show 2 ≤ 100000 by decide) fun i u v hu hv => ?_
  rw [hu] at hv
  cases hv
  match i, hu with
  | 0, hu => cases hu; exact .str
  | 1, hu => cases hu; exact ds_val d
theorem kindsOf_eq (d : Vd) : kindsOf d = [.bl (!decide (d.tag = "told")), .bl (decide (d.tag = "size")), .bl (decide (d.tag = "circuit")), .bl false] := by
  cases d with
  | ok => rfl
  | size n => rfl
  | circ n => rfl
theorem Right.fuller {c : Circ} (r : Right c) (g : c.gates.length ≤ 99) : Right ⟨c.free, c.gates ++ [idle], c.ends⟩ where
  f0 := r.f0
  f1 := r.f1
  g := fun i x h => by
    rcases snoc_get h with h | ⟨_, rfl⟩
    · exact r.g i x h
    · exact idle_ok (by have := r.f0; dsimp only; omega)
  e := fun i x h => wireOk.mono (r.e i x h) (by simp; omega)
  gl := by simp; omega
  el := r.el
end K20
set_option maxHeartbeats 4000000
namespace K20
open PySem PySem.Spec PyProof.Rows L2 FabH He
local macro_rules | `(tactic| array_mem_dec) => `(tactic| (first | with_reducible assumption | with_reducible exact SqL.of (by array_get_dec) | with_reducible exact SqT.of (by array_get_dec) | ((repeat (with_reducible first | refine Same.seq (Same.new (by assumption)) ?_ | refine Same.tup (Same.new (by assumption)) ?_)); with_reducible assumption)))
local macro_rules | `(tactic| array_get_dec) => `(tactic| (first | with_reducible assumption | with_reducible exact upd_same | (repeat (with_reducible first | exact upd_same | refine at_new (by assumption) ?_ | refine at_lst (by assumption) ?_ tup_ne_lst | refine at_set (by assumption) ?_)); done | ((repeat (with_reducible first | refine at_new (by assumption) ?_ | refine at_lst (by assumption) ?_ tup_ne_lst | refine at_set (by assumption) ?_)); with_reducible assumption)))
local macro_rules | `(tactic| walk_at "side") => `(tactic| (first | with_reducible assumption | decide | exact MOk.div (by assumption) | exact MOk.div (MOk.of (by decide) (by decide)) | (simp only [List.length_append, List.length_map, List.length_replicate, List.length_cons, List.length_nil, sizeLine_eq, CMul, CDivW, CPow]; omega) | omega))
local macro_rules | `(tactic| walk_at "st") => `(tactic| first
  | with_reducible refine g_cons ?_ | ((with_reducible apply g_var); (first | exact rfl | assumption)) | with_reducible refine g_const ?_ | with_reducible refine g_nil ?_ | with_reducible refine g_op ?_ | with_reducible refine g_rI0 ?_ | with_reducible refine g_seq ?_ | with_reducible refine g_asg ?_ | ((with_reducible refine g_name ?_); dsimp only [List.set_cons_zero, List.set_cons_succ])
  | with_reducible refine g_nx ?_ | with_reducible refine g_rt ?_ | with_reducible refine g_call ?_ | with_reducible refine g_ret ?_ | with_reducible refine g_test ?_ | with_reducible refine g_bl ?_ | with_reducible refine g_cb ?_ | with_reducible refine g_tB ?_ | with_reducible refine g_un ?_ | with_reducible refine g_rU ?_
  | with_reducible refine g_eqi ?_ | with_reducible refine g_int ?_ | with_reducible refine g_and ?_ | with_reducible refine g_or ?_ | with_reducible refine g_not ?_ | with_reducible refine g_drop ?_ | with_reducible refine g_next ?_ | with_reducible refine g_retN ?_ | with_reducible refine g_iteT ?_ | with_reducible refine g_iteF ?_ | with_reducible refine g_iteNT ?_ | with_reducible refine g_iteNF ?_
  | ((with_reducible apply g_ixL); array_mem_dec; (first | exact rfl | assumption)) | ((with_reducible apply g_ixT); array_mem_dec; (first | exact rfl | assumption)) | ((with_reducible apply g_lenL); array_mem_dec) | ((with_reducible apply g_lenT); array_mem_dec) | ((with_reducible apply g_rI); walk_at "side")
  | ((with_reducible apply g_setL); array_get_dec; (first | exact rfl | assumption)) | ((with_reducible apply g_app); array_get_dec; walk_at "side") | with_reducible refine g_tup ?_ | with_reducible refine g_lst ?_ | ((with_reducible apply g_listL); array_mem_dec) | ((with_reducible apply g_listT); array_mem_dec) | ((with_reducible apply g_tupT); array_mem_dec) | ((with_reducible apply g_tupL); array_mem_dec)
  | ((with_reducible apply g_room); walk_at "side") | with_reducible refine g_abs ?_ | with_reducible refine g_chain ?_ | with_reducible refine g_andV ?_ | with_reducible refine g_orV ?_ | with_reducible refine g_notV ?_ | with_reducible refine g_gsub ?_ | ((with_reducible apply g_gtup); array_mem_dec; (first | exact rfl | assumption)) | with_reducible refine g_gcons ?_ | with_reducible refine g_gnil ?_ | with_reducible refine g_bm ?_ | ((with_reducible apply g_tyL); array_mem_dec) | with_reducible refine g_tyS ?_
  | with_reducible refine g_callS ?_ | with_reducible refine g_nei ?_ | with_reducible refine g_eqs ?_ | with_reducible refine g_nes ?_ | with_reducible refine g_eqb ?_ | with_reducible refine g_nonI ?_ | with_reducible refine g_nonN ?_ | with_reducible refine g_nonS ?_ | with_reducible refine g_nonB ?_ | with_reducible refine g_nonR ?_ | with_reducible refine g_isBB ?_ | with_reducible refine g_isBI ?_ | with_reducible refine g_isBS ?_ | with_reducible refine g_isBR ?_ | with_reducible refine g_isBN ?_
  | with_reducible refine g_rng1 ?_ | with_reducible refine g_rng2 ?_ | ((with_reducible apply g_notInR); array_get_dec) | ((with_reducible apply g_inR); array_get_dec) | with_reducible refine g_for ?_ | with_reducible refine g_iList ?_ | with_reducible refine g_iTup ?_ | with_reducible refine g_iR1 ?_ | with_reducible refine g_iEnum ?_ | with_reducible refine g_lc ?_ | with_reducible refine g_yes ?_ | with_reducible refine g_slc ?_ | with_reducible refine g_part ?_ | with_reducible refine g_nopart ?_ | with_reducible refine g_exi ?_ | with_reducible refine g_brk ?_ | with_reducible refine g_cnt ?_ | with_reducible refine g_bk ?_ | with_reducible refine g_ct ?_ | with_reducible refine g_if ?_
  | ((with_reducible apply g_atL); array_mem_dec) | ((with_reducible apply g_atT); array_mem_dec) | ((with_reducible apply g_enum); array_mem_dec) | ((with_reducible apply g_R1); walk_at "side"; walk_at "side")
  | with_reducible refine g_is_int_int ?_ | with_reducible refine g_is_int_bool ?_ | with_reducible refine g_is_int_str ?_ | with_reducible refine g_is_int_dict ?_ | with_reducible refine g_is_int_list ?_ | with_reducible refine g_is_int_tuple ?_ | with_reducible refine g_is_bool_bool ?_ | with_reducible refine g_is_bool_int ?_ | with_reducible refine g_is_str_int ?_ | with_reducible refine g_is_str_str ?_ | with_reducible refine g_is_str_dict ?_ | with_reducible refine g_is_str_list ?_ | with_reducible refine g_is_str_tuple ?_ | ((with_reducible apply g_is_list_int); array_get_dec) | ((with_reducible apply g_is_list_str); array_get_dec) | ((with_reducible apply g_is_list_dict); array_get_dec) | ((with_reducible apply g_is_list_list); array_get_dec) | ((with_reducible apply g_is_list_tuple); array_get_dec) | ((with_reducible apply g_is_tuple_int); array_get_dec) | ((with_reducible apply g_is_tuple_str); array_get_dec) | ((with_reducible apply g_is_tuple_dict); array_get_dec) | ((with_reducible apply g_is_tuple_list); array_get_dec) | ((with_reducible apply g_is_tuple_tuple); array_get_dec) | ((with_reducible apply g_ixSL); array_mem_dec; (first | exact rfl | assumption)) | ((with_reducible apply g_ixST); array_mem_dec; (first | exact rfl | assumption)))
local macro_rules | `(tactic| walk_at "go") => `(tactic| repeat first | with_reducible refine g_ifS ?_ | walk_at "st")
local macro_rules | `(tactic| walk_at "goI") => `(tactic| repeat walk_at "st")
section
variable {P : Program} {w : World} {K : PySem.W.Frag} {mg : Str → Option Value} {base : Heap}
theorem b_is_wire (T : Txt P K mg) : Binds K (fdOf K "is_wire") ["wire", "wires"] [] := T.f_is_wire.f.bindsN fun _ _ _ _ _ _ us hl => match us, hl with | [_, _], _ => rfl
theorem b_is_gate (T : Txt P K mg) : Binds K (fdOf K "is_gate") ["table", "first", "second", "wire"] [] := T.f_is_gate.f.bindsN fun _ _ _ _ _ _ us hl => match us, hl with | [_, _, _, _], _ => rfl
theorem b_check_circuit (T : Txt P K mg) : Binds K (fdOf K "check_circuit") ["circuit"] [] := T.f_check_circuit.f.bindsN fun _ _ _ _ _ _ us hl => match us, hl with | [_], _ => rfl
theorem b__law_pool (T : Txt P K mg) : Binds K (fdOf K "_law_pool") ["script", "place"] [] := T.f__law_pool.f.bindsN fun _ _ _ _ _ _ us hl => match us, hl with | [_, _], _ => rfl
theorem b__law_draw (T : Txt P K mg) : Binds K (fdOf K "_law_draw") ["pool", "many"] [] := T.f__law_draw.f.bindsN fun _ _ _ _ _ _ us hl => match us, hl with | [_, _], _ => rfl
theorem b__law_take (T : Txt P K mg) : Binds K (fdOf K "_law_take") ["pools", "many"] [] := T.f__law_take.f.bindsN fun _ _ _ _ _ _ us hl => match us, hl with | [_, _], _ => rfl
theorem b__law_same (T : Txt P K mg) : Binds K (fdOf K "_law_same") ["told", "due"] [] := T.f__law_same.f.bindsN fun _ _ _ _ _ _ us hl => match us, hl with | [_, _], _ => rfl
theorem b__law_wire (T : Txt P K mg) : Binds K (fdOf K "_law_wire") ["pools", "wires"] [] := T.f__law_wire.f.bindsN fun _ _ _ _ _ _ us hl => match us, hl with | [_, _], _ => rfl
theorem b__law_drawn (T : Txt P K mg) : Binds K (fdOf K "_law_drawn") ["pools", "free", "count", "many"] [] := T.f__law_drawn.f.bindsN fun _ _ _ _ _ _ us hl => match us, hl with | [_, _, _, _], _ => rfl
theorem b__law_wrong (T : Txt P K mg) : Binds K (fdOf K "_law_wrong") ["side", "least", "most"] [] := T.f__law_wrong.f.bindsN fun _ _ _ _ _ _ us hl => match us, hl with | [_, _, _], _ => rfl
theorem b__law_bent (T : Txt P K mg) : Binds K (fdOf K "_law_bent") ["side", "circuit", "times"] [] := T.f__law_bent.f.bindsN fun _ _ _ _ _ _ us hl => match us, hl with | [_, _, _], _ => rfl
theorem b__law_near (T : Txt P K mg) : Binds K (fdOf K "_law_near") ["pools", "free", "count", "many"] [] := T.f__law_near.f.bindsN fun _ _ _ _ _ _ us hl => match us, hl with | [_, _, _, _], _ => rfl
theorem b__law_due (T : Txt P K mg) : Binds K (fdOf K "_law_due") ["circuit"] [] := T.f__law_due.f.bindsN fun _ _ _ _ _ _ us hl => match us, hl with | [_], _ => rfl
theorem b__law_sized (T : Txt P K mg) : Binds K (fdOf K "_law_sized") ["side", "circuit", "bent"] [] := T.f__law_sized.f.bindsN fun _ _ _ _ _ _ us hl => match us, hl with | [_, _, _], _ => rfl
theorem b__law_beyond (T : Txt P K mg) : Binds K (fdOf K "_law_beyond") ["side", "circuit"] [] := T.f__law_beyond.f.bindsN fun _ _ _ _ _ _ us hl => match us, hl with | [_, _], _ => rfl
theorem b__law_told (T : Txt P K mg) : Binds K (fdOf K "_law_told") ["circuit"] [] := T.f__law_told.f.bindsN fun _ _ _ _ _ _ us hl => match us, hl with | [_], _ => rfl
theorem b__law_kinds (T : Txt P K mg) : Binds K (fdOf K "_law_kinds") ["circuit"] [] := T.f__law_kinds.f.bindsN fun _ _ _ _ _ _ us hl => match us, hl with | [_], _ => rfl
theorem b_law (T : Txt P K mg) : Binds K (fdOf K "law") ["script"] [] := T.f_law.f.bindsN fun _ _ _ _ _ _ us hl => match us, hl with | [_], _ => rfl
end
end K20
set_option maxHeartbeats 4000000
namespace K20
open PySem PySem.Spec PyProof.Rows L2 FabH He
local macro_rules | `(tactic| array_mem_dec) => `(tactic| (first | with_reducible assumption | with_reducible exact SqL.of (by array_get_dec) | with_reducible exact SqT.of (by array_get_dec) | ((repeat (with_reducible first | refine Same.seq (Same.new (by assumption)) ?_ | refine Same.tup (Same.new (by assumption)) ?_)); with_reducible assumption)))
local macro_rules | `(tactic| array_get_dec) => `(tactic| (first | with_reducible assumption | with_reducible exact upd_same | ((repeat (first | with_reducible exact upd_same | ((with_reducible apply at_new); with_reducible assumption) | ((with_reducible apply at_lstT); with_reducible assumption) | ((with_reducible apply at_lstR); with_reducible assumption) | ((with_reducible apply at_set); with_reducible assumption))); done) | ((repeat (first | ((with_reducible apply at_new); with_reducible assumption) | ((with_reducible apply at_lstT); with_reducible assumption) | ((with_reducible apply at_lstR); with_reducible assumption) | ((with_reducible apply at_set); with_reducible assumption))); with_reducible assumption)))
local macro_rules | `(tactic| walk_at "side") => `(tactic| (first | with_reducible assumption | decide | exact MOk.div (by assumption) | exact MOk.div (MOk.of (by decide) (by decide)) | (simp only [List.length_append, List.length_map, List.length_replicate, List.length_cons, List.length_nil, sizeLine_eq, CMul, CDivW, CPow]; omega) | omega))
local macro_rules | `(tactic| walk_at "st") => `(tactic| first
  | with_reducible refine g_cons ?_ | ((with_reducible apply g_var); (first | exact rfl | assumption)) | with_reducible refine g_const ?_ | with_reducible refine g_nil ?_ | with_reducible refine g_op ?_ | with_reducible refine g_rI0 ?_ | with_reducible refine g_seq ?_ | with_reducible refine g_asg ?_ | ((with_reducible refine g_name ?_); dsimp only [List.set_cons_zero, List.set_cons_succ])
  | with_reducible refine g_nx ?_ | with_reducible refine g_rt ?_ | with_reducible refine g_call ?_ | with_reducible refine g_ret ?_ | with_reducible refine g_test ?_ | with_reducible refine g_bl ?_ | with_reducible refine g_cb ?_ | with_reducible refine g_tB ?_ | with_reducible refine g_un ?_ | with_reducible refine g_rU ?_
  | with_reducible refine g_eqi ?_ | with_reducible refine g_int ?_ | with_reducible refine g_and ?_ | with_reducible refine g_or ?_ | with_reducible refine g_not ?_ | with_reducible refine g_drop ?_ | with_reducible refine g_next ?_ | with_reducible refine g_retN ?_ | with_reducible refine g_iteT ?_ | with_reducible refine g_iteF ?_ | with_reducible refine g_iteNT ?_ | with_reducible refine g_iteNF ?_
  | ((with_reducible apply g_ixL); array_mem_dec; (first | exact rfl | assumption)) | ((with_reducible apply g_ixT); array_mem_dec; (first | exact rfl | assumption)) | ((with_reducible apply g_lenL); array_mem_dec) | ((with_reducible apply g_lenT); array_mem_dec) | ((with_reducible apply g_rI); walk_at "side")
  | ((with_reducible apply g_setL); array_get_dec; (first | exact rfl | assumption)) | ((with_reducible apply g_app); array_get_dec; walk_at "side") | with_reducible refine g_tup ?_ | with_reducible refine g_lst ?_ | ((with_reducible apply g_listL); array_mem_dec) | ((with_reducible apply g_listT); array_mem_dec) | ((with_reducible apply g_tupT); array_mem_dec) | ((with_reducible apply g_tupL); array_mem_dec)
  | ((with_reducible apply g_room); walk_at "side") | with_reducible refine g_abs ?_ | with_reducible refine g_chain ?_ | with_reducible refine g_andV ?_ | with_reducible refine g_orV ?_ | with_reducible refine g_notV ?_ | with_reducible refine g_gsub ?_ | ((with_reducible apply g_gtup); array_mem_dec; (first | exact rfl | assumption)) | with_reducible refine g_gcons ?_ | with_reducible refine g_gnil ?_ | with_reducible refine g_bm ?_ | ((with_reducible apply g_tyL); array_mem_dec) | with_reducible refine g_tyS ?_
  | with_reducible refine g_callS ?_ | with_reducible refine g_nei ?_ | with_reducible refine g_eqs ?_ | with_reducible refine g_nes ?_ | with_reducible refine g_eqb ?_ | with_reducible refine g_nonI ?_ | with_reducible refine g_nonN ?_ | with_reducible refine g_nonS ?_ | with_reducible refine g_nonB ?_ | with_reducible refine g_nonR ?_ | with_reducible refine g_isBB ?_ | with_reducible refine g_isBI ?_ | with_reducible refine g_isBS ?_ | with_reducible refine g_isBR ?_ | with_reducible refine g_isBN ?_
  | with_reducible refine g_rng1 ?_ | with_reducible refine g_rng2 ?_ | ((with_reducible apply g_notInR); array_get_dec) | ((with_reducible apply g_inR); array_get_dec) | with_reducible refine g_for ?_ | with_reducible refine g_iList ?_ | with_reducible refine g_iTup ?_ | with_reducible refine g_iR1 ?_ | with_reducible refine g_iEnum ?_ | with_reducible refine g_lc ?_ | with_reducible refine g_yes ?_ | with_reducible refine g_slc ?_ | with_reducible refine g_raise ?_ | with_reducible refine g_exv ?_ | with_reducible refine g_xf ?_ | ((with_reducible apply g_xfe); array_get_dec; (first | exact rfl | assumption)) | with_reducible refine g_part ?_ | with_reducible refine g_nopart ?_ | with_reducible refine g_exi ?_ | with_reducible refine g_brk ?_ | with_reducible refine g_cnt ?_ | with_reducible refine g_bk ?_ | with_reducible refine g_ct ?_ | with_reducible refine g_if ?_
  | ((with_reducible apply g_atL); array_mem_dec) | ((with_reducible apply g_atT); array_mem_dec) | ((with_reducible apply g_enum); array_mem_dec) | ((with_reducible apply g_R1); walk_at "side"; walk_at "side")
  | with_reducible refine g_is_int_int ?_ | with_reducible refine g_is_int_bool ?_ | with_reducible refine g_is_int_str ?_ | with_reducible refine g_is_int_dict ?_ | with_reducible refine g_is_int_list ?_ | with_reducible refine g_is_int_tuple ?_ | with_reducible refine g_is_bool_bool ?_ | with_reducible refine g_is_bool_int ?_ | with_reducible refine g_is_str_int ?_ | with_reducible refine g_is_str_str ?_ | with_reducible refine g_is_str_dict ?_ | with_reducible refine g_is_str_list ?_ | with_reducible refine g_is_str_tuple ?_ | ((with_reducible apply g_is_list_int); array_get_dec) | ((with_reducible apply g_is_list_str); array_get_dec) | ((with_reducible apply g_is_list_dict); array_get_dec) | ((with_reducible apply g_is_list_list); array_get_dec) | ((with_reducible apply g_is_list_tuple); array_get_dec) | ((with_reducible apply g_is_tuple_int); array_get_dec) | ((with_reducible apply g_is_tuple_str); array_get_dec) | ((with_reducible apply g_is_tuple_dict); array_get_dec) | ((with_reducible apply g_is_tuple_list); array_get_dec) | ((with_reducible apply g_is_tuple_tuple); array_get_dec) | ((with_reducible apply g_ixSL); array_mem_dec; (first | exact rfl | assumption)) | ((with_reducible apply g_ixST); array_mem_dec; (first | exact rfl | assumption)))
local macro_rules | `(tactic| walk_at "go") => `(tactic| repeat first | with_reducible refine g_ifS ?_ | walk_at "st")
local macro_rules | `(tactic| walk_at "dec") => `(tactic| first | with_reducible assumption | decide | omega)
local macro_rules | `(tactic| walk_at "goD") => `(tactic| repeat first | with_reducible refine g_ifS ?_ | walk_at "st" | ((with_reducible apply g_iteY); walk_at "dec") | ((with_reducible apply g_iteX); walk_at "dec") | ((with_reducible apply g_iteNY); walk_at "dec") | ((with_reducible apply g_iteNX); walk_at "dec"))
local macro_rules | `(tactic| walk_at "goI") => `(tactic| repeat walk_at "st")
section
variable {P : Program} {w : World} {K : PySem.W.Frag} {mg : Str → Option Value} {base : Heap}
theorem ok_is_wire (T : Txt P K mg)  : FnOk P w K mg base CX0 1 (ga K "is_wire") (fdOf K "is_wire") ["wire", "wires"] (sp_is_wire) := by
  refine T.f_is_wire.f.ok sc_is_wire (fun vs H Q E h => by obtain ⟨_, _, e, _⟩ := h; rw [e]; rfl) (fun cdv A outer s H vs Q E hr h => ⟨(d_is_wire T  hr).1, PSs.nox (d_is_wire T  hr).2, ?_⟩)
  dsimp only [d_is_wire, cxOf]
  obtain ⟨x, w, rfl, q⟩ := h
  rw [show start N_is_wire [.int x, .int w] = [some (.int x), some (.int w)] from rfl]
  walk_at "go"
  refine g_ite (fun h => ?_) (fun h => ?_)
  · walk_at "go"
    exact q_of q (by simp [wireOk, h])
  · walk_at "go"
    exact q_of q (by simp [wireOk, h])
theorem ok_is_gate (T : Txt P K mg) (G_is_wire : FnOk P w K mg base CX0 1 (ga K "is_wire") (fdOf K "is_wire") ["wire", "wires"] (sp_is_wire)) : FnOk P w K mg base CX0 2 (ga K "is_gate") (fdOf K "is_gate") ["table", "first", "second", "wire"] (sp_is_gate) := by
  refine T.f_is_gate.f.ok sc_is_gate (fun vs H Q E h => by obtain ⟨_, _, e, _⟩ := h; rw [e]; rfl) (fun cdv A outer s H vs Q E hr h => ⟨(d_is_gate T G_is_wire (b_is_wire T) hr).1, PSs.nox (d_is_gate T G_is_wire (b_is_wire T) hr).2, ?_⟩)
  dsimp only [d_is_gate, cxOf]
  obtain ⟨g, w, rfl, q⟩ := h
  rw [show start N_is_gate [.int g.1, .int g.2.1, .int g.2.2, .int w] = [some (.int g.1), some (.int g.2.1), some (.int g.2.2), some (.int w)] from rfl]
  walk_at "go"
  refine g_ite (fun h => ?_) (fun h => ?_)
  · walk_at "go"
    refine g_ite (fun h2 => ?_) (fun h2 => ?_)
    · walk_at "go"
      refine ⟨_, _, rfl, ?_⟩
      walk_at "go"
      refine g_iteB (fun h3 => ?_) (fun h3 => ?_)
      · walk_at "go"
        refine ⟨_, _, rfl, ?_⟩
        walk_at "go"
        exact q_of q (by simp [gateOk, h, h2, h3])
      · walk_at "go"
        exact q_of q (by simp [gateOk, h, h2, h3])
    · walk_at "go"
      exact q_of q (by simp [gateOk, h, h2])
  · walk_at "go"
    exact q_of q (by simp [gateOk, h])
theorem ok__law_pool (T : Txt P K mg)  : FnOk P w K mg base CX0 1 (ga K "_law_pool") (fdOf K "_law_pool") ["script", "place"] (sp_pool1 K) := by
  refine T.f__law_pool.f.ok sc__law_pool (fun vs H Q E h => by obtain ⟨_, _, _, e, _⟩ := h; rw [e]; rfl) (fun cdv A outer s H vs Q E hr h => ⟨(d__law_pool T  hr).1, PSs.nox (d__law_pool T  hr).2, ?_⟩)
  dsimp only [d__law_pool, cxOf]
  obtain ⟨a, ns, i, rfl, hs, i0, i1, q⟩ := h
  rw [show start N__law_pool [.ref a, .int i] = [some (.ref a), some (.int i), none] from rfl]
  walk_at "go"
  refine g_ite (fun h => ?_) (fun h => ?_)
  · walk_at "go"
    exact fun p hp => q p _ ⟨_, _, _, _, rfl⟩ hp
  · walk_at "go"
    obtain ⟨c, e⟩ := atI_ints (ns := ns) (i := i % ((ns.map V.int).length : Int)) (Int.emod_nonneg _ h) (by have := Int.emod_lt_of_pos i (show 0 < ((ns.map V.int).length : Int) by omega); rw [List.length_map] at this; rw [List.length_map]; exact this)
    refine g_ixL hs e ?_
    walk_at "go"
    generalize (if c < 0 then -c else c) = d
    refine g_ite (fun h2 => ?_) (fun h2 => ?_)
    · walk_at "go"
      refine g_ite (fun h3 => ?_) (fun h3 => ?_)
      · walk_at "go"
        exact fun p hp => q p _ ⟨_, _, _, _, rfl⟩ hp
      · walk_at "go"
        exact fun p hp => q p _ ⟨_, _, _, _, rfl⟩ hp
    · walk_at "go"
      exact fun p hp => q p _ ⟨_, _, _, _, rfl⟩ hp
end

end K20
set_option maxHeartbeats 4000000
namespace K20
open PySem PySem.Spec PyProof.Rows L2 FabH He
local macro_rules | `(tactic| array_mem_dec) => `(tactic| (first | with_reducible assumption | with_reducible exact SqL.of (by array_get_dec) | with_reducible exact SqT.of (by array_get_dec) | ((repeat (with_reducible first | refine Same.seq (Same.new (by assumption)) ?_ | refine Same.tup (Same.new (by assumption)) ?_)); with_reducible assumption)))
local macro_rules | `(tactic| array_get_dec) => `(tactic| (first | with_reducible assumption | with_reducible exact upd_same | ((repeat (first | with_reducible exact upd_same | ((with_reducible apply at_new); with_reducible assumption) | ((with_reducible apply at_lstT); with_reducible assumption) | ((with_reducible apply at_lstR); with_reducible assumption) | ((with_reducible apply at_set); with_reducible assumption))); done) | ((repeat (first | ((with_reducible apply at_new); with_reducible assumption) | ((with_reducible apply at_lstT); with_reducible assumption) | ((with_reducible apply at_lstR); with_reducible assumption) | ((with_reducible apply at_set); with_reducible assumption))); with_reducible assumption)))
local macro_rules | `(tactic| walk_at "side") => `(tactic| (first | with_reducible assumption | decide | exact MOk.div (by assumption) | exact MOk.div (MOk.of (by decide) (by decide)) | (simp only [List.length_append, List.length_map, List.length_replicate, List.length_cons, List.length_nil, sizeLine_eq, CMul, CDivW, CPow]; omega) | omega))
local macro_rules | `(tactic| walk_at "st") => `(tactic| first
  | with_reducible refine g_cons ?_ | ((with_reducible apply g_var); (first | exact rfl | assumption)) | with_reducible refine g_const ?_ | with_reducible refine g_nil ?_ | with_reducible refine g_op ?_ | with_reducible refine g_rI0 ?_ | with_reducible refine g_seq ?_ | with_reducible refine g_asg ?_ | ((with_reducible refine g_name ?_); dsimp only [List.set_cons_zero, List.set_cons_succ])
  | with_reducible refine g_nx ?_ | with_reducible refine g_rt ?_ | with_reducible refine g_call ?_ | with_reducible refine g_ret ?_ | with_reducible refine g_test ?_ | with_reducible refine g_bl ?_ | with_reducible refine g_cb ?_ | with_reducible refine g_tB ?_ | with_reducible refine g_un ?_ | with_reducible refine g_rU ?_
  | with_reducible refine g_eqi ?_ | with_reducible refine g_int ?_ | with_reducible refine g_and ?_ | with_reducible refine g_or ?_ | with_reducible refine g_not ?_ | with_reducible refine g_drop ?_ | with_reducible refine g_next ?_ | with_reducible refine g_retN ?_ | with_reducible refine g_iteT ?_ | with_reducible refine g_iteF ?_ | with_reducible refine g_iteNT ?_ | with_reducible refine g_iteNF ?_
  | ((with_reducible apply g_ixL); array_mem_dec; (first | exact rfl | assumption)) | ((with_reducible apply g_ixT); array_mem_dec; (first | exact rfl | assumption)) | ((with_reducible apply g_lenL); array_mem_dec) | ((with_reducible apply g_lenT); array_mem_dec) | ((with_reducible apply g_rI); walk_at "side")
  | ((with_reducible apply g_setL); array_get_dec; (first | exact rfl | assumption)) | ((with_reducible apply g_app); array_get_dec; walk_at "side") | with_reducible refine g_tup ?_ | with_reducible refine g_lst ?_ | ((with_reducible apply g_listL); array_mem_dec) | ((with_reducible apply g_listT); array_mem_dec) | ((with_reducible apply g_tupT); array_mem_dec) | ((with_reducible apply g_tupL); array_mem_dec)
  | ((with_reducible apply g_room); walk_at "side") | with_reducible refine g_abs ?_ | with_reducible refine g_chain ?_ | with_reducible refine g_andV ?_ | with_reducible refine g_orV ?_ | with_reducible refine g_notV ?_ | with_reducible refine g_gsub ?_ | ((with_reducible apply g_gtup); array_mem_dec; (first | exact rfl | assumption)) | with_reducible refine g_gcons ?_ | with_reducible refine g_gnil ?_ | with_reducible refine g_bm ?_ | ((with_reducible apply g_tyL); array_mem_dec) | with_reducible refine g_tyS ?_
  | with_reducible refine g_callS ?_ | with_reducible refine g_nei ?_ | with_reducible refine g_eqs ?_ | with_reducible refine g_nes ?_ | with_reducible refine g_eqb ?_ | with_reducible refine g_nonI ?_ | with_reducible refine g_nonN ?_ | with_reducible refine g_nonS ?_ | with_reducible refine g_nonB ?_ | with_reducible refine g_nonR ?_ | with_reducible refine g_isBB ?_ | with_reducible refine g_isBI ?_ | with_reducible refine g_isBS ?_ | with_reducible refine g_isBR ?_ | with_reducible refine g_isBN ?_
  | with_reducible refine g_rng1 ?_ | with_reducible refine g_rng2 ?_ | ((with_reducible apply g_notInR); array_get_dec) | ((with_reducible apply g_inR); array_get_dec) | with_reducible refine g_for ?_ | with_reducible refine g_iList ?_ | with_reducible refine g_iTup ?_ | with_reducible refine g_iR1 ?_ | with_reducible refine g_iEnum ?_ | with_reducible refine g_lc ?_ | with_reducible refine g_yes ?_ | with_reducible refine g_slc ?_ | with_reducible refine g_raise ?_ | with_reducible refine g_exv ?_ | with_reducible refine g_xf ?_ | ((with_reducible apply g_xfe); array_get_dec; (first | exact rfl | assumption)) | with_reducible refine g_part ?_ | with_reducible refine g_nopart ?_ | with_reducible refine g_exi ?_ | with_reducible refine g_brk ?_ | with_reducible refine g_cnt ?_ | with_reducible refine g_bk ?_ | with_reducible refine g_ct ?_ | with_reducible refine g_if ?_
  | ((with_reducible apply g_atL); array_mem_dec) | ((with_reducible apply g_atT); array_mem_dec) | ((with_reducible apply g_enum); array_mem_dec) | ((with_reducible apply g_R1); walk_at "side"; walk_at "side")
  | with_reducible refine g_is_int_int ?_ | with_reducible refine g_is_int_bool ?_ | with_reducible refine g_is_int_str ?_ | with_reducible refine g_is_int_dict ?_ | with_reducible refine g_is_int_list ?_ | with_reducible refine g_is_int_tuple ?_ | with_reducible refine g_is_bool_bool ?_ | with_reducible refine g_is_bool_int ?_ | with_reducible refine g_is_str_int ?_ | with_reducible refine g_is_str_str ?_ | with_reducible refine g_is_str_dict ?_ | with_reducible refine g_is_str_list ?_ | with_reducible refine g_is_str_tuple ?_ | ((with_reducible apply g_is_list_int); array_get_dec) | ((with_reducible apply g_is_list_str); array_get_dec) | ((with_reducible apply g_is_list_dict); array_get_dec) | ((with_reducible apply g_is_list_list); array_get_dec) | ((with_reducible apply g_is_list_tuple); array_get_dec) | ((with_reducible apply g_is_tuple_int); array_get_dec) | ((with_reducible apply g_is_tuple_str); array_get_dec) | ((with_reducible apply g_is_tuple_dict); array_get_dec) | ((with_reducible apply g_is_tuple_list); array_get_dec) | ((with_reducible apply g_is_tuple_tuple); array_get_dec) | ((with_reducible apply g_ixSL); array_mem_dec; (first | exact rfl | assumption)) | ((with_reducible apply g_ixST); array_mem_dec; (first | exact rfl | assumption)))
local macro_rules | `(tactic| walk_at "go") => `(tactic| repeat first | with_reducible refine g_ifS ?_ | walk_at "st")
local macro_rules | `(tactic| walk_at "dec") => `(tactic| first | with_reducible assumption | decide | omega)
local macro_rules | `(tactic| walk_at "goD") => `(tactic| repeat first | with_reducible refine g_ifS ?_ | walk_at "st" | ((with_reducible apply g_iteY); walk_at "dec") | ((with_reducible apply g_iteX); walk_at "dec") | ((with_reducible apply g_iteNY); walk_at "dec") | ((with_reducible apply g_iteNX); walk_at "dec"))
local macro_rules | `(tactic| walk_at "goI") => `(tactic| repeat walk_at "st")
section
variable {P : Program} {w : World} {K : PySem.W.Frag} {mg : Str → Option Value} {base : Heap}
theorem ok__law_draw (T : Txt P K mg)  : FnOk P w K mg base CX0 1 (ga K "_law_draw") (fdOf K "_law_draw") ["pool", "many"] (sp_draw1) := by
  refine T.f__law_draw.f.ok sc__law_draw (fun vs H Q E h => by obtain ⟨_, _, _, e, _⟩ := h; rw [e]; rfl) (fun cdv A outer s H vs Q E hr h => ⟨(d__law_draw T  hr).1, PSs.nox (d__law_draw T  hr).2, ?_⟩)
  dsimp only [d__law_draw, cxOf]
  obtain ⟨p, m, xs, rfl, ⟨k, c, x, n, rfl⟩, hp, hm, q⟩ := h
  have m0 : 0 < m := hm.1
  rw [show start N__law_draw [.ref p, .int m] = [some (.ref p), some (.int m), none, none] from rfl]
  walk_at "go"
  refine g_ite (fun h => ?_) (fun h => ?_)
  · walk_at "go"
    exact q _ _ ⟨_, _, _, _, rfl⟩ (Int.le_refl 0) m0
  · walk_at "go"
    refine g_ite (fun h2 => ?_) (fun h2 => ?_)
    · walk_at "go"
      refine g_ite (fun h3 => ?_) (fun h3 => ?_)
      · walk_at "go"
        refine g_ite (fun h4 => ?_) (fun h4 => ?_)
        · walk_at "go"
          rw [upd_upd]
          exact q _ _ ⟨_, _, _, _, rfl⟩ (Int.emod_nonneg _ (by omega)) (Int.emod_lt_of_pos _ m0)
        · walk_at "go"
          exact q _ _ ⟨_, _, _, _, rfl⟩ (Int.emod_nonneg _ (by omega)) (Int.emod_lt_of_pos _ m0)
      · walk_at "go"
        exact q _ _ ⟨_, _, _, _, rfl⟩ (Int.emod_nonneg _ (by omega)) (Int.emod_lt_of_pos _ m0)
    · walk_at "go"
      exact q _ _ ⟨_, _, _, _, rfl⟩ (Int.emod_nonneg _ (by omega)) (Int.emod_lt_of_pos _ m0)
theorem ok__law_take (T : Txt P K mg) (G__law_draw : FnOk P w K mg base CX0 1 (ga K "_law_draw") (fdOf K "_law_draw") ["pool", "many"] (sp_draw1)) : FnOk P w K mg base CX0 2 (ga K "_law_take") (fdOf K "_law_take") ["pools", "many"] (sp_take1 K) := by
  refine T.f__law_take.f.ok sc__law_take (fun vs H Q E h => by obtain ⟨_, _, _, e, _⟩ := h; rw [e]; rfl) (fun cdv A outer s H vs Q E hr h => ⟨(d__law_take T G__law_draw (b__law_draw T) hr).1, PSs.nox (d__law_take T G__law_draw (b__law_draw T) hr).2, ?_⟩)
  dsimp only [d__law_take, cxOf]
  obtain ⟨l, ps, m, rfl, hl, hne, hp, hm, q⟩ := h
  have one : ∀ p ∈ ps, ∀ Q', (∀ r ys, Ints4 ys → 0 ≤ r → r < m → Q' (.int r) (upd H p (.lst ys))) → sp_draw1 [.ref p, .int m] H Q' E := fun p z Q' q' => by
    obtain ⟨xs, ix, hx⟩ := hp p z
    exact ⟨p, m, xs, rfl, ix, hx, hm, q'⟩
  rw [show start N__law_take [.ref l, .int m] = [some (.ref l), some (.int m), none] from rfl]
  walk_at "go"
  refine for_list (fun i σ H' => H' = H ∧ ∃ o, σ = [some (.ref l), some (.int m), o]) ⟨rfl, _, rfl⟩ (fun i σ H' _ h => by rw [h.1]; exact hl) ?_ ?_
  · rintro i x σ H' hx ⟨rfl, o, rfl⟩
    rw [List.getElem?_map] at hx
    obtain ⟨p, hy, rfl⟩ := Option.map_eq_some_iff.mp hx
    have z : p ∈ ps := List.mem_of_getElem? hy
    obtain ⟨xs, ix, hxs⟩ := hp p z
    obtain ⟨k, c, y, n, rfl⟩ := ix
    walk_at "go"
    refine g_ite (fun h2 => ?_) (fun h2 => ?_)
    · walk_at "go"
      exact one p z _ fun r ys iy r0 r1 => by
        walk_at "go"
        exact q r p ys z iy r0 r1
    · walk_at "go"
      exact ⟨rfl, _, rfl⟩
  · rintro σ H' ⟨rfl, o, rfl⟩
    obtain ⟨p, r, rfl⟩ : ∃ p r, ps = p :: r := by
      cases ps with
      | nil => exact absurd rfl hne
      | cons p r => exact ⟨p, r, rfl⟩
    walk_at "go"
    refine g_ixL hl (atI_zero (x := .ref p) rfl) ?_
    walk_at "go"
    exact one p (by simp) _ fun r ys iy r0 r1 => by
        walk_at "go"
        exact q r p ys (by simp) iy r0 r1
theorem ok__law_wire (T : Txt P K mg) (G__law_take : FnOk P w K mg base CX0 2 (ga K "_law_take") (fdOf K "_law_take") ["pools", "many"] (sp_take)) : FnOk P w K mg base CX0 3 (ga K "_law_wire") (fdOf K "_law_wire") ["pools", "wires"] (sp__law_wire) := by
  refine T.f__law_wire.f.ok sc__law_wire (fun vs H Q E h => by obtain ⟨_, _, e, _⟩ := h; rw [e]; rfl) (fun cdv A outer s H vs Q E hr h => ⟨(d__law_wire T G__law_take (b__law_take T) hr).1, PSs.nox (d__law_wire T G__law_take (b__law_take T) hr).2, ?_⟩)
  dsimp only [d__law_wire, cxOf]
  obtain ⟨v, w, rfl, ⟨l, ps, rfl, hl, hne, hp⟩, w0, w1, q⟩ := h
  rw [show start N__law_wire [.ref l, .int w] = [some (.ref l), some (.int w)] from rfl]
  walk_at "go"
  refine ⟨l, ps, _, rfl, hl, hne, hp, .of (by omega) (by omega), fun r r0 r1 => ?_⟩
  walk_at "go"
  exact q _ (by simp [wireOk]; omega)
theorem ok__law_wrong (T : Txt P K mg) (G__law_draw : FnOk P w K mg base CX0 1 (ga K "_law_draw") (fdOf K "_law_draw") ["pool", "many"] (sp_draw)) : FnOk P w K mg base CX0 2 (ga K "_law_wrong") (fdOf K "_law_wrong") ["side", "least", "most"] (sp__law_wrong) := by
  refine T.f__law_wrong.f.ok sc__law_wrong (fun vs H Q E h => by obtain ⟨_, _, _, e, _⟩ := h; rw [e]; rfl) (fun cdv A outer s H vs Q E hr h => ⟨(d__law_wrong T G__law_draw (b__law_draw T) hr).1, PSs.nox (d__law_wrong T G__law_draw (b__law_draw T) hr).2, ?_⟩)
  dsimp only [d__law_wrong, cxOf]
  obtain ⟨p, lo, hi, rfl, hp, q⟩ := h
  rw [show start N__law_wrong [.ref p, .int lo, .int hi] = [some (.ref p), some (.int lo), some (.int hi), none] from rfl]
  walk_at "goI"
  refine g_keep (fun σ H' => ∃ away : Int, σ = [some (.ref p), some (.int lo), some (.int hi), some (.int away)] ∧ H' = H ∧ 0 < away) ?_ (fun f fin => ?_)
  · rintro σ H' ⟨away, rfl, rfl, a0⟩
    walk_at "go"
    refine ⟨p, 2, rfl, hp, .of (by decide) (by decide), fun r r0 r1 => ?_⟩
    walk_at "go"
    refine g_ite (fun h => ?_) (fun h => ?_)
    · walk_at "go"
      exact q _ (.inl (by omega))
    · walk_at "go"
      exact q _ (.inr (by omega))
  walk_at "go"
  refine ⟨p, 4, rfl, hp, .of (by decide) (by decide), fun r r0 r1 => ?_⟩
  walk_at "go"
  refine g_ite (fun h => ?_) (fun h => ?_)
  · walk_at "go"
    refine ⟨p, _, rfl, hp, ⟨by decide, by decide⟩, fun r2 r3 r4 => ?_⟩
    walk_at "go"
    refine fin _ _ ?_
    exact ⟨_, rfl, rfl, by omega⟩
  · walk_at "go"
    refine fin _ _ ?_
    exact ⟨_, rfl, rfl, by decide⟩
end

end K20
set_option maxHeartbeats 4000000
namespace K20
open PySem PySem.Spec PyProof.Rows L2 FabH He
local macro_rules | `(tactic| array_mem_dec) => `(tactic| (first | with_reducible assumption | with_reducible exact SqL.of (by array_get_dec) | with_reducible exact SqT.of (by array_get_dec) | ((repeat (with_reducible first | refine Same.seq (Same.new (by assumption)) ?_ | refine Same.tup (Same.new (by assumption)) ?_)); with_reducible assumption)))
local macro_rules | `(tactic| array_get_dec) => `(tactic| (first | with_reducible assumption | with_reducible exact upd_same | ((repeat (first | with_reducible exact upd_same | ((with_reducible apply at_new); with_reducible assumption) | ((with_reducible apply at_lstT); with_reducible assumption) | ((with_reducible apply at_lstR); with_reducible assumption) | ((with_reducible apply at_set); with_reducible assumption))); done) | ((repeat (first | ((with_reducible apply at_new); with_reducible assumption) | ((with_reducible apply at_lstT); with_reducible assumption) | ((with_reducible apply at_lstR); with_reducible assumption) | ((with_reducible apply at_set); with_reducible assumption))); with_reducible assumption)))
local macro_rules | `(tactic| walk_at "side") => `(tactic| (first | with_reducible assumption | decide | exact MOk.div (by assumption) | exact MOk.div (MOk.of (by decide) (by decide)) | (simp only [List.length_append, List.length_map, List.length_replicate, List.length_cons, List.length_nil, sizeLine_eq, CMul, CDivW, CPow]; omega) | omega))
local macro_rules | `(tactic| walk_at "st") => `(tactic| first
  | with_reducible refine g_cons ?_ | ((with_reducible apply g_var); (first | exact rfl | assumption)) | with_reducible refine g_const ?_ | with_reducible refine g_nil ?_ | with_reducible refine g_op ?_ | with_reducible refine g_rI0 ?_ | with_reducible refine g_seq ?_ | with_reducible refine g_asg ?_ | ((with_reducible refine g_name ?_); dsimp only [List.set_cons_zero, List.set_cons_succ])
  | with_reducible refine g_nx ?_ | with_reducible refine g_rt ?_ | with_reducible refine g_call ?_ | with_reducible refine g_ret ?_ | with_reducible refine g_test ?_ | with_reducible refine g_bl ?_ | with_reducible refine g_cb ?_ | with_reducible refine g_tB ?_ | with_reducible refine g_un ?_ | with_reducible refine g_rU ?_
  | with_reducible refine g_eqi ?_ | with_reducible refine g_int ?_ | with_reducible refine g_and ?_ | with_reducible refine g_or ?_ | with_reducible refine g_not ?_ | with_reducible refine g_drop ?_ | with_reducible refine g_next ?_ | with_reducible refine g_retN ?_ | with_reducible refine g_iteT ?_ | with_reducible refine g_iteF ?_ | with_reducible refine g_iteNT ?_ | with_reducible refine g_iteNF ?_
  | ((with_reducible apply g_ixL); array_mem_dec; (first | exact rfl | assumption)) | ((with_reducible apply g_ixT); array_mem_dec; (first | exact rfl | assumption)) | ((with_reducible apply g_lenL); array_mem_dec) | ((with_reducible apply g_lenT); array_mem_dec) | ((with_reducible apply g_rI); walk_at "side")
  | ((with_reducible apply g_setL); array_get_dec; (first | exact rfl | assumption)) | ((with_reducible apply g_app); array_get_dec; walk_at "side") | with_reducible refine g_tup ?_ | with_reducible refine g_lst ?_ | ((with_reducible apply g_listL); array_mem_dec) | ((with_reducible apply g_listT); array_mem_dec) | ((with_reducible apply g_tupT); array_mem_dec) | ((with_reducible apply g_tupL); array_mem_dec)
  | ((with_reducible apply g_room); walk_at "side") | with_reducible refine g_abs ?_ | with_reducible refine g_chain ?_ | with_reducible refine g_andV ?_ | with_reducible refine g_orV ?_ | with_reducible refine g_notV ?_ | with_reducible refine g_gsub ?_ | ((with_reducible apply g_gtup); array_mem_dec; (first | exact rfl | assumption)) | with_reducible refine g_gcons ?_ | with_reducible refine g_gnil ?_ | with_reducible refine g_bm ?_ | ((with_reducible apply g_tyL); array_mem_dec) | with_reducible refine g_tyS ?_
  | with_reducible refine g_callS ?_ | with_reducible refine g_nei ?_ | with_reducible refine g_eqs ?_ | with_reducible refine g_nes ?_ | with_reducible refine g_eqb ?_ | with_reducible refine g_nonI ?_ | with_reducible refine g_nonN ?_ | with_reducible refine g_nonS ?_ | with_reducible refine g_nonB ?_ | with_reducible refine g_nonR ?_ | with_reducible refine g_isBB ?_ | with_reducible refine g_isBI ?_ | with_reducible refine g_isBS ?_ | with_reducible refine g_isBR ?_ | with_reducible refine g_isBN ?_
  | with_reducible refine g_rng1 ?_ | with_reducible refine g_rng2 ?_ | ((with_reducible apply g_notInR); array_get_dec) | ((with_reducible apply g_inR); array_get_dec) | with_reducible refine g_for ?_ | with_reducible refine g_iList ?_ | with_reducible refine g_iTup ?_ | with_reducible refine g_iR1 ?_ | with_reducible refine g_iEnum ?_ | with_reducible refine g_lc ?_ | with_reducible refine g_yes ?_ | with_reducible refine g_slc ?_ | with_reducible refine g_raise ?_ | with_reducible refine g_exv ?_ | with_reducible refine g_xf ?_ | ((with_reducible apply g_xfe); array_get_dec; (first | exact rfl | assumption)) | with_reducible refine g_part ?_ | with_reducible refine g_nopart ?_ | with_reducible refine g_exi ?_ | with_reducible refine g_brk ?_ | with_reducible refine g_cnt ?_ | with_reducible refine g_bk ?_ | with_reducible refine g_ct ?_ | with_reducible refine g_if ?_
  | ((with_reducible apply g_atL); array_mem_dec) | ((with_reducible apply g_atT); array_mem_dec) | ((with_reducible apply g_enum); array_mem_dec) | ((with_reducible apply g_R1); walk_at "side"; walk_at "side")
  | with_reducible refine g_is_int_int ?_ | with_reducible refine g_is_int_bool ?_ | with_reducible refine g_is_int_str ?_ | with_reducible refine g_is_int_dict ?_ | with_reducible refine g_is_int_list ?_ | with_reducible refine g_is_int_tuple ?_ | with_reducible refine g_is_bool_bool ?_ | with_reducible refine g_is_bool_int ?_ | with_reducible refine g_is_str_int ?_ | with_reducible refine g_is_str_str ?_ | with_reducible refine g_is_str_dict ?_ | with_reducible refine g_is_str_list ?_ | with_reducible refine g_is_str_tuple ?_ | ((with_reducible apply g_is_list_int); array_get_dec) | ((with_reducible apply g_is_list_str); array_get_dec) | ((with_reducible apply g_is_list_dict); array_get_dec) | ((with_reducible apply g_is_list_list); array_get_dec) | ((with_reducible apply g_is_list_tuple); array_get_dec) | ((with_reducible apply g_is_tuple_int); array_get_dec) | ((with_reducible apply g_is_tuple_str); array_get_dec) | ((with_reducible apply g_is_tuple_dict); array_get_dec) | ((with_reducible apply g_is_tuple_list); array_get_dec) | ((with_reducible apply g_is_tuple_tuple); array_get_dec) | ((with_reducible apply g_ixSL); array_mem_dec; (first | exact rfl | assumption)) | ((with_reducible apply g_ixST); array_mem_dec; (first | exact rfl | assumption)))
local macro_rules | `(tactic| walk_at "go") => `(tactic| repeat first | with_reducible refine g_ifS ?_ | walk_at "st")
local macro_rules | `(tactic| walk_at "dec") => `(tactic| first | with_reducible assumption | decide | omega)
local macro_rules | `(tactic| walk_at "goD") => `(tactic| repeat first | with_reducible refine g_ifS ?_ | walk_at "st" | ((with_reducible apply g_iteY); walk_at "dec") | ((with_reducible apply g_iteX); walk_at "dec") | ((with_reducible apply g_iteNY); walk_at "dec") | ((with_reducible apply g_iteNX); walk_at "dec"))
local macro_rules | `(tactic| walk_at "goI") => `(tactic| repeat walk_at "st")
section
variable {P : Program} {w : World} {K : PySem.W.Frag} {mg : Str → Option Value} {base : Heap}
theorem ok__law_same (T : Txt P K mg) : ∀ n : Nat, FnOk P w K mg base CX0 (n + 2) (ga K "_law_same") (fdOf K "_law_same") ["told", "due"] (sp_same n) := by
  intro n
  induction n with
  | zero => exact T.f__law_same.f.ok sc__law_same (fun vs H Q E h => by obtain ⟨_, _, e, _⟩ := h; rw [e]; rfl) (fun cdv A outer s H vs Q E hr h => by obtain ⟨_, _, _, h, _⟩ := h; exact h.elim)
  | succ n ih =>
  refine T.f__law_same.f.ok sc__law_same (fun vs H Q E h => by obtain ⟨_, _, e, _⟩ := h; rw [e]; rfl) (fun cdv A outer s H vs Q E hr h => ⟨(d__law_same T ih (b__law_same T) hr).1, PSs.nox (d__law_same T ih (b__law_same T) hr).2, ?_⟩)
  dsimp only [d__law_same, cxOf]
  obtain ⟨x, y, rfl, hd, q⟩ := h
  rcases hd with ⟨rfl, rfl⟩ | ⟨b, rfl, rfl⟩ | ⟨i, rfl, rfl⟩ | ⟨z, rfl, rfl⟩ | ⟨a, b, xs, ys, rfl, rfl, hh, hl, hz, hr2⟩
  · rw [show start N__law_same [.non, .non] = [some .non, some .non, none, none] from rfl]
    walk_at "go"
    exact q
  · rw [show start N__law_same [.bl b, .bl b] = [some (.bl b), some (.bl b), none, none] from rfl]
    walk_at "go"
    refine g_ite (fun h => ?_) (fun h => ?_)
    · walk_at "go"
      exact q_of q (by rw [h]; rfl)
    · walk_at "go"
      refine g_ite (fun h2 => ?_) (fun h2 => ?_)
      · walk_at "go"
        exact q_of q (by rw [h2]; rfl)
      · cases b
        · exact absurd rfl h2
        · exact absurd rfl h
  · rw [show start N__law_same [.int i, .int i] = [some (.int i), some (.int i), none, none] from rfl]
    walk_at "go"
    exact q_of q (by simp)
  · rw [show start N__law_same [.str z, .str z] = [some (.str z), some (.str z), none, none] from rfl]
    walk_at "go"
    exact q_of q (by simp)
  · rw [show start N__law_same [.ref a, .ref b] = [some (.ref a), some (.ref b), none, none] from rfl]
    rcases hh with ⟨h1, h2⟩ | ⟨h1, h2⟩
    · walk_at "go"
      refine g_iteN (fun h => absurd (congrArg Int.ofNat hl) h) (fun h => ?_)
      walk_at "go"
      refine for_range (fun i σ H' => ∃ o, σ = [some (.ref a), some (.ref b), none, o] ∧ H' = H) ⟨_, rfl, rfl⟩ ?_ ?_
      · rintro i σ H' hi ⟨o, rfl, rfl⟩
        have hi2 : i < ys.length := by omega
        obtain ⟨u, hu⟩ : ∃ u, xs[i]? = some u := ⟨_, List.getElem?_eq_getElem (by omega)⟩
        obtain ⟨v, hv⟩ : ∃ v, ys[i]? = some v := ⟨_, List.getElem?_eq_getElem (by omega)⟩
        have eu : atI xs (0 + (i : Int)) = some u := by rw [Int.zero_add]; exact atI_nat hu
        have ev : atI ys (0 + (i : Int)) = some v := by rw [Int.zero_add]; exact atI_nat hv
        walk_at "go"
        refine ⟨u, v, rfl, hr2 i u v hu hv, ?_⟩
        walk_at "go"
        exact ⟨_, rfl, rfl⟩
      · rintro σ H' ⟨o, rfl, rfl⟩
        walk_at "go"
        exact q
    · walk_at "go"
      refine g_iteN (fun h => absurd (congrArg Int.ofNat hl) h) (fun h => ?_)
      walk_at "go"
      refine for_range (fun i σ H' => ∃ o, σ = [some (.ref a), some (.ref b), none, o] ∧ H' = H) ⟨_, rfl, rfl⟩ ?_ ?_
      · rintro i σ H' hi ⟨o, rfl, rfl⟩
        have hi2 : i < ys.length := by omega
        obtain ⟨u, hu⟩ : ∃ u, xs[i]? = some u := ⟨_, List.getElem?_eq_getElem (by omega)⟩
        obtain ⟨v, hv⟩ : ∃ v, ys[i]? = some v := ⟨_, List.getElem?_eq_getElem (by omega)⟩
        have eu : atI xs (0 + (i : Int)) = some u := by rw [Int.zero_add]; exact atI_nat hu
        have ev : atI ys (0 + (i : Int)) = some v := by rw [Int.zero_add]; exact atI_nat hv
        walk_at "go"
        refine ⟨u, v, rfl, hr2 i u v hu hv, ?_⟩
        walk_at "go"
        exact ⟨_, rfl, rfl⟩
      · rintro σ H' ⟨o, rfl, rfl⟩
        walk_at "go"
        exact q
end

end K20
set_option maxHeartbeats 4000000
namespace K20
open PySem PySem.Spec PyProof.Rows L2 FabH He
local macro_rules | `(tactic| array_mem_dec) => `(tactic| (first | with_reducible assumption | with_reducible exact SqL.of (by array_get_dec) | with_reducible exact SqT.of (by array_get_dec) | ((repeat (with_reducible first | refine Same.seq (Same.new (by assumption)) ?_ | refine Same.tup (Same.new (by assumption)) ?_)); with_reducible assumption)))
local macro_rules | `(tactic| array_get_dec) => `(tactic| (first | with_reducible assumption | with_reducible exact upd_same | ((repeat (first | with_reducible exact upd_same | ((with_reducible apply at_new); with_reducible assumption) | ((with_reducible apply at_lstT); with_reducible assumption) | ((with_reducible apply at_lstR); with_reducible assumption) | ((with_reducible apply at_set); with_reducible assumption))); done) | ((repeat (first | ((with_reducible apply at_new); with_reducible assumption) | ((with_reducible apply at_lstT); with_reducible assumption) | ((with_reducible apply at_lstR); with_reducible assumption) | ((with_reducible apply at_set); with_reducible assumption))); with_reducible assumption)))
local macro_rules | `(tactic| walk_at "side") => `(tactic| (first | with_reducible assumption | decide | exact MOk.div (by assumption) | exact MOk.div (MOk.of (by decide) (by decide)) | (simp only [List.length_append, List.length_map, List.length_replicate, List.length_cons, List.length_nil, sizeLine_eq, CMul, CDivW, CPow]; omega) | omega))
local macro_rules | `(tactic| walk_at "st") => `(tactic| first
  | with_reducible refine g_cons ?_ | ((with_reducible apply g_var); (first | exact rfl | assumption)) | with_reducible refine g_const ?_ | with_reducible refine g_nil ?_ | with_reducible refine g_op ?_ | with_reducible refine g_rI0 ?_ | with_reducible refine g_seq ?_ | with_reducible refine g_asg ?_ | ((with_reducible refine g_name ?_); dsimp only [List.set_cons_zero, List.set_cons_succ])
  | with_reducible refine g_nx ?_ | with_reducible refine g_rt ?_ | with_reducible refine g_call ?_ | with_reducible refine g_ret ?_ | with_reducible refine g_test ?_ | with_reducible refine g_bl ?_ | with_reducible refine g_cb ?_ | with_reducible refine g_tB ?_ | with_reducible refine g_un ?_ | with_reducible refine g_rU ?_
  | with_reducible refine g_eqi ?_ | with_reducible refine g_int ?_ | with_reducible refine g_and ?_ | with_reducible refine g_or ?_ | with_reducible refine g_not ?_ | with_reducible refine g_drop ?_ | with_reducible refine g_next ?_ | with_reducible refine g_retN ?_ | with_reducible refine g_iteT ?_ | with_reducible refine g_iteF ?_ | with_reducible refine g_iteNT ?_ | with_reducible refine g_iteNF ?_
  | ((with_reducible apply g_ixL); array_mem_dec; (first | exact rfl | assumption)) | ((with_reducible apply g_ixT); array_mem_dec; (first | exact rfl | assumption)) | ((with_reducible apply g_lenL); array_mem_dec) | ((with_reducible apply g_lenT); array_mem_dec) | ((with_reducible apply g_rI); walk_at "side")
  | ((with_reducible apply g_setL); array_get_dec; (first | exact rfl | assumption)) | ((with_reducible apply g_app); array_get_dec; walk_at "side") | with_reducible refine g_tup ?_ | with_reducible refine g_lst ?_ | ((with_reducible apply g_listL); array_mem_dec) | ((with_reducible apply g_listT); array_mem_dec) | ((with_reducible apply g_tupT); array_mem_dec) | ((with_reducible apply g_tupL); array_mem_dec)
  | ((with_reducible apply g_room); walk_at "side") | with_reducible refine g_abs ?_ | with_reducible refine g_chain ?_ | with_reducible refine g_andV ?_ | with_reducible refine g_orV ?_ | with_reducible refine g_notV ?_ | with_reducible refine g_gsub ?_ | ((with_reducible apply g_gtup); array_mem_dec; (first | exact rfl | assumption)) | with_reducible refine g_gcons ?_ | with_reducible refine g_gnil ?_ | with_reducible refine g_bm ?_ | ((with_reducible apply g_tyL); array_mem_dec) | with_reducible refine g_tyS ?_
  | with_reducible refine g_callS ?_ | with_reducible refine g_nei ?_ | with_reducible refine g_eqs ?_ | with_reducible refine g_nes ?_ | with_reducible refine g_eqb ?_ | with_reducible refine g_nonI ?_ | with_reducible refine g_nonN ?_ | with_reducible refine g_nonS ?_ | with_reducible refine g_nonB ?_ | with_reducible refine g_nonR ?_ | with_reducible refine g_isBB ?_ | with_reducible refine g_isBI ?_ | with_reducible refine g_isBS ?_ | with_reducible refine g_isBR ?_ | with_reducible refine g_isBN ?_
  | with_reducible refine g_rng1 ?_ | with_reducible refine g_rng2 ?_ | ((with_reducible apply g_notInR); array_get_dec) | ((with_reducible apply g_inR); array_get_dec) | with_reducible refine g_for ?_ | with_reducible refine g_iList ?_ | with_reducible refine g_iTup ?_ | with_reducible refine g_iR1 ?_ | with_reducible refine g_iEnum ?_ | with_reducible refine g_lc ?_ | with_reducible refine g_yes ?_ | with_reducible refine g_slc ?_ | with_reducible refine g_raise ?_ | with_reducible refine g_exv ?_ | with_reducible refine g_xf ?_ | ((with_reducible apply g_xfe); array_get_dec; (first | exact rfl | assumption)) | with_reducible refine g_part ?_ | with_reducible refine g_nopart ?_ | with_reducible refine g_exi ?_ | with_reducible refine g_brk ?_ | with_reducible refine g_cnt ?_ | with_reducible refine g_bk ?_ | with_reducible refine g_ct ?_ | with_reducible refine g_if ?_
  | ((with_reducible apply g_atL); array_mem_dec) | ((with_reducible apply g_atT); array_mem_dec) | ((with_reducible apply g_enum); array_mem_dec) | ((with_reducible apply g_R1); walk_at "side"; walk_at "side")
  | with_reducible refine g_is_int_int ?_ | with_reducible refine g_is_int_bool ?_ | with_reducible refine g_is_int_str ?_ | with_reducible refine g_is_int_dict ?_ | with_reducible refine g_is_int_list ?_ | with_reducible refine g_is_int_tuple ?_ | with_reducible refine g_is_bool_bool ?_ | with_reducible refine g_is_bool_int ?_ | with_reducible refine g_is_str_int ?_ | with_reducible refine g_is_str_str ?_ | with_reducible refine g_is_str_dict ?_ | with_reducible refine g_is_str_list ?_ | with_reducible refine g_is_str_tuple ?_ | ((with_reducible apply g_is_list_int); array_get_dec) | ((with_reducible apply g_is_list_str); array_get_dec) | ((with_reducible apply g_is_list_dict); array_get_dec) | ((with_reducible apply g_is_list_list); array_get_dec) | ((with_reducible apply g_is_list_tuple); array_get_dec) | ((with_reducible apply g_is_tuple_int); array_get_dec) | ((with_reducible apply g_is_tuple_str); array_get_dec) | ((with_reducible apply g_is_tuple_dict); array_get_dec) | ((with_reducible apply g_is_tuple_list); array_get_dec) | ((with_reducible apply g_is_tuple_tuple); array_get_dec) | ((with_reducible apply g_ixSL); array_mem_dec; (first | exact rfl | assumption)) | ((with_reducible apply g_ixST); array_mem_dec; (first | exact rfl | assumption)))
local macro_rules | `(tactic| walk_at "go") => `(tactic| repeat first | with_reducible refine g_ifS ?_ | walk_at "st")
local macro_rules | `(tactic| walk_at "dec") => `(tactic| first | with_reducible assumption | decide | omega)
local macro_rules | `(tactic| walk_at "goD") => `(tactic| repeat first | with_reducible refine g_ifS ?_ | walk_at "st" | ((with_reducible apply g_iteY); walk_at "dec") | ((with_reducible apply g_iteX); walk_at "dec") | ((with_reducible apply g_iteNY); walk_at "dec") | ((with_reducible apply g_iteNX); walk_at "dec"))
local macro_rules | `(tactic| walk_at "goI") => `(tactic| repeat walk_at "st")
section
variable {P : Program} {w : World} {K : PySem.W.Frag} {mg : Str → Option Value} {base : Heap}
theorem ok__law_drawn (T : Txt P K mg) (G__law_take : FnOk P w K mg base CX0 2 (ga K "_law_take") (fdOf K "_law_take") ["pools", "many"] (sp_take)) (G__law_wire : FnOk P w K mg base CX0 3 (ga K "_law_wire") (fdOf K "_law_wire") ["pools", "wires"] (sp__law_wire)) : FnOk P w K mg base CX0 4 (ga K "_law_drawn") (fdOf K "_law_drawn") ["pools", "free", "count", "many"] (sp__law_drawn) := by
  refine T.f__law_drawn.f.ok sc__law_drawn (fun vs H Q E h => by obtain ⟨_, _, _, _, e, _⟩ := h; rw [e]; rfl) (fun cdv A outer s H vs Q E hr h => ⟨(d__law_drawn T G__law_take (b__law_take T) G__law_wire (b__law_wire T) hr).1, PSs.nox (d__law_drawn T G__law_take (b__law_take T) G__law_wire (b__law_wire T) hr).2, ?_⟩)
  dsimp only [d__law_drawn, cxOf]
  obtain ⟨v, f, n, m, rfl, hv, f0, f1, n0, n1, m0, m1, q⟩ := h
  obtain ⟨pl, ps, rfl, hpl, hne, hpp⟩ := id hv
  rw [show start N__law_drawn [.ref pl, .int f, .int n, .int m] = [some (.ref pl), some (.int f), some (.int n), some (.int m), none, none, none, none, none] from rfl]
  walk_at "go"
  intro l hl
  walk_at "go"
  refine for_range (fun i σ H' => ∃ o5 o6 o7 vs gs, σ = [some (.ref pl), some (.int f), some (.int n), some (.int m), some (.ref l), o5, o6, o7, none] ∧ Same H H' ∧ H' l = some (.lst vs) ∧ gsV H' vs gs ∧ gs.length = i ∧ ∀ (k : Nat) (g : Gate), gs[k]? = some g → gateOk g (f + (k : Nat)) = true)
    ⟨_, _, _, [], [], rfl, .new hl, upd_same, .nil, rfl, fun k g z => by cases z⟩ ?_ ?_
  · rintro i σ H' hi ⟨o5, o6, o7, vs, gs, rfl, sm, hl2, hg, gl, okg⟩
    have vl : vs.length = i := hg.1.trans gl
    walk_at "go"
    refine ⟨pl, ps, 16, rfl, sm _ _ hpl, hne, fun p z => sm _ _ (hpp p z), .of (by decide) (by decide), fun t t0 t1 => ?_⟩
    walk_at "go"
    refine ⟨.ref pl, _, rfl, hv.same sm, by omega, by omega, fun x hx => ?_⟩
    walk_at "go"
    refine ⟨.ref pl, _, rfl, hv.same sm, by omega, by omega, fun y hy => ?_⟩
    walk_at "go"
    intro p hp
    walk_at "go"
    have hlk : upd H' p (.tup [.int t, .int x, .int y]) l = some (.lst vs) := at_new hp hl2
    refine ⟨_, _, _, _, gs ++ [(t, x, y)], rfl, Same.setNew (sm.then hp) hl, upd_same, ((hg.same (.new hp)).set hlk).snoc ⟨p, rfl, at_lst hlk upd_same tup_ne_lst⟩, by simp [gl], fun k g z => ?_⟩
    rcases snoc_get z with z | ⟨ek, rfl⟩
    · exact okg k g z
    · have e : f + (0 + (i : Int)) = f + (k : Nat) := by omega
      rw [e] at hx hy
      simp only [gateOk, hx, hy, Bool.and_true, decide_eq_true_eq]
      omega
  · rintro σ Ha ⟨o5, o6, o7, vs, gs, rfl, sm, hl2, hg, gl, okg⟩
    walk_at "go"
    intro D hD
    refine lc_range (fun i H2 => ∃ es : List Int, Same Ha H2 ∧ H2 D = some (.lst (es.map V.int)) ∧ es.length = i ∧ ∀ (k : Nat) (z : Int), es[k]? = some z → wireOk z (f + n) = true) ⟨[], .new hD, upd_same, rfl, fun k z h => by cases h⟩ ?_ ?_
    · rintro i H2 hi ⟨es, sm2, hD2, el, oke⟩
      dsimp only [wipe, List.map]
      walk_at "go"
      refine ⟨rfl, ?_⟩
      walk_at "go"
      refine ⟨.ref pl, _, rfl, hv.same (sm.trans sm2), by omega, by omega, fun x hx => ?_⟩
      refine ⟨_, hD2, by walk_at "side", es ++ [x], Same.setNew sm2 hD, by rw [upd_same]; simp, by simp [el], fun k z h => ?_⟩
      rcases snoc_get h with h | ⟨_, rfl⟩
      · exact oke k z h
      · exact hx
    · rintro H2 ⟨es, sm2, hD2, el, oke⟩
      have hl3 := sm2 _ _ hl2
      walk_at "go"
      intro a ha
      walk_at "go"
      intro b hb
      walk_at "go"
      intro p hp
      walk_at "go"
      refine q _ ⟨f, gs, es⟩ _ (sm.trans (sm2.trans (((Same.new ha).then hb).then hp))) (cV.mk upd_same (by array_get_dec) (hg.same (sm2.trans (((Same.new ha).then hb).then hp))) (by array_get_dec)) ⟨f0, f1, okg, ?_, by show gs.length ≤ 100; omega, by show es.length ≤ 100; omega⟩ rfl gl el
      intro k z h
      have e : f + (gs.length : Nat) = f + n := by omega
      show wireOk z (f + (gs.length : Nat)) = true
      rw [e]
      exact oke k z h
end

end K20
set_option maxHeartbeats 4000000
namespace K20
open PySem PySem.Spec PyProof.Rows L2 FabH He
local macro_rules | `(tactic| array_mem_dec) => `(tactic| (first | with_reducible assumption | with_reducible exact SqL.of (by array_get_dec) | with_reducible exact SqT.of (by array_get_dec) | ((repeat (with_reducible first | refine Same.seq (Same.new (by assumption)) ?_ | refine Same.tup (Same.new (by assumption)) ?_)); with_reducible assumption)))
local macro_rules | `(tactic| array_get_dec) => `(tactic| (first | with_reducible assumption | with_reducible exact upd_same | ((repeat (first | with_reducible exact upd_same | ((with_reducible apply at_new); with_reducible assumption) | ((with_reducible apply at_lstT); with_reducible assumption) | ((with_reducible apply at_lstR); with_reducible assumption) | ((with_reducible apply at_set); with_reducible assumption))); done) | ((repeat (first | ((with_reducible apply at_new); with_reducible assumption) | ((with_reducible apply at_lstT); with_reducible assumption) | ((with_reducible apply at_lstR); with_reducible assumption) | ((with_reducible apply at_set); with_reducible assumption))); with_reducible assumption)))
local macro_rules | `(tactic| walk_at "side") => `(tactic| (first | with_reducible assumption | decide | exact MOk.div (by assumption) | exact MOk.div (MOk.of (by decide) (by decide)) | (simp only [List.length_append, List.length_map, List.length_replicate, List.length_cons, List.length_nil, sizeLine_eq, CMul, CDivW, CPow]; omega) | omega))
local macro_rules | `(tactic| walk_at "st") => `(tactic| first
  | with_reducible refine g_cons ?_ | ((with_reducible apply g_var); (first | exact rfl | assumption)) | with_reducible refine g_const ?_ | with_reducible refine g_nil ?_ | with_reducible refine g_op ?_ | with_reducible refine g_rI0 ?_ | with_reducible refine g_seq ?_ | with_reducible refine g_asg ?_ | ((with_reducible refine g_name ?_); dsimp only [List.set_cons_zero, List.set_cons_succ])
  | with_reducible refine g_nx ?_ | with_reducible refine g_rt ?_ | with_reducible refine g_call ?_ | with_reducible refine g_ret ?_ | with_reducible refine g_test ?_ | with_reducible refine g_bl ?_ | with_reducible refine g_cb ?_ | with_reducible refine g_tB ?_ | with_reducible refine g_un ?_ | with_reducible refine g_rU ?_
  | with_reducible refine g_eqi ?_ | with_reducible refine g_int ?_ | with_reducible refine g_and ?_ | with_reducible refine g_or ?_ | with_reducible refine g_not ?_ | with_reducible refine g_drop ?_ | with_reducible refine g_next ?_ | with_reducible refine g_retN ?_ | with_reducible refine g_iteT ?_ | with_reducible refine g_iteF ?_ | with_reducible refine g_iteNT ?_ | with_reducible refine g_iteNF ?_
  | ((with_reducible apply g_ixL); array_mem_dec; (first | exact rfl | assumption)) | ((with_reducible apply g_ixT); array_mem_dec; (first | exact rfl | assumption)) | ((with_reducible apply g_lenL); array_mem_dec) | ((with_reducible apply g_lenT); array_mem_dec) | ((with_reducible apply g_rI); walk_at "side")
  | ((with_reducible apply g_setL); array_get_dec; (first | exact rfl | assumption)) | ((with_reducible apply g_app); array_get_dec; walk_at "side") | with_reducible refine g_tup ?_ | with_reducible refine g_lst ?_ | ((with_reducible apply g_listL); array_mem_dec) | ((with_reducible apply g_listT); array_mem_dec) | ((with_reducible apply g_tupT); array_mem_dec) | ((with_reducible apply g_tupL); array_mem_dec)
  | ((with_reducible apply g_room); walk_at "side") | with_reducible refine g_abs ?_ | with_reducible refine g_chain ?_ | with_reducible refine g_andV ?_ | with_reducible refine g_orV ?_ | with_reducible refine g_notV ?_ | with_reducible refine g_gsub ?_ | ((with_reducible apply g_gtup); array_mem_dec; (first | exact rfl | assumption)) | with_reducible refine g_gcons ?_ | with_reducible refine g_gnil ?_ | with_reducible refine g_bm ?_ | ((with_reducible apply g_tyL); array_mem_dec) | with_reducible refine g_tyS ?_
  | with_reducible refine g_callS ?_ | with_reducible refine g_nei ?_ | with_reducible refine g_eqs ?_ | with_reducible refine g_nes ?_ | with_reducible refine g_eqb ?_ | with_reducible refine g_nonI ?_ | with_reducible refine g_nonN ?_ | with_reducible refine g_nonS ?_ | with_reducible refine g_nonB ?_ | with_reducible refine g_nonR ?_ | with_reducible refine g_isBB ?_ | with_reducible refine g_isBI ?_ | with_reducible refine g_isBS ?_ | with_reducible refine g_isBR ?_ | with_reducible refine g_isBN ?_
  | with_reducible refine g_rng1 ?_ | with_reducible refine g_rng2 ?_ | ((with_reducible apply g_notInR); array_get_dec) | ((with_reducible apply g_inR); array_get_dec) | with_reducible refine g_for ?_ | with_reducible refine g_iList ?_ | with_reducible refine g_iTup ?_ | with_reducible refine g_iR1 ?_ | with_reducible refine g_iEnum ?_ | with_reducible refine g_lc ?_ | with_reducible refine g_yes ?_ | with_reducible refine g_slc ?_ | with_reducible refine g_raise ?_ | with_reducible refine g_exv ?_ | with_reducible refine g_xf ?_ | ((with_reducible apply g_xfe); array_get_dec; (first | exact rfl | assumption)) | with_reducible refine g_part ?_ | with_reducible refine g_nopart ?_ | with_reducible refine g_exi ?_ | with_reducible refine g_brk ?_ | with_reducible refine g_cnt ?_ | with_reducible refine g_bk ?_ | with_reducible refine g_ct ?_ | with_reducible refine g_if ?_
  | ((with_reducible apply g_atL); array_mem_dec) | ((with_reducible apply g_atT); array_mem_dec) | ((with_reducible apply g_enum); array_mem_dec) | ((with_reducible apply g_R1); walk_at "side"; walk_at "side")
  | with_reducible refine g_is_int_int ?_ | with_reducible refine g_is_int_bool ?_ | with_reducible refine g_is_int_str ?_ | with_reducible refine g_is_int_dict ?_ | with_reducible refine g_is_int_list ?_ | with_reducible refine g_is_int_tuple ?_ | with_reducible refine g_is_bool_bool ?_ | with_reducible refine g_is_bool_int ?_ | with_reducible refine g_is_str_int ?_ | with_reducible refine g_is_str_str ?_ | with_reducible refine g_is_str_dict ?_ | with_reducible refine g_is_str_list ?_ | with_reducible refine g_is_str_tuple ?_ | ((with_reducible apply g_is_list_int); array_get_dec) | ((with_reducible apply g_is_list_str); array_get_dec) | ((with_reducible apply g_is_list_dict); array_get_dec) | ((with_reducible apply g_is_list_list); array_get_dec) | ((with_reducible apply g_is_list_tuple); array_get_dec) | ((with_reducible apply g_is_tuple_int); array_get_dec) | ((with_reducible apply g_is_tuple_str); array_get_dec) | ((with_reducible apply g_is_tuple_dict); array_get_dec) | ((with_reducible apply g_is_tuple_list); array_get_dec) | ((with_reducible apply g_is_tuple_tuple); array_get_dec) | ((with_reducible apply g_ixSL); array_mem_dec; (first | exact rfl | assumption)) | ((with_reducible apply g_ixST); array_mem_dec; (first | exact rfl | assumption)))
local macro_rules | `(tactic| walk_at "go") => `(tactic| repeat first | with_reducible refine g_ifS ?_ | walk_at "st")
local macro_rules | `(tactic| walk_at "dec") => `(tactic| first | with_reducible assumption | decide | omega)
local macro_rules | `(tactic| walk_at "goD") => `(tactic| repeat first | with_reducible refine g_ifS ?_ | walk_at "st" | ((with_reducible apply g_iteY); walk_at "dec") | ((with_reducible apply g_iteX); walk_at "dec") | ((with_reducible apply g_iteNY); walk_at "dec") | ((with_reducible apply g_iteNX); walk_at "dec"))
local macro_rules | `(tactic| walk_at "goI") => `(tactic| repeat walk_at "st")
section
variable {P : Program} {w : World} {K : PySem.W.Frag} {mg : Str → Option Value} {base : Heap}
theorem ok__law_near (T : Txt P K mg) (G__law_take : FnOk P w K mg base CX0 2 (ga K "_law_take") (fdOf K "_law_take") ["pools", "many"] (sp_take)) : FnOk P w K mg base CX0 3 (ga K "_law_near") (fdOf K "_law_near") ["pools", "free", "count", "many"] (sp__law_near) := by
  refine T.f__law_near.f.ok sc__law_near (fun vs H Q E h => by obtain ⟨_, _, _, _, e, _⟩ := h; rw [e]; rfl) (fun cdv A outer s H vs Q E hr h => ⟨(d__law_near T G__law_take (b__law_take T) hr).1, PSs.nox (d__law_near T G__law_take (b__law_take T) hr).2, ?_⟩)
  dsimp only [d__law_near, cxOf]
  obtain ⟨v, f, n, m, rfl, hv, f0, f1, n0, n1, m0, m1, q⟩ := h
  obtain ⟨pl, ps, rfl, hpl, hne, hpp⟩ := id hv
  rw [show start N__law_near [.ref pl, .int f, .int n, .int m] = [some (.ref pl), some (.int f), some (.int n), some (.int m), none, none, none, none, none] from rfl]
  walk_at "go"
  intro l hl
  walk_at "go"
  refine for_range (fun i σ H' => ∃ o5 o6 o7 vs gs, σ = [some (.ref pl), some (.int f), some (.int n), some (.int m), some (.ref l), o5, o6, o7, none] ∧ Same H H' ∧ H' l = some (.lst vs) ∧ gsV H' vs gs ∧ gs.length = i)
    ⟨_, _, _, [], [], rfl, .new hl, upd_same, .nil, rfl⟩ ?_ ?_
  · rintro i σ H' hi ⟨o5, o6, o7, vs, gs, rfl, sm, hl2, hg, gl⟩
    have vl : vs.length = i := hg.1.trans gl
    walk_at "go"
    refine ⟨pl, ps, _, rfl, sm _ _ hpl, hne, fun p z => sm _ _ (hpp p z), .of (by omega) (by omega), fun t t0 t1 => ?_⟩
    walk_at "go"
    refine ⟨pl, ps, _, rfl, sm _ _ hpl, hne, fun p z => sm _ _ (hpp p z), .of (by omega) (by omega), fun x x0 x1 => ?_⟩
    walk_at "go"
    refine ⟨pl, ps, _, rfl, sm _ _ hpl, hne, fun p z => sm _ _ (hpp p z), .of (by omega) (by omega), fun y y0 y1 => ?_⟩
    walk_at "go"
    intro p hp
    walk_at "go"
    have hlk : upd H' p (.tup [.int (t - 1), .int (x - 2), .int (y - 2)]) l = some (.lst vs) := at_new hp hl2
    refine ⟨_, _, _, _, gs ++ [(t - 1, x - 2, y - 2)], rfl, Same.setNew (sm.then hp) hl, upd_same, ((hg.same (.new hp)).set hlk).snoc ⟨p, rfl, at_lst hlk upd_same tup_ne_lst⟩, by simp [gl]⟩
  · rintro σ Ha ⟨o5, o6, o7, vs, gs, rfl, sm, hl2, hg, gl⟩
    walk_at "go"
    intro D hD
    refine lc_range (fun i H2 => ∃ es : List Int, Same Ha H2 ∧ H2 D = some (.lst (es.map V.int)) ∧ es.length = i) ⟨[], .new hD, upd_same, rfl⟩ ?_ ?_
    · rintro i H2 hi ⟨es, sm2, hD2, el⟩
      dsimp only [wipe, List.map]
      walk_at "go"
      refine ⟨rfl, ?_⟩
      walk_at "go"
      refine ⟨pl, ps, _, rfl, (sm.trans sm2) _ _ hpl, hne, fun p z => (sm.trans sm2) _ _ (hpp p z), .of (by omega) (by omega), fun x x0 x1 => ?_⟩
      walk_at "go"
      exact ⟨_, hD2, by walk_at "side", es ++ [x - 2], Same.setNew sm2 hD, by rw [upd_same]; simp, by simp [el]⟩
    · rintro H2 ⟨es, sm2, hD2, el⟩
      have hl3 := sm2 _ _ hl2
      walk_at "go"
      intro a ha
      walk_at "go"
      intro b hb
      walk_at "go"
      intro p hp
      walk_at "go"
      exact q _ ⟨f, gs, es⟩ _ (sm.trans (sm2.trans (((Same.new ha).then hb).then hp))) (cV.mk upd_same (by array_get_dec) (hg.same (sm2.trans (((Same.new ha).then hb).then hp))) (by array_get_dec)) rfl gl el
end

end K20
set_option maxHeartbeats 4000000
namespace K20
open PySem PySem.Spec PyProof.Rows L2 FabH He
local macro_rules | `(tactic| array_mem_dec) => `(tactic| (first | with_reducible assumption | with_reducible exact SqL.of (by array_get_dec) | with_reducible exact SqT.of (by array_get_dec) | ((repeat (with_reducible first | refine Same.seq (Same.new (by assumption)) ?_ | refine Same.tup (Same.new (by assumption)) ?_)); with_reducible assumption)))
local macro_rules | `(tactic| array_get_dec) => `(tactic| (first | with_reducible assumption | with_reducible exact upd_same | ((repeat (first | with_reducible exact upd_same | ((with_reducible apply at_new); with_reducible assumption) | ((with_reducible apply at_lstT); with_reducible assumption) | ((with_reducible apply at_lstR); with_reducible assumption) | ((with_reducible apply at_set); with_reducible assumption))); done) | ((repeat (first | ((with_reducible apply at_new); with_reducible assumption) | ((with_reducible apply at_lstT); with_reducible assumption) | ((with_reducible apply at_lstR); with_reducible assumption) | ((with_reducible apply at_set); with_reducible assumption))); with_reducible assumption)))
local macro_rules | `(tactic| walk_at "side") => `(tactic| (first | with_reducible assumption | decide | exact MOk.div (by assumption) | exact MOk.div (MOk.of (by decide) (by decide)) | (simp only [List.length_append, List.length_map, List.length_replicate, List.length_cons, List.length_nil, sizeLine_eq, CMul, CDivW, CPow]; omega) | omega))
local macro_rules | `(tactic| walk_at "st") => `(tactic| first
  | with_reducible refine g_cons ?_ | ((with_reducible apply g_var); (first | exact rfl | assumption)) | with_reducible refine g_const ?_ | with_reducible refine g_nil ?_ | with_reducible refine g_op ?_ | with_reducible refine g_rI0 ?_ | with_reducible refine g_seq ?_ | with_reducible refine g_asg ?_ | ((with_reducible refine g_name ?_); dsimp only [List.set_cons_zero, List.set_cons_succ])
  | with_reducible refine g_nx ?_ | with_reducible refine g_rt ?_ | with_reducible refine g_call ?_ | with_reducible refine g_ret ?_ | with_reducible refine g_test ?_ | with_reducible refine g_bl ?_ | with_reducible refine g_cb ?_ | with_reducible refine g_tB ?_ | with_reducible refine g_un ?_ | with_reducible refine g_rU ?_
  | with_reducible refine g_eqi ?_ | with_reducible refine g_int ?_ | with_reducible refine g_and ?_ | with_reducible refine g_or ?_ | with_reducible refine g_not ?_ | with_reducible refine g_drop ?_ | with_reducible refine g_next ?_ | with_reducible refine g_retN ?_ | with_reducible refine g_iteT ?_ | with_reducible refine g_iteF ?_ | with_reducible refine g_iteNT ?_ | with_reducible refine g_iteNF ?_
  | ((with_reducible apply g_ixL); array_mem_dec; (first | exact rfl | assumption)) | ((with_reducible apply g_ixT); array_mem_dec; (first | exact rfl | assumption)) | ((with_reducible apply g_lenL); array_mem_dec) | ((with_reducible apply g_lenT); array_mem_dec) | ((with_reducible apply g_rI); walk_at "side")
  | ((with_reducible apply g_setL); array_get_dec; (first | exact rfl | assumption)) | ((with_reducible apply g_app); array_get_dec; walk_at "side") | with_reducible refine g_tup ?_ | with_reducible refine g_lst ?_ | ((with_reducible apply g_listL); array_mem_dec) | ((with_reducible apply g_listT); array_mem_dec) | ((with_reducible apply g_tupT); array_mem_dec) | ((with_reducible apply g_tupL); array_mem_dec)
  | ((with_reducible apply g_room); walk_at "side") | with_reducible refine g_abs ?_ | with_reducible refine g_chain ?_ | with_reducible refine g_andV ?_ | with_reducible refine g_orV ?_ | with_reducible refine g_notV ?_ | with_reducible refine g_gsub ?_ | ((with_reducible apply g_gtup); array_mem_dec; (first | exact rfl | assumption)) | with_reducible refine g_gcons ?_ | with_reducible refine g_gnil ?_ | with_reducible refine g_bm ?_ | ((with_reducible apply g_tyL); array_mem_dec) | with_reducible refine g_tyS ?_
  | with_reducible refine g_callS ?_ | with_reducible refine g_nei ?_ | with_reducible refine g_eqs ?_ | with_reducible refine g_nes ?_ | with_reducible refine g_eqb ?_ | with_reducible refine g_nonI ?_ | with_reducible refine g_nonN ?_ | with_reducible refine g_nonS ?_ | with_reducible refine g_nonB ?_ | with_reducible refine g_nonR ?_ | with_reducible refine g_isBB ?_ | with_reducible refine g_isBI ?_ | with_reducible refine g_isBS ?_ | with_reducible refine g_isBR ?_ | with_reducible refine g_isBN ?_
  | with_reducible refine g_rng1 ?_ | with_reducible refine g_rng2 ?_ | ((with_reducible apply g_notInR); array_get_dec) | ((with_reducible apply g_inR); array_get_dec) | with_reducible refine g_for ?_ | with_reducible refine g_iList ?_ | with_reducible refine g_iTup ?_ | with_reducible refine g_iR1 ?_ | with_reducible refine g_iEnum ?_ | with_reducible refine g_lc ?_ | with_reducible refine g_yes ?_ | with_reducible refine g_slc ?_ | with_reducible refine g_raise ?_ | with_reducible refine g_exv ?_ | with_reducible refine g_xf ?_ | ((with_reducible apply g_xfe); array_get_dec; (first | exact rfl | assumption)) | with_reducible refine g_part ?_ | with_reducible refine g_nopart ?_ | with_reducible refine g_exi ?_ | with_reducible refine g_brk ?_ | with_reducible refine g_cnt ?_ | with_reducible refine g_bk ?_ | with_reducible refine g_ct ?_ | with_reducible refine g_if ?_
  | ((with_reducible apply g_atL); array_mem_dec) | ((with_reducible apply g_atT); array_mem_dec) | ((with_reducible apply g_enum); array_mem_dec) | ((with_reducible apply g_R1); walk_at "side"; walk_at "side")
  | with_reducible refine g_is_int_int ?_ | with_reducible refine g_is_int_bool ?_ | with_reducible refine g_is_int_str ?_ | with_reducible refine g_is_int_dict ?_ | with_reducible refine g_is_int_list ?_ | with_reducible refine g_is_int_tuple ?_ | with_reducible refine g_is_bool_bool ?_ | with_reducible refine g_is_bool_int ?_ | with_reducible refine g_is_str_int ?_ | with_reducible refine g_is_str_str ?_ | with_reducible refine g_is_str_dict ?_ | with_reducible refine g_is_str_list ?_ | with_reducible refine g_is_str_tuple ?_ | ((with_reducible apply g_is_list_int); array_get_dec) | ((with_reducible apply g_is_list_str); array_get_dec) | ((with_reducible apply g_is_list_dict); array_get_dec) | ((with_reducible apply g_is_list_list); array_get_dec) | ((with_reducible apply g_is_list_tuple); array_get_dec) | ((with_reducible apply g_is_tuple_int); array_get_dec) | ((with_reducible apply g_is_tuple_str); array_get_dec) | ((with_reducible apply g_is_tuple_dict); array_get_dec) | ((with_reducible apply g_is_tuple_list); array_get_dec) | ((with_reducible apply g_is_tuple_tuple); array_get_dec) | ((with_reducible apply g_ixSL); array_mem_dec; (first | exact rfl | assumption)) | ((with_reducible apply g_ixST); array_mem_dec; (first | exact rfl | assumption)))
local macro_rules | `(tactic| walk_at "go") => `(tactic| repeat first | with_reducible refine g_ifS ?_ | walk_at "st")
local macro_rules | `(tactic| walk_at "dec") => `(tactic| first | with_reducible assumption | decide | omega)
local macro_rules | `(tactic| walk_at "goD") => `(tactic| repeat first | with_reducible refine g_ifS ?_ | walk_at "st" | ((with_reducible apply g_iteY); walk_at "dec") | ((with_reducible apply g_iteX); walk_at "dec") | ((with_reducible apply g_iteNY); walk_at "dec") | ((with_reducible apply g_iteNX); walk_at "dec"))
local macro_rules | `(tactic| walk_at "goI") => `(tactic| repeat walk_at "st")
section
variable {P : Program} {w : World} {K : PySem.W.Frag} {mg : Str → Option Value} {base : Heap}
theorem ok__law_due (T : Txt P K mg)  : FnOk P w K mg base CX0 1 (ga K "_law_due") (fdOf K "_law_due") ["circuit"] (sp__law_due) := by
  refine T.f__law_due.f.ok sc__law_due (fun vs H Q E h => by obtain ⟨_, _, e, _⟩ := h; rw [e]; rfl) (fun cdv A outer s H vs Q E hr h => ⟨(d__law_due T  hr).1, PSs.nox (d__law_due T  hr).2, ?_⟩)
  dsimp only [d__law_due, cxOf]
  obtain ⟨v, c, rfl, hc, c0, c1, gl, el, q⟩ := h
  obtain ⟨a, ga, ea, vs, rfl, h1, h2, h3, h4⟩ := id hc
  have fit : Fits c := ⟨c0, c1, by omega, by omega⟩
  rw [show start N__law_due [.ref a] = [some (.ref a), none, none, none] from rfl]
  walk_at "go"
  refine for_tup (fun i σ H' => ∃ o w, σ = [some (.ref a), some (.int w), o, none] ∧ w = c.free + (i : Nat) ∧ Same H H' ∧ ∀ k, k < i → ∀ g, c.gates[k]? = some g → gateOk g (c.free + (k : Nat)) = true) ⟨_, _, rfl, by simp, .refl H, fun k z => absurd z (Nat.not_lt_zero k)⟩ (fun i σ H' _ ⟨_, _, _, _, sm, _⟩ => .of (sm _ _ h2)) ?_ ?_
  · rintro i x σ H' hx ⟨o, w, rfl, ew, sm, ok⟩
    have hi : i < c.gates.length := by
      have := (List.getElem?_eq_some_iff.mp hx).1
      rw [h3.1] at this
      exact this
    obtain ⟨g, hg⟩ : ∃ g, c.gates[i]? = some g := ⟨_, List.getElem?_eq_getElem hi⟩
    obtain ⟨t, rfl, ht⟩ := (h3.2 i x g hx hg).same sm
    have h1' := sm _ _ h1
    have bad : gateOk g w = false → ∀ H2, Same H' H2 → ∀ p, H2 p = none → Q (.ref p) (upd H2 p (.tup [.str "circuit", .int (w - c.free)])) := fun b H2 sm2 p hp => by
      refine q _ _ ((sm.trans sm2).then hp) ?_
      rw [verdict_gate fit hg ok (by rw [← ew]; exact b)]
      refine ⟨p, rfl, ?_⟩
      rw [upd_same]
      show some (HO.tup [.str "circuit", .int (w - c.free)]) = some (HO.tup [.str "circuit", .int (i : Nat)])
      rw [show w - c.free = (i : Nat) by omega]
    walk_at "go"
    intro r hr
    walk_at "go"
    refine g_iteN (fun b1 => ?_) (fun g1 => ?_)
    · walk_at "go"
      intro p hp
      exact bad (gateOk_not (by omega)) _ (.new hr) p hp
    walk_at "go"
    refine g_slN (xs := [.int g.1, .int g.2.1, .int g.2.2]) (ys := [.int g.2.1, .int g.2.2]) (by array_mem_dec) (fun z => absurd z.1 (show ¬ ((1 : Nat) = 0) by decide)) rfl ?_
    intro r2 hr2
    walk_at "go"
    refine g_minT (ns := [g.2.1, g.2.2]) (SqT.of upd_same) (Nat.succ_pos _) (fun mn mn1 mn2 => ?_)
    have mn3 := mn2 g.2.1 (by simp)
    have mn4 := mn2 g.2.2 (by simp)
    have mn5 : mn = g.2.1 ∨ mn = g.2.2 := by simpa using mn1
    walk_at "go"
    refine g_ite (fun b2 => ?_) (fun g2 => ?_)
    · walk_at "go"
      intro p hp
      exact bad (gateOk_not (by omega)) _ ((Same.new hr).then hr2) p hp
    walk_at "go"
    refine g_slN (xs := [.int g.1, .int g.2.1, .int g.2.2]) (ys := [.int g.2.1, .int g.2.2]) (by array_mem_dec) (fun z => absurd z.1 (show ¬ ((1 : Nat) = 0) by decide)) rfl ?_
    intro r3 hr3
    walk_at "go"
    refine g_maxT (ns := [g.2.1, g.2.2]) (SqT.of upd_same) (Nat.succ_pos _) (fun mx mx1 mx2 => ?_)
    have mx3 := mx2 g.2.1 (by simp)
    have mx4 := mx2 g.2.2 (by simp)
    have mx5 : mx = g.2.1 ∨ mx = g.2.2 := by simpa using mx1
    walk_at "go"
    refine g_ite (fun b3 => ?_) (fun g3 => ?_)
    · walk_at "go"
      intro p hp
      exact bad (gateOk_not (by omega)) _ (((Same.new hr).then hr2).then hr3) p hp
    walk_at "go"
    refine ⟨_, _, rfl, by omega, sm.trans (((Same.new hr).then hr2).then hr3), fun k hk g' hg' => ?_⟩
    by_cases e : k = i
    · rw [e] at hg'
      rw [hg] at hg'
      cases hg'
      rw [e, ← ew]
      exact gateOk_iff.mpr (by omega)
    · exact ok k (by omega) g' hg'
  · rintro σ Ha ⟨o, w, rfl, ew, sm, ok⟩
    have h1' := sm _ _ h1
    have h2' := sm _ _ h2
    have h4' := sm _ _ h4
    have okg : ∀ (k : Nat) (g : Gate), c.gates[k]? = some g → gateOk g (c.free + (k : Nat)) = true := fun k g hg => ok k (by rw [h3.1]; exact (List.getElem?_eq_some_iff.mp hg).1) g hg
    have ew2 : w = c.free + (c.gates.length : Nat) := by rw [ew, h3.1]
    walk_at "go"
    refine for_range (fun i σ H2 => ∃ o o', σ = [some (.ref a), some (.int w), o, o'] ∧ Same Ha H2 ∧ ∀ k, k < i → ∀ z, c.ends[k]? = some z → wireOk z (c.free + (c.gates.length : Nat)) = true) ⟨_, _, rfl, .refl Ha, fun k z => absurd z (Nat.not_lt_zero k)⟩ ?_ ?_
    · rintro i σ H2 hi ⟨o, o', rfl, sm2, oke⟩
      have h1'' := sm2 _ _ h1'
      have h2'' := sm2 _ _ h2'
      have h4'' := sm2 _ _ h4'
      obtain ⟨z, hz⟩ : ∃ z, c.ends[i]? = some z := ⟨_, List.getElem?_eq_getElem (by simp at hi; omega)⟩
      have hz2 : atI (c.ends.map V.int) (0 + (i : Int)) = some (.int z) := by rw [Int.zero_add]; exact atI_nat (by rw [List.getElem?_map, hz]; rfl)
      walk_at "go"
      intro r hr
      walk_at "go"
      refine g_iteN (fun b1 => ?_) (fun g1 => ?_)
      · walk_at "go"
        intro p hp
        refine q _ _ ((sm.trans (sm2.trans (.new hr))).then hp) ?_
        rw [verdict_end fit okg hz oke (wireOk_not (by omega))]
        refine ⟨p, rfl, ?_⟩
        rw [upd_same, h3.1, Int.zero_add]
        rfl
      · walk_at "go"
        refine ⟨_, _, rfl, sm2.trans (.new hr), fun k hk z' hz' => ?_⟩
        by_cases e : k = i
        · rw [e] at hz'
          rw [hz] at hz'
          cases hz'
          exact wireOk_iff.mpr (by omega)
        · exact oke k (by omega) z' hz'
    · rintro σ H2 ⟨o, o', rfl, sm2, oke⟩
      walk_at "go"
      intro p hp
      refine q _ _ ((sm.trans sm2).then hp) ?_
      rw [verdict_ok fit okg fun k z hz => oke k (by simpa using (List.getElem?_eq_some_iff.mp hz).1) z hz]
      exact ⟨p, rfl, upd_same⟩
end

end K20
set_option maxHeartbeats 4000000
namespace K20
open PySem PySem.Spec PyProof.Rows L2 FabH He
local macro_rules | `(tactic| array_mem_dec) => `(tactic| (first | with_reducible assumption | with_reducible exact SqL.of (by array_get_dec) | with_reducible exact SqT.of (by array_get_dec) | ((repeat (with_reducible first | refine Same.seq (Same.new (by assumption)) ?_ | refine Same.tup (Same.new (by assumption)) ?_)); with_reducible assumption)))
local macro_rules | `(tactic| array_get_dec) => `(tactic| (first | with_reducible assumption | with_reducible exact upd_same | ((repeat (first | with_reducible exact upd_same | ((with_reducible apply at_new); with_reducible assumption) | ((with_reducible apply at_lstT); with_reducible assumption) | ((with_reducible apply at_lstR); with_reducible assumption) | ((with_reducible apply at_set); with_reducible assumption))); done) | ((repeat (first | ((with_reducible apply at_new); with_reducible assumption) | ((with_reducible apply at_lstT); with_reducible assumption) | ((with_reducible apply at_lstR); with_reducible assumption) | ((with_reducible apply at_set); with_reducible assumption))); with_reducible assumption)))
local macro_rules | `(tactic| walk_at "side") => `(tactic| (first | with_reducible assumption | decide | exact MOk.div (by assumption) | exact MOk.div (MOk.of (by decide) (by decide)) | (simp only [List.length_append, List.length_map, List.length_replicate, List.length_cons, List.length_nil, sizeLine_eq, CMul, CDivW, CPow]; omega) | omega))
local macro_rules | `(tactic| walk_at "st") => `(tactic| first
  | with_reducible refine g_cons ?_ | ((with_reducible apply g_var); (first | exact rfl | assumption)) | with_reducible refine g_const ?_ | with_reducible refine g_nil ?_ | with_reducible refine g_op ?_ | with_reducible refine g_rI0 ?_ | with_reducible refine g_seq ?_ | with_reducible refine g_asg ?_ | ((with_reducible refine g_name ?_); dsimp only [List.set_cons_zero, List.set_cons_succ])
  | with_reducible refine g_nx ?_ | with_reducible refine g_rt ?_ | with_reducible refine g_call ?_ | with_reducible refine g_ret ?_ | with_reducible refine g_test ?_ | with_reducible refine g_bl ?_ | with_reducible refine g_cb ?_ | with_reducible refine g_tB ?_ | with_reducible refine g_un ?_ | with_reducible refine g_rU ?_
  | with_reducible refine g_eqi ?_ | with_reducible refine g_int ?_ | with_reducible refine g_and ?_ | with_reducible refine g_or ?_ | with_reducible refine g_not ?_ | with_reducible refine g_drop ?_ | with_reducible refine g_next ?_ | with_reducible refine g_retN ?_ | with_reducible refine g_iteT ?_ | with_reducible refine g_iteF ?_ | with_reducible refine g_iteNT ?_ | with_reducible refine g_iteNF ?_
  | ((with_reducible apply g_ixL); array_mem_dec; (first | exact rfl | assumption)) | ((with_reducible apply g_ixT); array_mem_dec; (first | exact rfl | assumption)) | ((with_reducible apply g_lenL); array_mem_dec) | ((with_reducible apply g_lenT); array_mem_dec) | ((with_reducible apply g_rI); walk_at "side")
  | ((with_reducible apply g_setL); array_get_dec; (first | exact rfl | assumption)) | ((with_reducible apply g_app); array_get_dec; walk_at "side") | with_reducible refine g_tup ?_ | with_reducible refine g_lst ?_ | ((with_reducible apply g_listL); array_mem_dec) | ((with_reducible apply g_listT); array_mem_dec) | ((with_reducible apply g_tupT); array_mem_dec) | ((with_reducible apply g_tupL); array_mem_dec)
  | ((with_reducible apply g_room); walk_at "side") | with_reducible refine g_abs ?_ | with_reducible refine g_chain ?_ | with_reducible refine g_andV ?_ | with_reducible refine g_orV ?_ | with_reducible refine g_notV ?_ | with_reducible refine g_gsub ?_ | ((with_reducible apply g_gtup); array_mem_dec; (first | exact rfl | assumption)) | with_reducible refine g_gcons ?_ | with_reducible refine g_gnil ?_ | with_reducible refine g_bm ?_ | ((with_reducible apply g_tyL); array_mem_dec) | with_reducible refine g_tyS ?_
  | with_reducible refine g_callS ?_ | with_reducible refine g_nei ?_ | with_reducible refine g_eqs ?_ | with_reducible refine g_nes ?_ | with_reducible refine g_eqb ?_ | with_reducible refine g_nonI ?_ | with_reducible refine g_nonN ?_ | with_reducible refine g_nonS ?_ | with_reducible refine g_nonB ?_ | with_reducible refine g_nonR ?_ | with_reducible refine g_isBB ?_ | with_reducible refine g_isBI ?_ | with_reducible refine g_isBS ?_ | with_reducible refine g_isBR ?_ | with_reducible refine g_isBN ?_
  | with_reducible refine g_rng1 ?_ | with_reducible refine g_rng2 ?_ | ((with_reducible apply g_notInR); array_get_dec) | ((with_reducible apply g_inR); array_get_dec) | with_reducible refine g_for ?_ | with_reducible refine g_iList ?_ | with_reducible refine g_iTup ?_ | with_reducible refine g_iR1 ?_ | with_reducible refine g_iEnum ?_ | with_reducible refine g_lc ?_ | with_reducible refine g_yes ?_ | with_reducible refine g_slc ?_ | with_reducible refine g_raise ?_ | with_reducible refine g_exv ?_ | with_reducible refine g_xf ?_ | ((with_reducible apply g_xfe); array_get_dec; (first | exact rfl | assumption)) | with_reducible refine g_part ?_ | with_reducible refine g_nopart ?_ | with_reducible refine g_exi ?_ | with_reducible refine g_brk ?_ | with_reducible refine g_cnt ?_ | with_reducible refine g_bk ?_ | with_reducible refine g_ct ?_ | with_reducible refine g_if ?_
  | ((with_reducible apply g_atL); array_mem_dec) | ((with_reducible apply g_atT); array_mem_dec) | ((with_reducible apply g_enum); array_mem_dec) | ((with_reducible apply g_R1); walk_at "side"; walk_at "side")
  | with_reducible refine g_is_int_int ?_ | with_reducible refine g_is_int_bool ?_ | with_reducible refine g_is_int_str ?_ | with_reducible refine g_is_int_dict ?_ | with_reducible refine g_is_int_list ?_ | with_reducible refine g_is_int_tuple ?_ | with_reducible refine g_is_bool_bool ?_ | with_reducible refine g_is_bool_int ?_ | with_reducible refine g_is_str_int ?_ | with_reducible refine g_is_str_str ?_ | with_reducible refine g_is_str_dict ?_ | with_reducible refine g_is_str_list ?_ | with_reducible refine g_is_str_tuple ?_ | ((with_reducible apply g_is_list_int); array_get_dec) | ((with_reducible apply g_is_list_str); array_get_dec) | ((with_reducible apply g_is_list_dict); array_get_dec) | ((with_reducible apply g_is_list_list); array_get_dec) | ((with_reducible apply g_is_list_tuple); array_get_dec) | ((with_reducible apply g_is_tuple_int); array_get_dec) | ((with_reducible apply g_is_tuple_str); array_get_dec) | ((with_reducible apply g_is_tuple_dict); array_get_dec) | ((with_reducible apply g_is_tuple_list); array_get_dec) | ((with_reducible apply g_is_tuple_tuple); array_get_dec) | ((with_reducible apply g_ixSL); array_mem_dec; (first | exact rfl | assumption)) | ((with_reducible apply g_ixST); array_mem_dec; (first | exact rfl | assumption)))
local macro_rules | `(tactic| walk_at "go") => `(tactic| repeat first | with_reducible refine g_ifS ?_ | walk_at "st")
local macro_rules | `(tactic| walk_at "dec") => `(tactic| first | with_reducible assumption | decide | omega)
local macro_rules | `(tactic| walk_at "goD") => `(tactic| repeat first | with_reducible refine g_ifS ?_ | walk_at "st" | ((with_reducible apply g_iteY); walk_at "dec") | ((with_reducible apply g_iteX); walk_at "dec") | ((with_reducible apply g_iteNY); walk_at "dec") | ((with_reducible apply g_iteNX); walk_at "dec"))
local macro_rules | `(tactic| walk_at "goI") => `(tactic| repeat walk_at "st")
section
variable {P : Program} {w : World} {K : PySem.W.Frag} {mg : Str → Option Value} {base : Heap}
theorem ok__law_bent (T : Txt P K mg) (G__law_draw : FnOk P w K mg base CX0 1 (ga K "_law_draw") (fdOf K "_law_draw") ["pool", "many"] (sp_draw)) (G__law_wrong : FnOk P w K mg base CX0 2 (ga K "_law_wrong") (fdOf K "_law_wrong") ["side", "least", "most"] (sp__law_wrong)) : FnOk P w K mg base CX0 3 (ga K "_law_bent") (fdOf K "_law_bent") ["side", "circuit", "times"] (sp__law_bent) := by
  refine T.f__law_bent.f.ok sc__law_bent (fun vs H Q E h => by obtain ⟨_, _, _, _, e, _⟩ := h; rw [e]; rfl) (fun cdv A outer s H vs Q E hr h => ⟨(d__law_bent T G__law_draw (b__law_draw T) G__law_wrong (b__law_wrong T) hr).1, PSs.nox (d__law_bent T G__law_draw (b__law_draw T) G__law_wrong (b__law_wrong T) hr).2, ?_⟩)
  dsimp only [d__law_bent, cxOf]
  obtain ⟨sd, v, c, times, rfl, hsd, hc, rc, t0, t1, q⟩ := h
  obtain ⟨a, ga, ea, vs0, rfl, h1, h2, h3, h4⟩ := id hc
  have gl := rc.gl
  have el := rc.el
  rw [show start N__law_bent [.ref sd, .ref a, .int times] = [some (.ref sd), some (.ref a), some (.int times), none, none, none, none, none, none, none, none] from rfl]
  walk_at "go"
  intro lg hlg
  walk_at "go"
  intro le hle
  walk_at "go"
  intro lp hlp
  have nge : lg ≠ le := ne_of_free hle upd_same
  have ngp : lg ≠ lp := ne_of_free hlp (at_new hle upd_same)
  have nep : le ≠ lp := ne_of_free hlp upd_same
  have nge' := nge.symm
  have ngp' := ngp.symm
  have nep' := nep.symm
  have fe : H le = none := free_of hle
  have fp : H lp = none := free_of (free_of hlp)
  walk_at "go"
  refine for_range (fun i σ H' => ∃ o6 o7 o8 o9 vs gs es ps, σ = [some (.ref sd), some (.ref a), some (.int times), some (.ref lg), some (.ref le), some (.ref lp), o6, o7, o8, o9, none] ∧ Same H H' ∧ H' lg = some (.lst vs) ∧ H' le = some (.lst (es.map V.int)) ∧ H' lp = some (.lst (ps.map V.int)) ∧ gsV H' vs gs ∧ ps.length ≤ i ∧ BentI c gs es ps)
    ⟨_, _, _, _, vs0, c.gates, c.ends, [], rfl, ((Same.new hlg).then hle).then hlp, by array_get_dec, by array_get_dec, upd_same, h3.same (((Same.new hlg).then hle).then hlp), Nat.le_refl _, .start rc⟩ ?_ ?_
  · rintro i σ H' hi ⟨o6, o7, o8, o9, vs, gs, es, ps, rfl, sm, xg, xe, xp, hg, pl, bi⟩
    have h1' := sm _ _ h1
    have hsd' : IsPool H' sd := sm _ _ hsd
    have vl := hg.1
    have gl' := bi.gl
    have el' := bi.el
    have eml : (es.map V.int).length = es.length := by simp
    walk_at "go"
    refine g_ite (fun some1 => ?_) (fun none1 => ?_)
    · walk_at "go"
      refine ⟨sd, _, rfl, hsd', .of some1 (by omega), fun t r0 r1 => ?_⟩
      walk_at "go"
      have xg' : upd H' lp (.lst (ps.map V.int ++ [.int t])) lg = some (.lst vs) := at_set ngp xg
      have xe' : upd H' lp (.lst (ps.map V.int ++ [.int t])) le = some (.lst (es.map V.int)) := at_set nep xe
      have xp' : upd H' lp (.lst (ps.map V.int ++ [.int t])) lp = some (.lst ((ps ++ [t]).map V.int)) := by rw [upd_same]; simp
      have h1'' : upd H' lp (.lst (ps.map V.int ++ [.int t])) a = _ := at_lst xp h1' tup_ne_lst
      have hsd2 : IsPool (upd H' lp (.lst (ps.map V.int ++ [.int t]))) sd := at_lst xp hsd' (fun _ => pool_ne_lst)
      have sm1 : Same H (upd H' lp (.lst (ps.map V.int ++ [.int t]))) := Same.setNew sm fp
      have hg1 : gsV (upd H' lp (.lst (ps.map V.int ++ [.int t]))) vs gs := hg.set xp
      clear hg xg xe xp h1' hsd' sm
      generalize upd H' lp (.lst (ps.map V.int ++ [.int t])) = H1 at *
      refine g_ite (fun isg => ?_) (fun ise => ?_)
      · obtain ⟨k, rfl⟩ : ∃ k : Nat, t = k := ⟨t.toNat, by omega⟩
        have hk : k < gs.length := by omega
        obtain ⟨x, hx⟩ : ∃ x, vs[k]? = some x := ⟨_, List.getElem?_eq_getElem (by omega)⟩
        obtain ⟨g, hgk⟩ : ∃ g, gs[k]? = some g := ⟨_, List.getElem?_eq_getElem hk⟩
        obtain ⟨u, rfl, hu⟩ := hg1.2 k x g hx hgk
        have hx2 : atI vs (k : Int) = some (.ref u) := atI_nat hx
        have hix : ixN vs.length (k : Int) = some k := ixN_pos (i := (k : Int)) (by omega) (by omega)
        walk_at "go"
        intro qa hqa
        walk_at "go"
        refine ⟨sd, 3, rfl, at_new hqa hsd2, .of (by decide) (by decide), fun pt pt0 pt1 => ?_⟩
        walk_at "goI"
        refine g_keep (fun σ H2 => ∃ g' : Gate, σ = [some (.ref sd), some (.ref a), some (.int times), some (.ref lg), some (.ref le), some (.ref lp), some (.int (0 + (i : Int))), some (.int (k : Int)), some (.ref qa), some (.int pt), none] ∧ H2 = upd H1 qa (.lst [.int g'.1, .int g'.2.1, .int g'.2.2]) ∧ gateOk g' (c.free + (k : Nat)) = false) ?_ (fun f fin => ?_)
        · rintro σ H2 ⟨g', rfl, rfl, bad⟩
          walk_at "go"
          intro pa hpa
          walk_at "go"
          have hlk : upd (upd H1 qa (.lst [.int g'.1, .int g'.2.1, .int g'.2.2])) pa (.tup [.int g'.1, .int g'.2.1, .int g'.2.2]) lg = some (.lst vs) := at_new hpa (at_new hqa xg')
          refine ⟨_, _, _, _, vs.set k (.ref pa), gs.set k g', es, ps ++ [(k : Int)], rfl, Same.setNew ((sm1.then hqa).then hpa) hlg, upd_same, at_set nge' (at_new hpa (at_new hqa xe')), at_set ngp' (at_new hpa (at_new hqa xp')), ?_, by simp; omega, bi.gate hk bad⟩
          exact ((hg1.same ((Same.new hqa).then hpa)).set hlk).put ⟨pa, rfl, at_lst hlk upd_same tup_ne_lst⟩
        · walk_at "go"
          refine g_ite (fun p0 => ?_) (fun pn => ?_)
          · walk_at "go"
            refine ⟨sd, _, _, rfl, at_new hqa hsd2, fun r hr => ?_⟩
            walk_at "go"
            refine fin _ _ ?_
            exact ⟨(r, g.2), rfl, by rw [upd_upd]; rfl, gateOk_not (by dsimp only; omega)⟩
          · rcases (show pt = 1 ∨ pt = 2 by omega) with rfl | rfl
            · walk_at "go"
              refine ⟨sd, _, _, rfl, at_new hqa hsd2, fun r hr => ?_⟩
              walk_at "go"
              refine fin _ _ ?_
              exact ⟨(g.1, r, g.2.2), rfl, by rw [upd_upd]; rfl, gateOk_not (by dsimp only; omega)⟩
            · walk_at "go"
              refine ⟨sd, _, _, rfl, at_new hqa hsd2, fun r hr => ?_⟩
              walk_at "go"
              refine fin _ _ ?_
              exact ⟨(g.1, g.2.1, r), rfl, by rw [upd_upd]; rfl, gateOk_not (by dsimp only; omega)⟩
      · have hk : (t - (vs.length : Nat)).toNat < es.length := by omega
        have hix : ixN (es.map V.int).length (t - (vs.length : Nat)) = some (t - (vs.length : Nat)).toNat := ixN_pos (by omega) (by omega)
        walk_at "go"
        refine ⟨sd, _, _, rfl, hsd2, fun r hr => ?_⟩
        walk_at "go"
        have et : (gs.length : Int) + (((t - (vs.length : Nat)).toNat : Nat) : Int) = t := by omega
        have w := bi.wire (z' := r) hk (wireOk_not (by omega))
        rw [et] at w
        exact ⟨_, _, _, _, vs, gs, es.set (t - (vs.length : Nat)).toNat r, ps ++ [t], rfl, Same.setNew sm1 fe, at_set nge xg', by rw [upd_same, List.map_set], at_set nep' xp', hg1.set xe', by simp; omega, w⟩
    · walk_at "go"
      exact ⟨_, _, _, _, vs, gs, es, ps, rfl, sm, xg, xe, xp, hg, by omega, bi⟩
  · rintro σ H' ⟨o6, o7, o8, o9, vs, gs, es, ps, rfl, sm, xg, xe, xp, hg, pl, bi⟩
    have h1' := sm _ _ h1
    have gl' := bi.gl
    have el' := bi.el
    have fit : Fits ⟨c.free, gs, es⟩ := ⟨rc.f0, rc.f1, by show gs.length ≤ 20000; omega, by show es.length ≤ 2000; omega⟩
    walk_at "go"
    intro d hd
    walk_at "goI"
    refine g_keep (fun σ H2 => ∃ dd, σ = [some (.ref sd), some (.ref a), some (.int times), some (.ref lg), some (.ref le), some (.ref lp), o6, o7, o8, o9, some dd] ∧ Same H' H2 ∧ dV H2 dd (verdict ⟨c.free, gs, es⟩)) ?_ (fun f fin => ?_)
    · rintro σ H2 ⟨dd, rfl, sm2, hdd⟩
      have xg' := sm2 _ _ xg
      have xe' := sm2 _ _ xe
      have h1'' := sm2 _ _ h1'
      walk_at "go"
      intro x1 y1
      walk_at "go"
      intro x2 y2
      walk_at "go"
      intro x3 y3
      walk_at "go"
      intro x4 y4
      walk_at "go"
      exact q _ ⟨c.free, gs, es⟩ _ (sm.trans (sm2.trans ((((Same.new y1).then y2).then y3).then y4))) ⟨x4, .ref x3, dd, rfl, upd_same, cV.mk (by array_get_dec) (by array_get_dec) (hg.same (sm2.trans ((((Same.new y1).then y2).then y3).then y4))) (by array_get_dec), hdd.same ((((Same.new y1).then y2).then y3).then y4)⟩ rfl gl' el'
    · have xp' := at_new (x := .tup [.str "told", .non]) hd xp
      walk_at "go"
      refine g_ite (fun pos => ?_) (fun neg => ?_)
      · walk_at "go"
        refine ⟨lp, ps, rfl, .of xp', by simp at pos; exact pos, fun m hm hl => ?_⟩
        walk_at "go"
        intro d2 hd2
        walk_at "go"
        refine fin _ _ ?_
        refine ⟨_, rfl, (Same.new hd).then hd2, ?_⟩
        rw [bi.min fit hm hl]
        exact ⟨d2, rfl, upd_same⟩
      · have e : ps = [] := by
          cases ps with
          | nil => rfl
          | cons z r => exact absurd (by simp) neg
        subst e
        walk_at "go"
        refine fin _ _ ?_
        refine ⟨_, rfl, .new hd, ?_⟩
        rw [bi.none fit]
        exact ⟨d, rfl, upd_same⟩
end

end K20
set_option maxHeartbeats 4000000
namespace K20
open PySem PySem.Spec PyProof.Rows L2 FabH He
local macro_rules | `(tactic| array_mem_dec) => `(tactic| (first | with_reducible assumption | with_reducible exact SqL.of (by array_get_dec) | with_reducible exact SqT.of (by array_get_dec) | ((repeat (with_reducible first | refine Same.seq (Same.new (by assumption)) ?_ | refine Same.tup (Same.new (by assumption)) ?_)); with_reducible assumption)))
local macro_rules | `(tactic| array_get_dec) => `(tactic| (first | with_reducible assumption | with_reducible exact upd_same | ((repeat (first | with_reducible exact upd_same | ((with_reducible apply at_new); with_reducible assumption) | ((with_reducible apply at_lstT); with_reducible assumption) | ((with_reducible apply at_lstR); with_reducible assumption) | ((with_reducible apply at_set); with_reducible assumption))); done) | ((repeat (first | ((with_reducible apply at_new); with_reducible assumption) | ((with_reducible apply at_lstT); with_reducible assumption) | ((with_reducible apply at_lstR); with_reducible assumption) | ((with_reducible apply at_set); with_reducible assumption))); with_reducible assumption)))
local macro_rules | `(tactic| walk_at "side") => `(tactic| (first | with_reducible assumption | decide | exact MOk.div (by assumption) | exact MOk.div (MOk.of (by decide) (by decide)) | (simp only [List.length_append, List.length_map, List.length_replicate, List.length_cons, List.length_nil, sizeLine_eq, CMul, CDivW, CPow]; omega) | omega))
local macro_rules | `(tactic| walk_at "st") => `(tactic| first
  | with_reducible refine g_cons ?_ | ((with_reducible apply g_var); (first | exact rfl | assumption)) | with_reducible refine g_const ?_ | with_reducible refine g_nil ?_ | with_reducible refine g_op ?_ | with_reducible refine g_rI0 ?_ | with_reducible refine g_seq ?_ | with_reducible refine g_asg ?_ | ((with_reducible refine g_name ?_); dsimp only [List.set_cons_zero, List.set_cons_succ])
  | with_reducible refine g_nx ?_ | with_reducible refine g_rt ?_ | with_reducible refine g_call ?_ | with_reducible refine g_ret ?_ | with_reducible refine g_test ?_ | with_reducible refine g_bl ?_ | with_reducible refine g_cb ?_ | with_reducible refine g_tB ?_ | with_reducible refine g_un ?_ | with_reducible refine g_rU ?_
  | with_reducible refine g_eqi ?_ | with_reducible refine g_int ?_ | with_reducible refine g_and ?_ | with_reducible refine g_or ?_ | with_reducible refine g_not ?_ | with_reducible refine g_drop ?_ | with_reducible refine g_next ?_ | with_reducible refine g_retN ?_ | with_reducible refine g_iteT ?_ | with_reducible refine g_iteF ?_ | with_reducible refine g_iteNT ?_ | with_reducible refine g_iteNF ?_
  | ((with_reducible apply g_ixL); array_mem_dec; (first | exact rfl | assumption)) | ((with_reducible apply g_ixT); array_mem_dec; (first | exact rfl | assumption)) | ((with_reducible apply g_lenL); array_mem_dec) | ((with_reducible apply g_lenT); array_mem_dec) | ((with_reducible apply g_rI); walk_at "side")
  | ((with_reducible apply g_setL); array_get_dec; (first | exact rfl | assumption)) | ((with_reducible apply g_app); array_get_dec; walk_at "side") | with_reducible refine g_tup ?_ | with_reducible refine g_lst ?_ | ((with_reducible apply g_listL); array_mem_dec) | ((with_reducible apply g_listT); array_mem_dec) | ((with_reducible apply g_tupT); array_mem_dec) | ((with_reducible apply g_tupL); array_mem_dec)
  | ((with_reducible apply g_room); walk_at "side") | with_reducible refine g_abs ?_ | with_reducible refine g_chain ?_ | with_reducible refine g_andV ?_ | with_reducible refine g_orV ?_ | with_reducible refine g_notV ?_ | with_reducible refine g_gsub ?_ | ((with_reducible apply g_gtup); array_mem_dec; (first | exact rfl | assumption)) | with_reducible refine g_gcons ?_ | with_reducible refine g_gnil ?_ | with_reducible refine g_bm ?_ | ((with_reducible apply g_tyL); array_mem_dec) | with_reducible refine g_tyS ?_
  | with_reducible refine g_callS ?_ | with_reducible refine g_nei ?_ | with_reducible refine g_eqs ?_ | with_reducible refine g_nes ?_ | with_reducible refine g_eqb ?_ | with_reducible refine g_nonI ?_ | with_reducible refine g_nonN ?_ | with_reducible refine g_nonS ?_ | with_reducible refine g_nonB ?_ | with_reducible refine g_nonR ?_ | with_reducible refine g_isBB ?_ | with_reducible refine g_isBI ?_ | with_reducible refine g_isBS ?_ | with_reducible refine g_isBR ?_ | with_reducible refine g_isBN ?_
  | with_reducible refine g_rng1 ?_ | with_reducible refine g_rng2 ?_ | ((with_reducible apply g_notInR); array_get_dec) | ((with_reducible apply g_inR); array_get_dec) | with_reducible refine g_for ?_ | with_reducible refine g_iList ?_ | with_reducible refine g_iTup ?_ | with_reducible refine g_iR1 ?_ | with_reducible refine g_iEnum ?_ | with_reducible refine g_lc ?_ | with_reducible refine g_yes ?_ | with_reducible refine g_slc ?_ | with_reducible refine g_raise ?_ | with_reducible refine g_exv ?_ | with_reducible refine g_xf ?_ | ((with_reducible apply g_xfe); array_get_dec; (first | exact rfl | assumption)) | with_reducible refine g_part ?_ | with_reducible refine g_nopart ?_ | with_reducible refine g_exi ?_ | with_reducible refine g_brk ?_ | with_reducible refine g_cnt ?_ | with_reducible refine g_bk ?_ | with_reducible refine g_ct ?_ | with_reducible refine g_if ?_
  | ((with_reducible apply g_atL); array_mem_dec) | ((with_reducible apply g_atT); array_mem_dec) | ((with_reducible apply g_enum); array_mem_dec) | ((with_reducible apply g_R1); walk_at "side"; walk_at "side")
  | with_reducible refine g_is_int_int ?_ | with_reducible refine g_is_int_bool ?_ | with_reducible refine g_is_int_str ?_ | with_reducible refine g_is_int_dict ?_ | with_reducible refine g_is_int_list ?_ | with_reducible refine g_is_int_tuple ?_ | with_reducible refine g_is_bool_bool ?_ | with_reducible refine g_is_bool_int ?_ | with_reducible refine g_is_str_int ?_ | with_reducible refine g_is_str_str ?_ | with_reducible refine g_is_str_dict ?_ | with_reducible refine g_is_str_list ?_ | with_reducible refine g_is_str_tuple ?_ | ((with_reducible apply g_is_list_int); array_get_dec) | ((with_reducible apply g_is_list_str); array_get_dec) | ((with_reducible apply g_is_list_dict); array_get_dec) | ((with_reducible apply g_is_list_list); array_get_dec) | ((with_reducible apply g_is_list_tuple); array_get_dec) | ((with_reducible apply g_is_tuple_int); array_get_dec) | ((with_reducible apply g_is_tuple_str); array_get_dec) | ((with_reducible apply g_is_tuple_dict); array_get_dec) | ((with_reducible apply g_is_tuple_list); array_get_dec) | ((with_reducible apply g_is_tuple_tuple); array_get_dec) | ((with_reducible apply g_ixSL); array_mem_dec; (first | exact rfl | assumption)) | ((with_reducible apply g_ixST); array_mem_dec; (first | exact rfl | assumption)))
local macro_rules | `(tactic| walk_at "go") => `(tactic| repeat first | with_reducible refine g_ifS ?_ | walk_at "st")
local macro_rules | `(tactic| walk_at "dec") => `(tactic| first | with_reducible assumption | decide | omega)
local macro_rules | `(tactic| walk_at "goD") => `(tactic| repeat first | with_reducible refine g_ifS ?_ | walk_at "st" | ((with_reducible apply g_iteY); walk_at "dec") | ((with_reducible apply g_iteX); walk_at "dec") | ((with_reducible apply g_iteNY); walk_at "dec") | ((with_reducible apply g_iteNX); walk_at "dec"))
local macro_rules | `(tactic| walk_at "goI") => `(tactic| repeat walk_at "st")
section
variable {P : Program} {w : World} {K : PySem.W.Frag} {mg : Str → Option Value} {base : Heap}
theorem ok__law_sized (T : Txt P K mg) (G__law_draw : FnOk P w K mg base CX0 1 (ga K "_law_draw") (fdOf K "_law_draw") ["pool", "many"] (sp_draw)) (G__law_wrong : FnOk P w K mg base CX0 2 (ga K "_law_wrong") (fdOf K "_law_wrong") ["side", "least", "most"] (sp__law_wrong)) : FnOk P w K mg base CX0 3 (ga K "_law_sized") (fdOf K "_law_sized") ["side", "circuit", "bent"] (sp__law_sized) := by
  refine T.f__law_sized.f.ok sc__law_sized (fun vs H Q E h => by obtain ⟨_, _, _, _, _, e, _⟩ := h; rw [e]; rfl) (fun cdv A outer s H vs Q E hr h => ⟨(d__law_sized T G__law_draw (b__law_draw T) G__law_wrong (b__law_wrong T) hr).1, PSs.nox (d__law_sized T G__law_draw (b__law_draw T) G__law_wrong (b__law_wrong T) hr).2, ?_⟩)
  dsimp only [d__law_sized, cxOf]
  obtain ⟨sd, v, b, c, d, rfl, hsd, hc, rc, hd, df0, df1, dgl, del, q⟩ := h
  obtain ⟨a, ga, ea, vs, rfl, h1, h2, h3, h4⟩ := id hc
  obtain ⟨b, gb, eb, ws, rfl, k1, k2, k3, k4⟩ := id hd
  have gl := rc.gl
  have el := rc.el
  have cf0 := rc.f0
  rw [show start N__law_sized [.ref sd, .ref a, .ref b] = [some (.ref sd), some (.ref a), some (.ref b), none, none, none, none, none, none, none, none, none] from rfl]
  walk_at "go"
  refine ⟨sd, 8, rfl, hsd, .of (by decide) (by decide), fun k kd0 kd1 => ?_⟩
  walk_at "go"
  intro x0 y0
  walk_at "goI"
  have s1 : Same H (upd H x0 (.tup [.int 0, .int (-1), .int (-1)])) := .new y0
  have hx : upd H x0 (.tup [.int 0, .int (-1), .int (-1)]) x0 = some (.tup [.int 0, .int (-1), .int (-1)]) := upd_same
  generalize upd H x0 (.tup [.int 0, .int (-1), .int (-1)]) = H1 at *
  have h1 := s1 _ _ h1
  have h2 := s1 _ _ h2
  have h3 := h3.same s1
  have h4 := s1 _ _ h4
  have k1 := s1 _ _ k1
  have k2 := s1 _ _ k2
  have k3 := k3.same s1
  have k4 := s1 _ _ k4
  have hsd : IsPool H1 sd := s1 _ _ hsd
  have vl := h3.1
  walk_at "go"
  refine g_ite (fun e0 => ?_) (fun e0 => ?_)
  · walk_at "go"
    intro x1 y1
    walk_at "go"
    intro x2 y2
    walk_at "go"
    intro x3 y3
    walk_at "go"
    refine q _ ⟨2000, c.gates, c.ends⟩ _ (s1.trans (((Same.new y1).then y2).then y3)) ⟨x3, .ref x1, .ref x2, rfl, upd_same, cV.mk (by array_get_dec) (by array_get_dec) (h3.same (((Same.new y1).then y2).then y3)) (by array_get_dec), ?_⟩ ⟨by dsimp only; omega, by dsimp only; omega⟩
    rw [sized0 rc]
    exact ⟨x2, rfl, at_new y3 upd_same⟩
  rcases (show k = 1 ∨ k = 2 ∨ k = 3 ∨ k = 4 ∨ k = 5 ∨ k = 6 ∨ k = 7 by omega) with rfl | rfl | rfl | rfl | rfl | rfl | rfl
  · walk_at "goD"
    refine ⟨sd, _, _, rfl, hsd, fun r hr => ?_⟩
    walk_at "goD"
    intro x1 y1
    walk_at "goD"
    refine g_rep2 upd_same (by decide) (by decide) (fun p3 H3 s3 e3 => ?_)
    refine g_cat2 (s3 _ _ (at_new y1 k4)) e3 (by rw [List.length_map, List.length_replicate, sizeLine_eq]; omega) (fun p4 H4 s4 e4 => ?_)
    have S : Same H1 H4 := (Same.new y1).trans (s3.trans s4)
    have k1' := S _ _ k1
    have k2' := S _ _ k2
    walk_at "goD"
    intro x2 y2
    walk_at "goD"
    intro x3 y3
    walk_at "goD"
    intro x4 y4
    walk_at "goD"
    refine q _ ⟨r, d.gates, d.ends ++ List.replicate (2001 * (1 - 1) : Int).toNat (-1)⟩ _ (s1.trans (S.trans (((Same.new y2).then y3).then y4))) ⟨x4, .ref x2, .ref x3, rfl, upd_same, cV.mk (by array_get_dec) (by array_get_dec) (k3.same (S.trans (((Same.new y2).then y3).then y4))) (by rw [List.map_append, List.map_replicate]; array_get_dec), ?_⟩ ⟨by dsimp only; omega, by dsimp only; rw [List.length_append, List.length_replicate]; omega⟩
    rw [verdict_free (by dsimp only; omega)]
    exact ⟨x3, rfl, at_new y4 upd_same⟩
  · walk_at "goD"
    refine ⟨sd, _, _, rfl, hsd, fun r hr => ?_⟩
    walk_at "goD"
    intro x1 y1
    walk_at "goD"
    refine g_rep2 upd_same (by decide) (by decide) (fun p3 H3 s3 e3 => ?_)
    refine g_cat2 (s3 _ _ (at_new y1 k4)) e3 (by rw [List.length_map, List.length_replicate, sizeLine_eq]; omega) (fun p4 H4 s4 e4 => ?_)
    have S : Same H1 H4 := (Same.new y1).trans (s3.trans s4)
    have k1' := S _ _ k1
    have k2' := S _ _ k2
    walk_at "goD"
    intro x2 y2
    walk_at "goD"
    intro x3 y3
    walk_at "goD"
    intro x4 y4
    walk_at "goD"
    refine q _ ⟨r, d.gates, d.ends ++ List.replicate (2001 * (2 - 1) : Int).toNat (-1)⟩ _ (s1.trans (S.trans (((Same.new y2).then y3).then y4))) ⟨x4, .ref x2, .ref x3, rfl, upd_same, cV.mk (by array_get_dec) (by array_get_dec) (k3.same (S.trans (((Same.new y2).then y3).then y4))) (by rw [List.map_append, List.map_replicate]; array_get_dec), ?_⟩ ⟨by dsimp only; omega, by dsimp only; rw [List.length_append, List.length_replicate]; omega⟩
    rw [verdict_free (by dsimp only; omega)]
    exact ⟨x3, rfl, at_new y4 upd_same⟩
  · walk_at "goD"
    refine ⟨sd, _, rfl, hsd, .of (by decide) (by decide), fun r r0 r1 => ?_⟩
    walk_at "goD"
    intro x1 y1
    walk_at "goD"
    refine g_rep2 upd_same (by omega) (by omega) (fun p3 H3 s3 e3 => ?_)
    have S : Same H1 H3 := (Same.new y1).trans s3
    have k1' := S _ _ k1
    have k2' := S _ _ k2
    walk_at "goD"
    intro x2 y2
    walk_at "goD"
    intro x3 y3
    walk_at "goD"
    intro x4 y4
    walk_at "goD"
    have e : ((List.replicate (2001 + r).toNat (-2 : Int)).length : Int) = 2001 + r := by rw [List.length_replicate]; omega
    refine q _ ⟨d.free, d.gates, List.replicate (2001 + r).toNat (-2)⟩ _ (s1.trans (S.trans (((Same.new y2).then y3).then y4))) ⟨x4, .ref x2, .ref x3, rfl, upd_same, cV.mk (by array_get_dec) (by array_get_dec) (k3.same (S.trans (((Same.new y2).then y3).then y4))) (by rw [List.map_replicate]; array_get_dec), ?_⟩ ⟨by dsimp only; omega, by dsimp only; omega⟩
    rw [verdict_outs (c := ⟨d.free, d.gates, List.replicate (2001 + r).toNat (-2)⟩) ⟨df0, df1⟩ (by dsimp only; omega) (by dsimp only; omega), e]
    exact ⟨x3, rfl, at_new y4 upd_same⟩
  · walk_at "goD"
    intro x1 y1
    walk_at "goD"
    refine g_repL upd_same (by decide) (by decide) (fun x2 y2 => ?_)
    walk_at "goD"
    refine ⟨sd, _, rfl, at_new y2 (at_new y1 hsd), .of (by decide) (by decide), fun r r0 r1 => ?_⟩
    walk_at "goD"
    intro x3 y3
    walk_at "goD"
    intro x4 y4
    walk_at "goD"
    intro x5 y5
    walk_at "goD"
    intro x6 y6
    walk_at "goD"
    refine q _ ⟨c.free, c.gates, List.replicate (2000 : Int).toNat (-1)⟩ _ (s1.trans ((((((Same.new y1).then y2).then y3).then y4).then y5).then y6)) ⟨x6, .ref x5, .ref x3, rfl, upd_same, cV.mk (by array_get_dec) (by array_get_dec) (h3.same ((((((Same.new y1).then y2).then y3).then y4).then y5).then y6)) (by rw [List.map_replicate]; array_get_dec), ?_⟩ ⟨by dsimp only; omega, by dsimp only; rw [List.length_replicate]; decide⟩
    rw [sized4 rc _ (by decide)]
    exact ⟨x3, rfl, at_new y6 (at_new y5 (at_new y4 upd_same))⟩
  · walk_at "goD"
    intro x1 y1
    walk_at "goD"
    refine g_repL upd_same (by decide) (by decide) (fun x2 y2 => ?_)
    walk_at "goD"
    refine ⟨sd, _, rfl, at_new y2 (at_new y1 hsd), .of (by decide) (by decide), fun r r0 r1 => ?_⟩
    walk_at "goD"
    intro x3 y3
    walk_at "goD"
    refine ⟨sd, _, _, rfl, at_new y3 (at_new y2 (at_new y1 hsd)), fun m hm => ?_⟩
    have S3 := ((Same.new (x := .lst [.int (-1)]) y1).then (x := .lst (List.replicate (2000 : Int).toNat (.int (-1)))) y2).then (x := .tup [.str "told", .non]) y3
    have hl : upd (upd (upd H1 x1 (.lst [.int (-1)])) x2 (.lst (List.replicate (2000 : Int).toNat (.int (-1))))) x3 (.tup [.str "told", .non]) x2 = some (.lst (List.replicate (2000 : Int).toNat (.int (-1)))) := at_new y3 upd_same
    have fr2 : H1 x2 = none := free_of y2
    generalize upd (upd (upd H1 x1 (.lst [.int (-1)])) x2 (.lst (List.replicate (2000 : Int).toNat (.int (-1))))) x3 (.tup [.str "told", .non]) = H3 at *
    have h1' := S3 _ _ h1
    have h2' := S3 _ _ h2
    have h3' := h3.same S3
    have hix : ixN (List.replicate (2000 : Int).toNat (V.int (-1))).length r = some r.toNat := ixN_pos r0 (by rw [List.length_replicate]; omega)
    walk_at "goD"
    intro x4 y4
    have S4 := (Same.setNew (x := .lst ((List.replicate (2000 : Int).toNat (V.int (-1))).set r.toNat (.int m))) S3 fr2).then (x := .tup [.str "circuit", .int ((vs.length : Nat) + r)]) y4
    have h1' := S4 _ _ h1
    have h2' := S4 _ _ h2
    have h3' := h3.same S4
    walk_at "goD"
    intro x5 y5
    walk_at "goD"
    intro x6 y6
    walk_at "goD"
    intro x7 y7
    walk_at "goD"
    refine q _ ⟨c.free, c.gates, (List.replicate (2000 : Int).toNat (-1)).set r.toNat m⟩ _ (s1.trans (S4.trans (((Same.new y5).then y6).then y7))) ⟨x7, .ref x6, .ref x4, rfl, upd_same, cV.mk (by array_get_dec) (by array_get_dec) (h3.same (S4.trans (((Same.new y5).then y6).then y7))) (by rw [List.map_set, List.map_replicate]; array_get_dec), ?_⟩ ⟨by dsimp only; omega, by dsimp only; rw [List.length_set, List.length_replicate]; decide⟩
    rw [sized5 rc _ _ (by decide) (by omega) (wireOk_not (by omega))]
    refine ⟨x4, rfl, ?_⟩
    rw [at_new y7 (at_new y6 (at_new y5 upd_same))]
    show some (HO.tup [.str "circuit", .int ((vs.length : Nat) + r)]) = some (HO.tup [.str "circuit", .int ((c.gates.length : Nat) + (r.toNat : Nat))])
    rw [show ((vs.length : Nat) : Int) + r = (c.gates.length : Nat) + (r.toNat : Nat) by omega]
  · walk_at "goD"
    refine ⟨sd, _, rfl, hsd, .of (by decide) (by decide), fun r r0 r1 => ?_⟩
    walk_at "goD"
    intro x1 y1
    walk_at "goD"
    refine g_rep2 upd_same (by omega) (by omega) (fun p3 H3 s3 e3 => ?_)
    have S : Same H1 H3 := (Same.new y1).trans s3
    have k1' := S _ _ k1
    have k4' := S _ _ k4
    have h1' := S _ _ h1
    walk_at "goD"
    intro x2 y2
    walk_at "goD"
    refine ⟨sd, _, rfl, at_new y2 (S _ _ hsd), .of (by decide) (by decide), fun r2 r3 r4 => ?_⟩
    walk_at "goD"
    refine g_rep2 upd_same (by omega) (by omega) (fun p4 H4 s4 e4 => ?_)
    refine g_cat2 (s4 _ _ (at_new y2 k4')) e4 (by rw [List.length_map, List.length_replicate, sizeLine_eq]; omega) (fun p5 H5 s5 e5 => ?_)
    have S2 : Same H3 H5 := (Same.new y2).trans (s4.trans s5)
    have e3' := S2 _ _ e3
    walk_at "goD"
    intro x3 y3
    walk_at "goD"
    intro x4 y4
    walk_at "goD"
    intro x5 y5
    walk_at "goD"
    have e : ((List.replicate (20001 + r).toNat idle).length : Int) = 20001 + r := by rw [List.length_replicate]; omega
    refine q _ ⟨c.free, List.replicate (20001 + r).toNat idle, d.ends ++ List.replicate (2001 * r2).toNat (-1)⟩ _ (s1.trans (S.trans (S2.trans (((Same.new y3).then y4).then y5)))) ⟨x5, .ref x3, .ref x4, rfl, upd_same, cV.mk (by array_get_dec) (by array_get_dec) (gsV.rep _ ⟨x0, rfl, (S.trans (S2.trans (((Same.new y3).then y4).then y5))) _ _ hx⟩) (by rw [List.map_append, List.map_replicate]; array_get_dec), ?_⟩ ⟨by dsimp only; omega, by dsimp only; rw [List.length_append, List.length_replicate]; omega⟩
    rw [verdict_many (c := ⟨c.free, List.replicate (20001 + r).toNat idle, d.ends ++ List.replicate (2001 * r2).toNat (-1)⟩) ⟨rc.f0, rc.f1⟩ (by dsimp only; omega), e]
    exact ⟨x4, rfl, at_new y5 upd_same⟩
  · walk_at "goD"
    intro x1 y1
    walk_at "goD"
    refine g_repL upd_same (by decide) (by decide) (fun x2 y2 => ?_)
    walk_at "goD"
    intro x3 y3
    walk_at "goD"
    have S3 := ((Same.new (x := .lst [.ref x0]) y1).then (x := .lst (List.replicate (20000 : Int).toNat (.ref x0))) y2).then (x := .tup [.str "told", .non]) y3
    have hl : upd (upd (upd H1 x1 (.lst [.ref x0])) x2 (.lst (List.replicate (20000 : Int).toNat (.ref x0)))) x3 (.tup [.str "told", .non]) x2 = some (.lst (List.replicate (20000 : Int).toNat (.ref x0))) := at_new y3 upd_same
    have hd3 : upd (upd (upd H1 x1 (.lst [.ref x0])) x2 (.lst (List.replicate (20000 : Int).toNat (.ref x0)))) x3 (.tup [.str "told", .non]) x3 = some (.tup [.str "told", .non]) := upd_same
    have fr2 : H1 x2 = none := free_of y2
    generalize upd (upd (upd H1 x1 (.lst [.ref x0])) x2 (.lst (List.replicate (20000 : Int).toNat (.ref x0)))) x3 (.tup [.str "told", .non]) = H3 at *
    have h1' := S3 _ _ h1
    have h4' := S3 _ _ h4
    have hx' := S3 _ _ hx
    refine ⟨sd, _, rfl, S3 _ _ hsd, .of (by decide) (by decide), fun r r0 r1 => ?_⟩
    walk_at "goI"
    refine g_ite (fun e1 => ?_) (fun e1 => ?_)
    · walk_at "goD"
      refine ⟨sd, _, rfl, S3 _ _ hsd, .of (by decide) (by decide), fun m m0 m1 => ?_⟩
      walk_at "goD"
      intro x4 y4
      have hix : ixN (List.replicate (20000 : Int).toNat (V.ref x0)).length m = some m.toNat := ixN_pos m0 (by rw [List.length_replicate]; omega)
      walk_at "goD"
      intro x5 y5
      have hl4 := at_new (x := .tup [.int 0, .int (-1), .int (c.free + m)]) y4 hl
      have S5 := (Same.setNew (x := .lst ((List.replicate (20000 : Int).toNat (V.ref x0)).set m.toNat (.ref x4))) (S3.then (x := .tup [.int 0, .int (-1), .int (c.free + m)]) y4) fr2).then (x := .tup [.str "circuit", .int m]) y5
      have h1' := S5 _ _ h1
      have h4' := S5 _ _ h4
      have hx' := S5 _ _ hx
      have hx4 : upd (upd (upd H3 x4 (.tup [.int 0, .int (-1), .int (c.free + m)])) x2 (.lst ((List.replicate (20000 : Int).toNat (V.ref x0)).set m.toNat (.ref x4)))) x5 (.tup [.str "circuit", .int m]) x4 = some (.tup [.int 0, .int (-1), .int (c.free + m)]) := at_new y5 (at_lst hl4 upd_same tup_ne_lst)
      walk_at "goD"
      intro x6 y6
      walk_at "goD"
      intro x7 y7
      walk_at "goD"
      intro x8 y8
      walk_at "goD"
      have em : c.free + m = c.free + (m.toNat : Nat) := by omega
      refine q _ ⟨c.free, (List.replicate (20000 : Int).toNat idle).set m.toNat (0, -1, c.free + (m.toNat : Nat)), c.ends⟩ _ (s1.trans (S5.trans (((Same.new y6).then y7).then y8))) ⟨x8, .ref x7, .ref x5, rfl, upd_same, cV.mk (by array_get_dec) (by array_get_dec) ((gsV.rep _ ⟨x0, rfl, (((Same.new y6).then y7).then y8) _ _ hx'⟩).put ⟨x4, rfl, by rw [← em]; exact (((Same.new y6).then y7).then y8) _ _ hx4⟩) (by array_get_dec), ?_⟩ ⟨by dsimp only; rw [List.length_set, List.length_replicate]; decide, by dsimp only; omega⟩
      rw [sized8 rc (20000 : Int).toNat _ rfl (by omega)]
      refine ⟨x5, rfl, ?_⟩
      rw [at_new y8 (at_new y7 (at_new y6 upd_same))]
      show some (HO.tup [.str "circuit", .int m]) = some (HO.tup [.str "circuit", .int (m.toNat : Nat)])
      rw [show m = ((m.toNat : Nat) : Int) by omega]
      rfl
    · walk_at "goD"
      intro x6 y6
      walk_at "goD"
      intro x7 y7
      walk_at "goD"
      intro x8 y8
      walk_at "goD"
      refine q _ ⟨c.free, List.replicate (20000 : Int).toNat idle, c.ends⟩ _ (s1.trans (S3.trans (((Same.new y6).then y7).then y8))) ⟨x8, .ref x7, .ref x3, rfl, upd_same, cV.mk (by array_get_dec) (by array_get_dec) (gsV.rep _ ⟨x0, rfl, (((Same.new y6).then y7).then y8) _ _ hx'⟩) (by array_get_dec), ?_⟩ ⟨by dsimp only; rw [List.length_replicate]; decide, by dsimp only; omega⟩
      rw [sized7 rc (20000 : Int).toNat rfl]
      exact ⟨x3, rfl, (((Same.new y6).then y7).then y8) _ _ hd3⟩
end

end K20
set_option maxHeartbeats 4000000
namespace K20
open PySem PySem.Spec PyProof.Rows L2 FabH He
local macro_rules | `(tactic| array_mem_dec) => `(tactic| (first | with_reducible assumption | with_reducible exact SqL.of (by array_get_dec) | with_reducible exact SqT.of (by array_get_dec) | ((repeat (with_reducible first | refine Same.seq (Same.new (by assumption)) ?_ | refine Same.tup (Same.new (by assumption)) ?_)); with_reducible assumption)))
local macro_rules | `(tactic| array_get_dec) => `(tactic| (first | with_reducible assumption | with_reducible exact upd_same | ((repeat (first | with_reducible exact upd_same | ((with_reducible apply at_new); with_reducible assumption) | ((with_reducible apply at_lstT); with_reducible assumption) | ((with_reducible apply at_lstR); with_reducible assumption) | ((with_reducible apply at_set); with_reducible assumption))); done) | ((repeat (first | ((with_reducible apply at_new); with_reducible assumption) | ((with_reducible apply at_lstT); with_reducible assumption) | ((with_reducible apply at_lstR); with_reducible assumption) | ((with_reducible apply at_set); with_reducible assumption))); with_reducible assumption)))
local macro_rules | `(tactic| walk_at "side") => `(tactic| (first | with_reducible assumption | decide | exact MOk.div (by assumption) | exact MOk.div (MOk.of (by decide) (by decide)) | (simp only [List.length_append, List.length_map, List.length_replicate, List.length_cons, List.length_nil, sizeLine_eq, CMul, CDivW, CPow]; omega) | omega))
local macro_rules | `(tactic| walk_at "st") => `(tactic| first
  | with_reducible refine g_cons ?_ | ((with_reducible apply g_var); (first | exact rfl | assumption)) | with_reducible refine g_const ?_ | with_reducible refine g_nil ?_ | with_reducible refine g_op ?_ | with_reducible refine g_rI0 ?_ | with_reducible refine g_seq ?_ | with_reducible refine g_asg ?_ | ((with_reducible refine g_name ?_); dsimp only [List.set_cons_zero, List.set_cons_succ])
  | with_reducible refine g_nx ?_ | with_reducible refine g_rt ?_ | with_reducible refine g_call ?_ | with_reducible refine g_ret ?_ | with_reducible refine g_test ?_ | with_reducible refine g_bl ?_ | with_reducible refine g_cb ?_ | with_reducible refine g_tB ?_ | with_reducible refine g_un ?_ | with_reducible refine g_rU ?_
  | with_reducible refine g_eqi ?_ | with_reducible refine g_int ?_ | with_reducible refine g_and ?_ | with_reducible refine g_or ?_ | with_reducible refine g_not ?_ | with_reducible refine g_drop ?_ | with_reducible refine g_next ?_ | with_reducible refine g_retN ?_ | with_reducible refine g_iteT ?_ | with_reducible refine g_iteF ?_ | with_reducible refine g_iteNT ?_ | with_reducible refine g_iteNF ?_
  | ((with_reducible apply g_ixL); array_mem_dec; (first | exact rfl | assumption)) | ((with_reducible apply g_ixT); array_mem_dec; (first | exact rfl | assumption)) | ((with_reducible apply g_lenL); array_mem_dec) | ((with_reducible apply g_lenT); array_mem_dec) | ((with_reducible apply g_rI); walk_at "side")
  | ((with_reducible apply g_setL); array_get_dec; (first | exact rfl | assumption)) | ((with_reducible apply g_app); array_get_dec; walk_at "side") | with_reducible refine g_tup ?_ | with_reducible refine g_lst ?_ | ((with_reducible apply g_listL); array_mem_dec) | ((with_reducible apply g_listT); array_mem_dec) | ((with_reducible apply g_tupT); array_mem_dec) | ((with_reducible apply g_tupL); array_mem_dec)
  | ((with_reducible apply g_room); walk_at "side") | with_reducible refine g_abs ?_ | with_reducible refine g_chain ?_ | with_reducible refine g_andV ?_ | with_reducible refine g_orV ?_ | with_reducible refine g_notV ?_ | with_reducible refine g_gsub ?_ | ((with_reducible apply g_gtup); array_mem_dec; (first | exact rfl | assumption)) | with_reducible refine g_gcons ?_ | with_reducible refine g_gnil ?_ | with_reducible refine g_bm ?_ | ((with_reducible apply g_tyL); array_mem_dec) | with_reducible refine g_tyS ?_
  | with_reducible refine g_callS ?_ | with_reducible refine g_nei ?_ | with_reducible refine g_eqs ?_ | with_reducible refine g_nes ?_ | with_reducible refine g_eqb ?_ | with_reducible refine g_nonI ?_ | with_reducible refine g_nonN ?_ | with_reducible refine g_nonS ?_ | with_reducible refine g_nonB ?_ | with_reducible refine g_nonR ?_ | with_reducible refine g_isBB ?_ | with_reducible refine g_isBI ?_ | with_reducible refine g_isBS ?_ | with_reducible refine g_isBR ?_ | with_reducible refine g_isBN ?_
  | with_reducible refine g_rng1 ?_ | with_reducible refine g_rng2 ?_ | ((with_reducible apply g_notInR); array_get_dec) | ((with_reducible apply g_inR); array_get_dec) | with_reducible refine g_for ?_ | with_reducible refine g_iList ?_ | with_reducible refine g_iTup ?_ | with_reducible refine g_iR1 ?_ | with_reducible refine g_iEnum ?_ | with_reducible refine g_lc ?_ | with_reducible refine g_yes ?_ | with_reducible refine g_slc ?_ | with_reducible refine g_raise ?_ | with_reducible refine g_exv ?_ | with_reducible refine g_xf ?_ | ((with_reducible apply g_xfe); array_get_dec; (first | exact rfl | assumption)) | with_reducible refine g_part ?_ | with_reducible refine g_nopart ?_ | with_reducible refine g_exi ?_ | with_reducible refine g_brk ?_ | with_reducible refine g_cnt ?_ | with_reducible refine g_bk ?_ | with_reducible refine g_ct ?_ | with_reducible refine g_if ?_
  | ((with_reducible apply g_atL); array_mem_dec) | ((with_reducible apply g_atT); array_mem_dec) | ((with_reducible apply g_enum); array_mem_dec) | ((with_reducible apply g_R1); walk_at "side"; walk_at "side")
  | with_reducible refine g_is_int_int ?_ | with_reducible refine g_is_int_bool ?_ | with_reducible refine g_is_int_str ?_ | with_reducible refine g_is_int_dict ?_ | with_reducible refine g_is_int_list ?_ | with_reducible refine g_is_int_tuple ?_ | with_reducible refine g_is_bool_bool ?_ | with_reducible refine g_is_bool_int ?_ | with_reducible refine g_is_str_int ?_ | with_reducible refine g_is_str_str ?_ | with_reducible refine g_is_str_dict ?_ | with_reducible refine g_is_str_list ?_ | with_reducible refine g_is_str_tuple ?_ | ((with_reducible apply g_is_list_int); array_get_dec) | ((with_reducible apply g_is_list_str); array_get_dec) | ((with_reducible apply g_is_list_dict); array_get_dec) | ((with_reducible apply g_is_list_list); array_get_dec) | ((with_reducible apply g_is_list_tuple); array_get_dec) | ((with_reducible apply g_is_tuple_int); array_get_dec) | ((with_reducible apply g_is_tuple_str); array_get_dec) | ((with_reducible apply g_is_tuple_dict); array_get_dec) | ((with_reducible apply g_is_tuple_list); array_get_dec) | ((with_reducible apply g_is_tuple_tuple); array_get_dec) | ((with_reducible apply g_ixSL); array_mem_dec; (first | exact rfl | assumption)) | ((with_reducible apply g_ixST); array_mem_dec; (first | exact rfl | assumption)))
local macro_rules | `(tactic| walk_at "go") => `(tactic| repeat first | with_reducible refine g_ifS ?_ | walk_at "st")
local macro_rules | `(tactic| walk_at "dec") => `(tactic| first | with_reducible assumption | decide | omega)
local macro_rules | `(tactic| walk_at "goD") => `(tactic| repeat first | with_reducible refine g_ifS ?_ | walk_at "st" | ((with_reducible apply g_iteY); walk_at "dec") | ((with_reducible apply g_iteX); walk_at "dec") | ((with_reducible apply g_iteNY); walk_at "dec") | ((with_reducible apply g_iteNX); walk_at "dec"))
local macro_rules | `(tactic| walk_at "goI") => `(tactic| repeat walk_at "st")
section
variable {P : Program} {w : World} {K : PySem.W.Frag} {mg : Str → Option Value} {base : Heap}
theorem ok__law_beyond (T : Txt P K mg) (G__law_draw : FnOk P w K mg base CX0 1 (ga K "_law_draw") (fdOf K "_law_draw") ["pool", "many"] (sp_draw)) (G__law_wrong : FnOk P w K mg base CX0 2 (ga K "_law_wrong") (fdOf K "_law_wrong") ["side", "least", "most"] (sp__law_wrong)) : FnOk P w K mg base CX0 3 (ga K "_law_beyond") (fdOf K "_law_beyond") ["side", "circuit"] (sp__law_beyond) := by
  refine T.f__law_beyond.f.ok sc__law_beyond (fun vs H Q E h => by obtain ⟨_, _, _, e, _⟩ := h; rw [e]; rfl) (fun cdv A outer s H vs Q E hr h => ⟨(d__law_beyond T G__law_draw (b__law_draw T) G__law_wrong (b__law_wrong T) hr).1, PSs.nox (d__law_beyond T G__law_draw (b__law_draw T) G__law_wrong (b__law_wrong T) hr).2, ?_⟩)
  dsimp only [d__law_beyond, cxOf]
  obtain ⟨sd, v, c, rfl, hsd, hc, rc, q⟩ := h
  obtain ⟨a, ga, ea, vs, rfl, h1, h2, h3, h4⟩ := id hc
  have gl := rc.gl
  have el := rc.el
  rw [show start N__law_beyond [.ref sd, .ref a] = [some (.ref sd), some (.ref a), none, none, none, none, none] from rfl]
  walk_at "go"
  refine ⟨sd, 7, rfl, hsd, .of (by decide) (by decide), fun t t0 t1 => ?_⟩
  walk_at "go"
  intro ls hls
  walk_at "goI"
  refine g_keep (fun σ H1 => ∃ (fr : Int) (sz : List Int), sz.length ≤ 1 ∧ σ = [some (.ref sd), some (.ref a), some (.int (1 + t)), some (.int fr), some (.ref ga), some (.ref ea), some (.ref ls)] ∧ Same H H1 ∧ H1 ls = some (.lst (sz.map V.int)) ∧
    ((¬ 0 < Builtin.bitAnd (1 + t) 1 ∧ (0 ≤ fr ∧ fr ≤ 2000) ∧ sz = []) ∨ ∃ n r, sz = n :: r ∧ ∀ gs es, verdict ⟨fr, gs, es⟩ = .size n)) ?_ (fun f fin => ?_)
  rotate_left
  · walk_at "go"
    refine g_ite (fun b1 => ?_) (fun b1 => ?_)
    · walk_at "go"
      refine ⟨sd, _, _, rfl, at_new hls hsd, fun r hr => ?_⟩
      walk_at "go"
      refine fin _ _ ?_
      exact ⟨r, [r], Nat.le_refl _, rfl, Same.setNew (.new hls) hls, by rw [upd_same]; rfl, .inr ⟨r, [], rfl, fun gs es => verdict_free (by show ¬ (0 ≤ r ∧ r ≤ 2000); omega)⟩⟩
    · walk_at "go"
      refine fin _ _ ?_
      exact ⟨c.free, [], Nat.zero_le _, rfl, .new hls, upd_same, .inl ⟨b1, ⟨rc.f0, rc.f1⟩, rfl⟩⟩
  rintro σ H1 ⟨fr, sz, szl, rfl, sm, hs, A1⟩
  have fl : H ls = none := hls
  have hsd1 : IsPool H1 sd := sm _ _ hsd
  have h2' := sm _ _ h2
  have h3' := h3.same sm
  have h4' := sm _ _ h4
  walk_at "goI"
  refine g_keep (fun σ H2 => ∃ (ga2 : Addr) (vs2 : List V) (gs2 : List Gate) (sz2 : List Int), sz2.length ≤ 2 ∧ σ = [some (.ref sd), some (.ref a), some (.int (1 + t)), some (.int fr), some (.ref ga2), some (.ref ea), some (.ref ls)] ∧ Same H H2 ∧ H2 ls = some (.lst (sz2.map V.int)) ∧ H2 ga2 = some (.tup vs2) ∧ gsV H2 vs2 gs2 ∧ gs2.length ≤ 30000 ∧
    ((¬ 0 < Builtin.bitAnd (1 + t) 1 ∧ ¬ 0 < Builtin.bitAnd (1 + t) 2 ∧ (0 ≤ fr ∧ fr ≤ 2000) ∧ gs2.length ≤ 20000 ∧ sz2 = []) ∨ ∃ n r, sz2 = n :: r ∧ ∀ es, verdict ⟨fr, gs2, es⟩ = .size n)) ?_ (fun f fin => ?_)
  rotate_left
  · walk_at "go"
    refine g_ite (fun b1 => ?_) (fun b1 => ?_)
    · walk_at "go"
      intro x1 y1
      walk_at "go"
      intro x2 y2
      walk_at "go"
      refine ⟨sd, _, rfl, at_new y2 (at_new y1 hsd1), .of (by decide) (by decide), fun r r0 r1 => ?_⟩
      walk_at "go"
      have vl := h3.1
      refine g_rep2 upd_same (by omega) (by omega) (fun p3 H3 s3 e3 => ?_)
      refine g_cat2 (s3 _ _ (at_new y2 (at_new y1 h2'))) e3 (by simp [sizeLine_eq]; omega) (fun p4 H4 s4 e4 => ?_)
      have hs4 : H4 ls = some (.lst (sz.map V.int)) := s4 _ _ (s3 _ _ (at_new y2 (at_new y1 hs)))
      have S : Same H1 H4 := ((Same.new y1).then y2).trans (s3.trans s4)
      have hx : gV H4 (.ref x1) idle := ⟨x1, rfl, s4 _ _ (s3 _ _ (at_new y2 upd_same))⟩
      walk_at "go"
      refine fin _ _ ?_
      have e : ((vs ++ List.replicate (20001 + r - (vs.length : Nat)).toNat (V.ref x1)).length : Int) = 20001 + r := by simp; omega
      have e2 : ((c.gates ++ List.replicate (20001 + r - (vs.length : Nat)).toNat idle).length : Int) = 20001 + r := by simp; omega
      rw [e]
      refine ⟨p4, _, c.gates ++ List.replicate (20001 + r - (vs.length : Nat)).toNat idle, sz ++ [20001 + r], by simp; omega, rfl, Same.setNew (sm.trans S) fl, by rw [upd_same]; simp, at_lst hs4 e4 tup_ne_lst, ((h3'.same S).app (gsV.rep _ hx)).set hs4, by omega, .inr ?_⟩
      rcases A1 with ⟨z1, z2, z3⟩ | ⟨n, r', z1, z2⟩
      · subst z3
        refine ⟨_, [], rfl, fun es => ?_⟩
        rw [verdict_many z2 (by dsimp only; omega), e2]
      · exact ⟨n, r' ++ [20001 + r], by rw [z1]; rfl, fun es => z2 _ _⟩
    · walk_at "go"
      refine fin _ _ ?_
      refine ⟨ga, vs, c.gates, sz, by omega, rfl, sm, hs, h2', h3', by omega, ?_⟩
      rcases A1 with ⟨z1, z2, z3⟩ | ⟨n, r, z1, z2⟩
      · exact .inl ⟨z1, b1, z2, by omega, z3⟩
      · exact .inr ⟨n, r, z1, fun es => z2 _ _⟩
  rintro σ H2 ⟨ga2, vs2, gs2, sz2, szl2, rfl, sm2, hs2, hg2, hv2, gl2, A2⟩
  have h1'' := sm2 _ _ h1
  have hsd2 : IsPool H2 sd := sm2 _ _ hsd
  have h4'' := sm2 _ _ h4
  walk_at "goI"
  refine g_keep (fun σ H3 => ∃ (ea3 : Addr) (es3 : List Int) (sz3 : List Int), σ = [some (.ref sd), some (.ref a), some (.int (1 + t)), some (.int fr), some (.ref ga2), some (.ref ea3), some (.ref ls)] ∧ Same H H3 ∧ H3 ls = some (.lst (sz3.map V.int)) ∧ H3 ea3 = some (.tup (es3.map V.int)) ∧ H3 ga2 = some (.tup vs2) ∧ gsV H3 vs2 gs2 ∧ es3.length ≤ 30000 ∧
    ∃ n r, sz3 = n :: r ∧ verdict ⟨fr, gs2, es3⟩ = .size n) ?_ (fun f fin => ?_)
  · rintro σ H3 ⟨ea3, es3, sz3, rfl, sm3, hs3, he3, hg3, hv3, el3, n, r, rfl, vd⟩
    have hn : atI (List.map V.int (n :: r)) 0 = some (.int n) := atI_zero rfl
    walk_at "go"
    intro y1 z1
    walk_at "go"
    intro y2 z2
    walk_at "go"
    intro y3 z3
    walk_at "go"
    refine q _ ⟨fr, gs2, es3⟩ _ (sm3.trans (((Same.new z1).then z2).then z3)) ⟨y3, .ref y1, .ref y2, rfl, upd_same, cV.mk (by array_get_dec) (by array_get_dec) (hv3.same (((Same.new z1).then z2).then z3)) (by array_get_dec), ?_⟩ ⟨by show gs2.length ≤ 100000; omega, by show es3.length ≤ 100000; omega⟩
    rw [vd]
    exact ⟨y2, rfl, at_new z3 upd_same⟩
  · walk_at "go"
    refine g_ite (fun b1 => ?_) (fun b1 => ?_)
    · walk_at "go"
      intro x1 y1
      walk_at "go"
      refine ⟨sd, _, rfl, at_new y1 hsd2, .of (by decide) (by decide), fun r r0 r1 => ?_⟩
      walk_at "go"
      have eml : (c.ends.map V.int).length = c.ends.length := by simp
      refine g_rep2 upd_same (by omega) (by omega) (fun p3 H3 s3 e3 => ?_)
      refine g_cat2 (s3 _ _ (at_new y1 h4'')) e3 (by simp [sizeLine_eq]; omega) (fun p4 H4 s4 e4 => ?_)
      have hs4 : H4 ls = some (.lst (sz2.map V.int)) := s4 _ _ (s3 _ _ (at_new y1 hs2))
      have S : Same H2 H4 := (Same.new y1).trans (s3.trans s4)
      have ew : c.ends.map V.int ++ List.replicate (2001 + r - ((c.ends.map V.int).length : Nat)).toNat (V.int (-1)) = (c.ends ++ List.replicate (2001 + r - (c.ends.length : Nat)).toNat (-1)).map V.int := by simp
      rw [ew] at e4
      walk_at "go"
      refine fin _ _ ?_
      have e : (((c.ends ++ List.replicate (2001 + r - (c.ends.length : Nat)).toNat (-1)).map V.int).length : Int) = 2001 + r := by simp; omega
      have e2 : ((c.ends ++ List.replicate (2001 + r - (c.ends.length : Nat)).toNat (-1)).length : Int) = 2001 + r := by simp; omega
      rw [e]
      refine ⟨p4, c.ends ++ List.replicate (2001 + r - (c.ends.length : Nat)).toNat (-1), sz2 ++ [2001 + r], rfl, Same.setNew (sm2.trans S) fl, by rw [upd_same]; simp, at_lst hs4 e4 tup_ne_lst, at_lst hs4 (S _ _ hg2) tup_ne_lst, (hv2.same S).set hs4, by omega, ?_⟩
      rcases A2 with ⟨_, _, z2, z3, z4⟩ | ⟨n, r', z1, z2⟩
      · subst z4
        refine ⟨_, [], rfl, ?_⟩
        rw [verdict_outs z2 z3 (by dsimp only; omega), e2]
      · exact ⟨n, r' ++ [2001 + r], by rw [z1]; rfl, z2 _⟩
    · walk_at "go"
      refine fin _ _ ?_
      refine ⟨ea, c.ends, sz2, rfl, sm2, hs2, h4'', hg2, hv2, by omega, ?_⟩
      rcases A2 with ⟨z1, z2, _⟩ | ⟨n, r', z1, z2⟩
      · exact (and7 t0 t1 z1 z2 b1).elim
      · exact ⟨n, r', z1, z2 _⟩
end

end K20
set_option maxHeartbeats 4000000
namespace K20
open PySem PySem.Spec PyProof.Rows L2 FabH He
local macro_rules | `(tactic| array_mem_dec) => `(tactic| (first | with_reducible assumption | with_reducible exact SqL.of (by array_get_dec) | with_reducible exact SqT.of (by array_get_dec) | ((repeat (with_reducible first | refine Same.seq (Same.new (by assumption)) ?_ | refine Same.tup (Same.new (by assumption)) ?_)); with_reducible assumption)))
local macro_rules | `(tactic| array_get_dec) => `(tactic| (first | with_reducible assumption | with_reducible exact upd_same | ((repeat (first | with_reducible exact upd_same | ((with_reducible apply at_new); with_reducible assumption) | ((with_reducible apply at_lstT); with_reducible assumption) | ((with_reducible apply at_lstR); with_reducible assumption) | ((with_reducible apply at_set); with_reducible assumption))); done) | ((repeat (first | ((with_reducible apply at_new); with_reducible assumption) | ((with_reducible apply at_lstT); with_reducible assumption) | ((with_reducible apply at_lstR); with_reducible assumption) | ((with_reducible apply at_set); with_reducible assumption))); with_reducible assumption)))
local macro_rules | `(tactic| walk_at "side") => `(tactic| (first | with_reducible assumption | decide | exact MOk.div (by assumption) | exact MOk.div (MOk.of (by decide) (by decide)) | (simp only [List.length_append, List.length_map, List.length_replicate, List.length_cons, List.length_nil, sizeLine_eq, CMul, CDivW, CPow]; omega) | omega))
local macro_rules | `(tactic| walk_at "st") => `(tactic| first
  | with_reducible refine g_cons ?_ | ((with_reducible apply g_var); (first | exact rfl | assumption)) | with_reducible refine g_const ?_ | with_reducible refine g_nil ?_ | with_reducible refine g_op ?_ | with_reducible refine g_rI0 ?_ | with_reducible refine g_seq ?_ | with_reducible refine g_asg ?_ | ((with_reducible refine g_name ?_); dsimp only [List.set_cons_zero, List.set_cons_succ])
  | with_reducible refine g_nx ?_ | with_reducible refine g_rt ?_ | with_reducible refine g_call ?_ | with_reducible refine g_ret ?_ | with_reducible refine g_test ?_ | with_reducible refine g_bl ?_ | with_reducible refine g_cb ?_ | with_reducible refine g_tB ?_ | with_reducible refine g_un ?_ | with_reducible refine g_rU ?_
  | with_reducible refine g_eqi ?_ | with_reducible refine g_int ?_ | with_reducible refine g_and ?_ | with_reducible refine g_or ?_ | with_reducible refine g_not ?_ | with_reducible refine g_drop ?_ | with_reducible refine g_next ?_ | with_reducible refine g_retN ?_ | with_reducible refine g_iteT ?_ | with_reducible refine g_iteF ?_ | with_reducible refine g_iteNT ?_ | with_reducible refine g_iteNF ?_
  | ((with_reducible apply g_ixL); array_mem_dec; (first | exact rfl | assumption)) | ((with_reducible apply g_ixT); array_mem_dec; (first | exact rfl | assumption)) | ((with_reducible apply g_lenL); array_mem_dec) | ((with_reducible apply g_lenT); array_mem_dec) | ((with_reducible apply g_rI); walk_at "side")
  | ((with_reducible apply g_setL); array_get_dec; (first | exact rfl | assumption)) | ((with_reducible apply g_app); array_get_dec; walk_at "side") | with_reducible refine g_tup ?_ | with_reducible refine g_lst ?_ | ((with_reducible apply g_listL); array_mem_dec) | ((with_reducible apply g_listT); array_mem_dec) | ((with_reducible apply g_tupT); array_mem_dec) | ((with_reducible apply g_tupL); array_mem_dec)
  | ((with_reducible apply g_room); walk_at "side") | with_reducible refine g_abs ?_ | with_reducible refine g_chain ?_ | with_reducible refine g_andV ?_ | with_reducible refine g_orV ?_ | with_reducible refine g_notV ?_ | with_reducible refine g_gsub ?_ | ((with_reducible apply g_gtup); array_mem_dec; (first | exact rfl | assumption)) | with_reducible refine g_gcons ?_ | with_reducible refine g_gnil ?_ | with_reducible refine g_bm ?_ | ((with_reducible apply g_tyL); array_mem_dec) | with_reducible refine g_tyS ?_
  | with_reducible refine g_callS ?_ | with_reducible refine g_nei ?_ | with_reducible refine g_eqs ?_ | with_reducible refine g_nes ?_ | with_reducible refine g_eqb ?_ | with_reducible refine g_nonI ?_ | with_reducible refine g_nonN ?_ | with_reducible refine g_nonS ?_ | with_reducible refine g_nonB ?_ | with_reducible refine g_nonR ?_ | with_reducible refine g_isBB ?_ | with_reducible refine g_isBI ?_ | with_reducible refine g_isBS ?_ | with_reducible refine g_isBR ?_ | with_reducible refine g_isBN ?_
  | with_reducible refine g_rng1 ?_ | with_reducible refine g_rng2 ?_ | ((with_reducible apply g_notInR); array_get_dec) | ((with_reducible apply g_inR); array_get_dec) | with_reducible refine g_for ?_ | with_reducible refine g_iList ?_ | with_reducible refine g_iTup ?_ | with_reducible refine g_iR1 ?_ | with_reducible refine g_iEnum ?_ | with_reducible refine g_lc ?_ | with_reducible refine g_yes ?_ | with_reducible refine g_slc ?_ | with_reducible refine g_raise ?_ | with_reducible refine g_exv ?_ | with_reducible refine g_xf ?_ | ((with_reducible apply g_xfe); array_get_dec; (first | exact rfl | assumption)) | with_reducible refine g_part ?_ | with_reducible refine g_nopart ?_ | with_reducible refine g_exi ?_ | with_reducible refine g_brk ?_ | with_reducible refine g_cnt ?_ | with_reducible refine g_bk ?_ | with_reducible refine g_ct ?_ | with_reducible refine g_if ?_
  | ((with_reducible apply g_atL); array_mem_dec) | ((with_reducible apply g_atT); array_mem_dec) | ((with_reducible apply g_enum); array_mem_dec) | ((with_reducible apply g_R1); walk_at "side"; walk_at "side")
  | with_reducible refine g_is_int_int ?_ | with_reducible refine g_is_int_bool ?_ | with_reducible refine g_is_int_str ?_ | with_reducible refine g_is_int_dict ?_ | with_reducible refine g_is_int_list ?_ | with_reducible refine g_is_int_tuple ?_ | with_reducible refine g_is_bool_bool ?_ | with_reducible refine g_is_bool_int ?_ | with_reducible refine g_is_str_int ?_ | with_reducible refine g_is_str_str ?_ | with_reducible refine g_is_str_dict ?_ | with_reducible refine g_is_str_list ?_ | with_reducible refine g_is_str_tuple ?_ | ((with_reducible apply g_is_list_int); array_get_dec) | ((with_reducible apply g_is_list_str); array_get_dec) | ((with_reducible apply g_is_list_dict); array_get_dec) | ((with_reducible apply g_is_list_list); array_get_dec) | ((with_reducible apply g_is_list_tuple); array_get_dec) | ((with_reducible apply g_is_tuple_int); array_get_dec) | ((with_reducible apply g_is_tuple_str); array_get_dec) | ((with_reducible apply g_is_tuple_dict); array_get_dec) | ((with_reducible apply g_is_tuple_list); array_get_dec) | ((with_reducible apply g_is_tuple_tuple); array_get_dec) | ((with_reducible apply g_ixSL); array_mem_dec; (first | exact rfl | assumption)) | ((with_reducible apply g_ixST); array_mem_dec; (first | exact rfl | assumption)))
local macro_rules | `(tactic| walk_at "go") => `(tactic| repeat first | with_reducible refine g_ifS ?_ | walk_at "st")
local macro_rules | `(tactic| walk_at "dec") => `(tactic| first | with_reducible assumption | decide | omega)
local macro_rules | `(tactic| walk_at "goD") => `(tactic| repeat first | with_reducible refine g_ifS ?_ | walk_at "st" | ((with_reducible apply g_iteY); walk_at "dec") | ((with_reducible apply g_iteX); walk_at "dec") | ((with_reducible apply g_iteNY); walk_at "dec") | ((with_reducible apply g_iteNX); walk_at "dec"))
local macro_rules | `(tactic| walk_at "goI") => `(tactic| repeat walk_at "st")
section
variable {P : Program} {w : World} {K : PySem.W.Frag} {mg : Str → Option Value} {base : Heap}
theorem ok_check_circuit (T : Txt P K mg) (G_is_gate : FnOk P w K mg base CX0 2 (ga K "is_gate") (fdOf K "is_gate") ["table", "first", "second", "wire"] (sp_is_gate)) (G_is_wire : FnOk P w K mg base CX0 1 (ga K "is_wire") (fdOf K "is_wire") ["wire", "wires"] (sp_is_wire)) : FnOk P w K mg base (L2.CX P w) 3 (ga K "check_circuit") (fdOf K "check_circuit") ["circuit"] (sp_check_circuit K) := by
  refine T.f_check_circuit.f.ok sc_check_circuit (fun vs H Q E h => by obtain ⟨_, _, e, _⟩ := h; rw [e]; rfl) (fun cdv A outer s H vs Q E hr h => ⟨(d_check_circuit T G_is_gate (b_is_gate T) G_is_wire (b_is_wire T) hr).1, (d_check_circuit T G_is_gate (b_is_gate T) G_is_wire (b_is_wire T) hr).2, ?_⟩)
  dsimp only [d_check_circuit, cxOf]
  obtain ⟨v, c, rfl, hc, sm0, q1, q2, q3⟩ := h
  obtain ⟨a, ga, ea, vs, rfl, h1, h2, h3, h4⟩ := id hc
  have vl := h3.1
  have eml : (c.ends.map V.int).length = c.ends.length := by simp
  rw [show start N_check_circuit [.ref a] = [some (.ref a), none, none, none, none, none, none, none, none] from rfl]
  walk_at "go"
  refine g_ite (fun f0 => ?_) (fun n0 => ?_)
  rotate_left
  · walk_at "go"
    exact fun d hd => q2 _ (verdict_free (fun z => n0 z.1)) d _ (.new hd) upd_same
  walk_at "go"
  refine g_iteN (fun n1 => ?_) (fun f1 => ?_)
  · walk_at "go"
    exact fun d hd => q2 _ (verdict_free (fun z => n1 z.2)) d _ (.new hd) upd_same
  walk_at "go"
  refine g_ite (fun n2 => ?_) (fun f2 => ?_)
  · walk_at "go"
    refine fun d hd => q2 _ (verdict_many ⟨f0, f1⟩ (by omega)) d _ (.new hd) ?_
    rw [upd_same, vl]
  walk_at "go"
  refine g_ite (fun n3 => ?_) (fun f3 => ?_)
  · walk_at "go"
    refine fun d hd => q2 _ (verdict_outs ⟨f0, f1⟩ (by omega) (by omega)) d _ (.new hd) ?_
    rw [upd_same, eml]
  have fit : Fits c := ⟨f0, f1, by omega, by omega⟩
  walk_at "go"
  refine for_enumT (fun i σ H' => ∃ o4 o5 o6 o7, σ = [some (.ref a), some (.int c.free), some (.ref ga), some (.ref ea), o4, o5, o6, o7, none] ∧ Same H H' ∧ ∀ k, k < i → ∀ g, c.gates[k]? = some g → gateOk g (c.free + (k : Nat)) = true) ⟨_, _, _, _, rfl, .refl H, fun k z => absurd z (Nat.not_lt_zero k)⟩ (fun i σ H' _ ⟨_, _, _, _, _, sm, _⟩ => .of (sm _ _ h2)) ?_ ?_
  · rintro i x σ H' t hx ⟨o4, o5, o6, o7, rfl, sm, ok⟩ ht
    have hi : i < c.gates.length := by
      have := (List.getElem?_eq_some_iff.mp hx).1
      omega
    obtain ⟨g, hg⟩ : ∃ g, c.gates[i]? = some g := ⟨_, List.getElem?_eq_getElem hi⟩
    obtain ⟨u, rfl, hu⟩ := (h3.2 i x g hx hg).same sm
    walk_at "go"
    refine ⟨g, _, rfl, ?_⟩
    cases e : gateOk g (c.free + (i : Nat)) with
    | true =>
      walk_at "go"
      refine ⟨_, _, _, _, rfl, sm.then ht, fun k hk g' hg' => ?_⟩
      by_cases ek : k = i
      · rw [ek] at hg' ⊢
        rw [hg] at hg'
        cases hg'
        exact e
      · exact ok k (by omega) g' hg'
    | false =>
      walk_at "go"
      exact fun d hd => q3 _ (verdict_gate fit hg ok e) d _ ((sm.then ht).then hd) upd_same
  · rintro σ Ha ⟨o4, o5, o6, o7, rfl, sm, ok⟩
    have okg : ∀ (k : Nat) (g : Gate), c.gates[k]? = some g → gateOk g (c.free + (k : Nat)) = true := fun k g hg => ok k (by rw [h3.1]; exact (List.getElem?_eq_some_iff.mp hg).1) g hg
    have h4' := sm _ _ h4
    walk_at "go"
    refine for_enumT (fun i σ H2 => ∃ o4 o5 o6 o7 o8, σ = [some (.ref a), some (.int c.free), some (.ref ga), some (.ref ea), o4, o5, o6, o7, o8] ∧ Same H H2 ∧ ∀ k, k < i → ∀ z, c.ends[k]? = some z → wireOk z (c.free + (c.gates.length : Nat)) = true) ⟨_, _, _, _, _, rfl, sm, fun k z => absurd z (Nat.not_lt_zero k)⟩ (fun i σ H' _ ⟨_, _, _, _, _, _, sm, _⟩ => .of (sm _ _ h4)) ?_ ?_
    · rintro i x σ H' t hx ⟨o4, o5, o6, o7, o8, rfl, sm2, oke⟩ ht
      have h2' := sm2 _ _ h2
      rw [List.getElem?_map] at hx
      obtain ⟨z, hz, rfl⟩ := Option.map_eq_some_iff.mp hx
      walk_at "go"
      refine ⟨_, _, rfl, ?_⟩
      rw [vl]
      cases e : wireOk z (c.free + (c.gates.length : Nat)) with
      | true =>
        walk_at "go"
        refine ⟨_, _, _, _, _, rfl, sm2.then ht, fun k hk z' hz' => ?_⟩
        by_cases ek : k = i
        · rw [ek] at hz'
          rw [hz] at hz'
          cases hz'
          exact e
        · exact oke k (by omega) z' hz'
      | false =>
        walk_at "go"
        refine fun d hd => q3 _ (verdict_end fit okg hz oke e) d _ ((sm2.then ht).then hd) ?_
        rw [upd_same, vl]
    · rintro σ H2 ⟨o4, o5, o6, o7, o8, rfl, sm2, oke⟩
      walk_at "go"
      exact q1 (verdict_ok fit okg fun k z hz => oke k (by rw [eml]; exact (List.getElem?_eq_some_iff.mp hz).1) z hz) _ sm2
end

end K20
set_option maxHeartbeats 4000000
namespace K20
open PySem PySem.Spec PyProof.Rows L2 FabH He
local macro_rules | `(tactic| array_mem_dec) => `(tactic| (first | with_reducible assumption | with_reducible exact SqL.of (by array_get_dec) | with_reducible exact SqT.of (by array_get_dec) | ((repeat (with_reducible first | refine Same.seq (Same.new (by assumption)) ?_ | refine Same.tup (Same.new (by assumption)) ?_)); with_reducible assumption)))
local macro_rules | `(tactic| array_get_dec) => `(tactic| (first | with_reducible assumption | with_reducible exact upd_same | ((repeat (first | with_reducible exact upd_same | ((with_reducible apply at_new); with_reducible assumption) | ((with_reducible apply at_lstT); with_reducible assumption) | ((with_reducible apply at_lstR); with_reducible assumption) | ((with_reducible apply at_set); with_reducible assumption))); done) | ((repeat (first | ((with_reducible apply at_new); with_reducible assumption) | ((with_reducible apply at_lstT); with_reducible assumption) | ((with_reducible apply at_lstR); with_reducible assumption) | ((with_reducible apply at_set); with_reducible assumption))); with_reducible assumption)))
local macro_rules | `(tactic| walk_at "side") => `(tactic| (first | with_reducible assumption | decide | exact MOk.div (by assumption) | exact MOk.div (MOk.of (by decide) (by decide)) | (simp only [List.length_append, List.length_map, List.length_replicate, List.length_cons, List.length_nil, sizeLine_eq, CMul, CDivW, CPow]; omega) | omega))
local macro_rules | `(tactic| walk_at "st") => `(tactic| first
  | with_reducible refine g_cons ?_ | ((with_reducible apply g_var); (first | exact rfl | assumption)) | with_reducible refine g_const ?_ | with_reducible refine g_nil ?_ | with_reducible refine g_op ?_ | with_reducible refine g_rI0 ?_ | with_reducible refine g_seq ?_ | with_reducible refine g_asg ?_ | ((with_reducible refine g_name ?_); dsimp only [List.set_cons_zero, List.set_cons_succ])
  | with_reducible refine g_nx ?_ | with_reducible refine g_rt ?_ | with_reducible refine g_call ?_ | with_reducible refine g_ret ?_ | with_reducible refine g_test ?_ | with_reducible refine g_bl ?_ | with_reducible refine g_cb ?_ | with_reducible refine g_tB ?_ | with_reducible refine g_un ?_ | with_reducible refine g_rU ?_
  | with_reducible refine g_eqi ?_ | with_reducible refine g_int ?_ | with_reducible refine g_and ?_ | with_reducible refine g_or ?_ | with_reducible refine g_not ?_ | with_reducible refine g_drop ?_ | with_reducible refine g_next ?_ | with_reducible refine g_retN ?_ | with_reducible refine g_iteT ?_ | with_reducible refine g_iteF ?_ | with_reducible refine g_iteNT ?_ | with_reducible refine g_iteNF ?_
  | ((with_reducible apply g_ixL); array_mem_dec; (first | exact rfl | assumption)) | ((with_reducible apply g_ixT); array_mem_dec; (first | exact rfl | assumption)) | ((with_reducible apply g_lenL); array_mem_dec) | ((with_reducible apply g_lenT); array_mem_dec) | ((with_reducible apply g_rI); walk_at "side")
  | ((with_reducible apply g_setL); array_get_dec; (first | exact rfl | assumption)) | ((with_reducible apply g_app); array_get_dec; walk_at "side") | with_reducible refine g_tup ?_ | with_reducible refine g_lst ?_ | ((with_reducible apply g_listL); array_mem_dec) | ((with_reducible apply g_listT); array_mem_dec) | ((with_reducible apply g_tupT); array_mem_dec) | ((with_reducible apply g_tupL); array_mem_dec)
  | ((with_reducible apply g_room); walk_at "side") | with_reducible refine g_abs ?_ | with_reducible refine g_chain ?_ | with_reducible refine g_andV ?_ | with_reducible refine g_orV ?_ | with_reducible refine g_notV ?_ | with_reducible refine g_gsub ?_ | ((with_reducible apply g_gtup); array_mem_dec; (first | exact rfl | assumption)) | with_reducible refine g_gcons ?_ | with_reducible refine g_gnil ?_ | with_reducible refine g_bm ?_ | ((with_reducible apply g_tyL); array_mem_dec) | with_reducible refine g_tyS ?_
  | with_reducible refine g_callS ?_ | with_reducible refine g_nei ?_ | with_reducible refine g_eqs ?_ | with_reducible refine g_nes ?_ | with_reducible refine g_eqb ?_ | with_reducible refine g_nonI ?_ | with_reducible refine g_nonN ?_ | with_reducible refine g_nonS ?_ | with_reducible refine g_nonB ?_ | with_reducible refine g_nonR ?_ | with_reducible refine g_isBB ?_ | with_reducible refine g_isBI ?_ | with_reducible refine g_isBS ?_ | with_reducible refine g_isBR ?_ | with_reducible refine g_isBN ?_
  | with_reducible refine g_rng1 ?_ | with_reducible refine g_rng2 ?_ | ((with_reducible apply g_notInR); array_get_dec) | ((with_reducible apply g_inR); array_get_dec) | with_reducible refine g_for ?_ | with_reducible refine g_iList ?_ | with_reducible refine g_iTup ?_ | with_reducible refine g_iR1 ?_ | with_reducible refine g_iEnum ?_ | with_reducible refine g_lc ?_ | with_reducible refine g_yes ?_ | with_reducible refine g_slc ?_ | with_reducible refine g_raise ?_ | with_reducible refine g_exv ?_ | with_reducible refine g_xf ?_ | ((with_reducible apply g_xfe); array_get_dec; (first | exact rfl | assumption)) | with_reducible refine g_part ?_ | with_reducible refine g_nopart ?_ | with_reducible refine g_exi ?_ | with_reducible refine g_brk ?_ | with_reducible refine g_cnt ?_ | with_reducible refine g_bk ?_ | with_reducible refine g_ct ?_ | with_reducible refine g_if ?_
  | ((with_reducible apply g_atL); array_mem_dec) | ((with_reducible apply g_atT); array_mem_dec) | ((with_reducible apply g_enum); array_mem_dec) | ((with_reducible apply g_R1); walk_at "side"; walk_at "side")
  | with_reducible refine g_is_int_int ?_ | with_reducible refine g_is_int_bool ?_ | with_reducible refine g_is_int_str ?_ | with_reducible refine g_is_int_dict ?_ | with_reducible refine g_is_int_list ?_ | with_reducible refine g_is_int_tuple ?_ | with_reducible refine g_is_bool_bool ?_ | with_reducible refine g_is_bool_int ?_ | with_reducible refine g_is_str_int ?_ | with_reducible refine g_is_str_str ?_ | with_reducible refine g_is_str_dict ?_ | with_reducible refine g_is_str_list ?_ | with_reducible refine g_is_str_tuple ?_ | ((with_reducible apply g_is_list_int); array_get_dec) | ((with_reducible apply g_is_list_str); array_get_dec) | ((with_reducible apply g_is_list_dict); array_get_dec) | ((with_reducible apply g_is_list_list); array_get_dec) | ((with_reducible apply g_is_list_tuple); array_get_dec) | ((with_reducible apply g_is_tuple_int); array_get_dec) | ((with_reducible apply g_is_tuple_str); array_get_dec) | ((with_reducible apply g_is_tuple_dict); array_get_dec) | ((with_reducible apply g_is_tuple_list); array_get_dec) | ((with_reducible apply g_is_tuple_tuple); array_get_dec) | ((with_reducible apply g_ixSL); array_mem_dec; (first | exact rfl | assumption)) | ((with_reducible apply g_ixST); array_mem_dec; (first | exact rfl | assumption)))
local macro_rules | `(tactic| walk_at "go") => `(tactic| repeat first | with_reducible refine g_ifS ?_ | walk_at "st")
local macro_rules | `(tactic| walk_at "dec") => `(tactic| first | with_reducible assumption | decide | omega)
local macro_rules | `(tactic| walk_at "goD") => `(tactic| repeat first | with_reducible refine g_ifS ?_ | walk_at "st" | ((with_reducible apply g_iteY); walk_at "dec") | ((with_reducible apply g_iteX); walk_at "dec") | ((with_reducible apply g_iteNY); walk_at "dec") | ((with_reducible apply g_iteNX); walk_at "dec"))
local macro_rules | `(tactic| walk_at "goI") => `(tactic| repeat walk_at "st")
section
variable {P : Program} {w : World} {K : PySem.W.Frag} {mg : Str → Option Value} {base : Heap}
theorem ok__law_told (T : Txt P K mg) (G_check_circuit : FnOk P w K mg base (L2.CX P w) 3 (ga K "check_circuit") (fdOf K "check_circuit") ["circuit"] (sp_check_circuit K)) : FnOk P w K mg base CX0 4 (ga K "_law_told") (fdOf K "_law_told") ["circuit"] (sp__law_told) := by
  refine T.f__law_told.f.ok sc__law_told (fun vs H Q E h => by obtain ⟨_, _, e, _⟩ := h; rw [e]; rfl) (fun cdv A outer s H vs Q E hr h => ⟨(d__law_told T G_check_circuit (b_check_circuit T) hr).1, PSs.nox (d__law_told T G_check_circuit (b_check_circuit T) hr).2, ?_⟩)
  dsimp only [d__law_told, cxOf]
  obtain ⟨v, c, rfl, hc, sm0, q⟩ := h
  rw [show start N__law_told [v] = [some (v), none, none] from rfl]
  walk_at "go"
  intro d hd
  walk_at "go"
  refine ⟨v, c, rfl, hc.same (.new hd), sm0, fun ev H' sm => ?_, fun n ev x H' sm hx => ?_, fun i ev x H' sm hx => ?_⟩
  · walk_at "go"
    intro p hp
    walk_at "go"
    refine q _ _ ((Same.new hd).trans (sm.then hp)) ?_
    rw [ev]
    exact ⟨p, rfl, upd_same⟩
  · refine g_hit T.m_SizeError_SizeError (fun z hz => ?_)
    dsimp only [endsAs, setAs, List.set_cons_zero, List.set_cons_succ]
    walk_at "go"
    intro p hp
    walk_at "go"
    refine q _ _ ((Same.new hd).trans (sm.then hp)) ?_
    rw [ev]
    exact ⟨p, rfl, upd_same⟩
  · refine g_miss T.m_CircuitError_SizeError (g_hit T.m_CircuitError_CircuitError (fun z hz => ?_))
    dsimp only [endsAs, setAs, List.set_cons_zero, List.set_cons_succ]
    walk_at "go"
    intro p hp
    walk_at "go"
    refine q _ _ ((Same.new hd).trans (sm.then hp)) ?_
    rw [ev]
    exact ⟨p, rfl, upd_same⟩
end

end K20
set_option maxHeartbeats 4000000
namespace K20
open PySem PySem.Spec PyProof.Rows L2 FabH He
local macro_rules | `(tactic| array_mem_dec) => `(tactic| (first | with_reducible assumption | with_reducible exact SqL.of (by array_get_dec) | with_reducible exact SqT.of (by array_get_dec) | ((repeat (with_reducible first | refine Same.seq (Same.new (by assumption)) ?_ | refine Same.tup (Same.new (by assumption)) ?_)); with_reducible assumption)))
local macro_rules | `(tactic| array_get_dec) => `(tactic| (first | with_reducible assumption | with_reducible exact upd_same | ((repeat (first | with_reducible exact upd_same | ((with_reducible apply at_new); with_reducible assumption) | ((with_reducible apply at_lstT); with_reducible assumption) | ((with_reducible apply at_lstR); with_reducible assumption) | ((with_reducible apply at_set); with_reducible assumption))); done) | ((repeat (first | ((with_reducible apply at_new); with_reducible assumption) | ((with_reducible apply at_lstT); with_reducible assumption) | ((with_reducible apply at_lstR); with_reducible assumption) | ((with_reducible apply at_set); with_reducible assumption))); with_reducible assumption)))
local macro_rules | `(tactic| walk_at "side") => `(tactic| (first | with_reducible assumption | decide | exact MOk.div (by assumption) | exact MOk.div (MOk.of (by decide) (by decide)) | (simp only [List.length_append, List.length_map, List.length_replicate, List.length_cons, List.length_nil, sizeLine_eq, CMul, CDivW, CPow]; omega) | omega))
local macro_rules | `(tactic| walk_at "st") => `(tactic| first
  | with_reducible refine g_cons ?_ | ((with_reducible apply g_var); (first | exact rfl | assumption)) | with_reducible refine g_const ?_ | with_reducible refine g_nil ?_ | with_reducible refine g_op ?_ | with_reducible refine g_rI0 ?_ | with_reducible refine g_seq ?_ | with_reducible refine g_asg ?_ | ((with_reducible refine g_name ?_); dsimp only [List.set_cons_zero, List.set_cons_succ])
  | with_reducible refine g_nx ?_ | with_reducible refine g_rt ?_ | with_reducible refine g_call ?_ | with_reducible refine g_ret ?_ | with_reducible refine g_test ?_ | with_reducible refine g_bl ?_ | with_reducible refine g_cb ?_ | with_reducible refine g_tB ?_ | with_reducible refine g_un ?_ | with_reducible refine g_rU ?_
  | with_reducible refine g_eqi ?_ | with_reducible refine g_int ?_ | with_reducible refine g_and ?_ | with_reducible refine g_or ?_ | with_reducible refine g_not ?_ | with_reducible refine g_drop ?_ | with_reducible refine g_next ?_ | with_reducible refine g_retN ?_ | with_reducible refine g_iteT ?_ | with_reducible refine g_iteF ?_ | with_reducible refine g_iteNT ?_ | with_reducible refine g_iteNF ?_
  | ((with_reducible apply g_ixL); array_mem_dec; (first | exact rfl | assumption)) | ((with_reducible apply g_ixT); array_mem_dec; (first | exact rfl | assumption)) | ((with_reducible apply g_lenL); array_mem_dec) | ((with_reducible apply g_lenT); array_mem_dec) | ((with_reducible apply g_rI); walk_at "side")
  | ((with_reducible apply g_setL); array_get_dec; (first | exact rfl | assumption)) | ((with_reducible apply g_app); array_get_dec; walk_at "side") | with_reducible refine g_tup ?_ | with_reducible refine g_lst ?_ | ((with_reducible apply g_listL); array_mem_dec) | ((with_reducible apply g_listT); array_mem_dec) | ((with_reducible apply g_tupT); array_mem_dec) | ((with_reducible apply g_tupL); array_mem_dec)
  | ((with_reducible apply g_room); walk_at "side") | with_reducible refine g_abs ?_ | with_reducible refine g_chain ?_ | with_reducible refine g_andV ?_ | with_reducible refine g_orV ?_ | with_reducible refine g_notV ?_ | with_reducible refine g_gsub ?_ | ((with_reducible apply g_gtup); array_mem_dec; (first | exact rfl | assumption)) | with_reducible refine g_gcons ?_ | with_reducible refine g_gnil ?_ | with_reducible refine g_bm ?_ | ((with_reducible apply g_tyL); array_mem_dec) | with_reducible refine g_tyS ?_
  | with_reducible refine g_callS ?_ | with_reducible refine g_nei ?_ | with_reducible refine g_eqs ?_ | with_reducible refine g_nes ?_ | with_reducible refine g_eqb ?_ | with_reducible refine g_nonI ?_ | with_reducible refine g_nonN ?_ | with_reducible refine g_nonS ?_ | with_reducible refine g_nonB ?_ | with_reducible refine g_nonR ?_ | with_reducible refine g_isBB ?_ | with_reducible refine g_isBI ?_ | with_reducible refine g_isBS ?_ | with_reducible refine g_isBR ?_ | with_reducible refine g_isBN ?_
  | with_reducible refine g_rng1 ?_ | with_reducible refine g_rng2 ?_ | ((with_reducible apply g_notInR); array_get_dec) | ((with_reducible apply g_inR); array_get_dec) | with_reducible refine g_for ?_ | with_reducible refine g_iList ?_ | with_reducible refine g_iTup ?_ | with_reducible refine g_iR1 ?_ | with_reducible refine g_iEnum ?_ | with_reducible refine g_lc ?_ | with_reducible refine g_yes ?_ | with_reducible refine g_slc ?_ | with_reducible refine g_raise ?_ | with_reducible refine g_exv ?_ | with_reducible refine g_xf ?_ | ((with_reducible apply g_xfe); array_get_dec; (first | exact rfl | assumption)) | with_reducible refine g_part ?_ | with_reducible refine g_nopart ?_ | with_reducible refine g_exi ?_ | with_reducible refine g_brk ?_ | with_reducible refine g_cnt ?_ | with_reducible refine g_bk ?_ | with_reducible refine g_ct ?_ | with_reducible refine g_if ?_
  | ((with_reducible apply g_atL); array_mem_dec) | ((with_reducible apply g_atT); array_mem_dec) | ((with_reducible apply g_enum); array_mem_dec) | ((with_reducible apply g_R1); walk_at "side"; walk_at "side")
  | with_reducible refine g_is_int_int ?_ | with_reducible refine g_is_int_bool ?_ | with_reducible refine g_is_int_str ?_ | with_reducible refine g_is_int_dict ?_ | with_reducible refine g_is_int_list ?_ | with_reducible refine g_is_int_tuple ?_ | with_reducible refine g_is_bool_bool ?_ | with_reducible refine g_is_bool_int ?_ | with_reducible refine g_is_str_int ?_ | with_reducible refine g_is_str_str ?_ | with_reducible refine g_is_str_dict ?_ | with_reducible refine g_is_str_list ?_ | with_reducible refine g_is_str_tuple ?_ | ((with_reducible apply g_is_list_int); array_get_dec) | ((with_reducible apply g_is_list_str); array_get_dec) | ((with_reducible apply g_is_list_dict); array_get_dec) | ((with_reducible apply g_is_list_list); array_get_dec) | ((with_reducible apply g_is_list_tuple); array_get_dec) | ((with_reducible apply g_is_tuple_int); array_get_dec) | ((with_reducible apply g_is_tuple_str); array_get_dec) | ((with_reducible apply g_is_tuple_dict); array_get_dec) | ((with_reducible apply g_is_tuple_list); array_get_dec) | ((with_reducible apply g_is_tuple_tuple); array_get_dec) | ((with_reducible apply g_ixSL); array_mem_dec; (first | exact rfl | assumption)) | ((with_reducible apply g_ixST); array_mem_dec; (first | exact rfl | assumption)))
local macro_rules | `(tactic| walk_at "go") => `(tactic| repeat first | with_reducible refine g_ifS ?_ | walk_at "st")
local macro_rules | `(tactic| walk_at "dec") => `(tactic| first | with_reducible assumption | decide | omega)
local macro_rules | `(tactic| walk_at "goD") => `(tactic| repeat first | with_reducible refine g_ifS ?_ | walk_at "st" | ((with_reducible apply g_iteY); walk_at "dec") | ((with_reducible apply g_iteX); walk_at "dec") | ((with_reducible apply g_iteNY); walk_at "dec") | ((with_reducible apply g_iteNX); walk_at "dec"))
local macro_rules | `(tactic| walk_at "goI") => `(tactic| repeat walk_at "st")
section
variable {P : Program} {w : World} {K : PySem.W.Frag} {mg : Str → Option Value} {base : Heap}
theorem ok__law_kinds (T : Txt P K mg) (G_check_circuit : FnOk P w K mg base (L2.CX P w) 3 (ga K "check_circuit") (fdOf K "check_circuit") ["circuit"] (sp_check_circuit K)) : FnOk P w K mg base CX0 4 (ga K "_law_kinds") (fdOf K "_law_kinds") ["circuit"] (sp__law_kinds) := by
  refine T.f__law_kinds.f.ok sc__law_kinds (fun vs H Q E h => by obtain ⟨_, _, e, _⟩ := h; rw [e]; rfl) (fun cdv A outer s H vs Q E hr h => ⟨(d__law_kinds T G_check_circuit (b_check_circuit T) hr).1, PSs.nox (d__law_kinds T G_check_circuit (b_check_circuit T) hr).2, ?_⟩)
  dsimp only [d__law_kinds, cxOf]
  obtain ⟨v, c, rfl, hc, sm0, q⟩ := h
  rw [show start N__law_kinds [v] = [some (v), none, none, none] from rfl]
  walk_at "go"
  intro d hd
  walk_at "go"
  refine ⟨v, c, rfl, hc.same (.new hd), sm0, fun ev H' sm => ?_, fun n ev x H' sm hx => ?_, fun i ev x H' sm hx => ?_⟩
  · walk_at "go"
    refine q _ _ ((Same.new hd).trans sm) ?_
    rw [ev]
    exact sm _ _ upd_same
  · refine g_hit T.m_SizeError_FabricError (fun z hz => ?_)
    dsimp only [endsAs, setAs, List.set_cons_zero, List.set_cons_succ]
    walk_at "go"
    intro tp htp
    walk_at "go"
    refine g_isXT (us := [.ref (ga K "BitsError"), .ref (ga K "FanoutError"), .ref (ga K "NetlistError"), .ref (ga K "StoreError")]) T.x_SizeError.1 (at_new htp hx) upd_same (.cons (.own _) (.cons (.own _) (.cons (.own _) (.cons (.own _) .nil)))) (b := false) (by simp only [PySem.W.kitAny, T.k_SizeError_BitsError, T.k_SizeError_FanoutError, T.k_SizeError_NetlistError, T.k_SizeError_StoreError]) ?_
    walk_at "go"
    refine g_isX T.x_SizeError.1 (at_new htp hx) (.ty _) T.k_SizeError_ValueError ?_
    walk_at "go"
    refine g_isX T.x_SizeError.1 (at_new htp hx) (.own _) T.k_SizeError_SizeError ?_
    walk_at "go"
    refine g_isX T.x_SizeError.1 (at_new htp hx) (.own _) T.k_SizeError_CircuitError ?_
    walk_at "go"
    intro l hl
    walk_at "go"
    refine q _ _ ((Same.new hd).trans ((sm.then htp).then hl)) ?_
    rw [ev]
    exact upd_same
  · refine g_hit T.m_CircuitError_FabricError (fun z hz => ?_)
    dsimp only [endsAs, setAs, List.set_cons_zero, List.set_cons_succ]
    walk_at "go"
    intro tp htp
    walk_at "go"
    refine g_isXT (us := [.ref (ga K "BitsError"), .ref (ga K "FanoutError"), .ref (ga K "NetlistError"), .ref (ga K "StoreError")]) T.x_CircuitError.1 (at_new htp hx) upd_same (.cons (.own _) (.cons (.own _) (.cons (.own _) (.cons (.own _) .nil)))) (b := false) (by simp only [PySem.W.kitAny, T.k_CircuitError_BitsError, T.k_CircuitError_FanoutError, T.k_CircuitError_NetlistError, T.k_CircuitError_StoreError]) ?_
    walk_at "go"
    refine g_isX T.x_CircuitError.1 (at_new htp hx) (.ty _) T.k_CircuitError_ValueError ?_
    walk_at "go"
    refine g_isX T.x_CircuitError.1 (at_new htp hx) (.own _) T.k_CircuitError_SizeError ?_
    walk_at "go"
    refine g_isX T.x_CircuitError.1 (at_new htp hx) (.own _) T.k_CircuitError_CircuitError ?_
    walk_at "go"
    intro l hl
    walk_at "go"
    refine q _ _ ((Same.new hd).trans ((sm.then htp).then hl)) ?_
    rw [ev]
    exact upd_same
end

end K20
set_option maxHeartbeats 4000000
namespace K20
open PySem PySem.Spec PyProof.Rows L2 FabH He
local macro_rules | `(tactic| array_mem_dec) => `(tactic| (first | with_reducible assumption | with_reducible exact SqL.of (by array_get_dec) | with_reducible exact SqT.of (by array_get_dec) | ((repeat (with_reducible first | refine Same.seq (Same.new (by assumption)) ?_ | refine Same.tup (Same.new (by assumption)) ?_)); with_reducible assumption)))
local macro_rules | `(tactic| array_get_dec) => `(tactic| (first | with_reducible assumption | with_reducible exact upd_same | ((repeat (first | with_reducible exact upd_same | ((with_reducible apply at_new); with_reducible assumption) | ((with_reducible apply at_lstT); with_reducible assumption) | ((with_reducible apply at_lstR); with_reducible assumption) | ((with_reducible apply at_set); with_reducible assumption))); done) | ((repeat (first | ((with_reducible apply at_new); with_reducible assumption) | ((with_reducible apply at_lstT); with_reducible assumption) | ((with_reducible apply at_lstR); with_reducible assumption) | ((with_reducible apply at_set); with_reducible assumption))); with_reducible assumption)))
local macro_rules | `(tactic| walk_at "side") => `(tactic| (first | with_reducible assumption | decide | exact MOk.div (by assumption) | exact MOk.div (MOk.of (by decide) (by decide)) | (simp only [List.length_append, List.length_map, List.length_replicate, List.length_cons, List.length_nil, sizeLine_eq, CMul, CDivW, CPow]; omega) | omega))
local macro_rules | `(tactic| walk_at "st") => `(tactic| first
  | with_reducible refine g_cons ?_ | ((with_reducible apply g_var); (first | exact rfl | assumption)) | with_reducible refine g_const ?_ | with_reducible refine g_nil ?_ | with_reducible refine g_op ?_ | with_reducible refine g_rI0 ?_ | with_reducible refine g_seq ?_ | with_reducible refine g_asg ?_ | ((with_reducible refine g_name ?_); dsimp only [List.set_cons_zero, List.set_cons_succ])
  | with_reducible refine g_nx ?_ | with_reducible refine g_rt ?_ | with_reducible refine g_call ?_ | with_reducible refine g_ret ?_ | with_reducible refine g_test ?_ | with_reducible refine g_bl ?_ | with_reducible refine g_cb ?_ | with_reducible refine g_tB ?_ | with_reducible refine g_un ?_ | with_reducible refine g_rU ?_
  | with_reducible refine g_eqi ?_ | with_reducible refine g_int ?_ | with_reducible refine g_and ?_ | with_reducible refine g_or ?_ | with_reducible refine g_not ?_ | with_reducible refine g_drop ?_ | with_reducible refine g_next ?_ | with_reducible refine g_retN ?_ | with_reducible refine g_iteT ?_ | with_reducible refine g_iteF ?_ | with_reducible refine g_iteNT ?_ | with_reducible refine g_iteNF ?_
  | ((with_reducible apply g_ixL); array_mem_dec; (first | exact rfl | assumption)) | ((with_reducible apply g_ixT); array_mem_dec; (first | exact rfl | assumption)) | ((with_reducible apply g_lenL); array_mem_dec) | ((with_reducible apply g_lenT); array_mem_dec) | ((with_reducible apply g_rI); walk_at "side")
  | ((with_reducible apply g_setL); array_get_dec; (first | exact rfl | assumption)) | ((with_reducible apply g_app); array_get_dec; walk_at "side") | with_reducible refine g_tup ?_ | with_reducible refine g_lst ?_ | ((with_reducible apply g_listL); array_mem_dec) | ((with_reducible apply g_listT); array_mem_dec) | ((with_reducible apply g_tupT); array_mem_dec) | ((with_reducible apply g_tupL); array_mem_dec)
  | ((with_reducible apply g_room); walk_at "side") | with_reducible refine g_abs ?_ | with_reducible refine g_chain ?_ | with_reducible refine g_andV ?_ | with_reducible refine g_orV ?_ | with_reducible refine g_notV ?_ | with_reducible refine g_gsub ?_ | ((with_reducible apply g_gtup); array_mem_dec; (first | exact rfl | assumption)) | with_reducible refine g_gcons ?_ | with_reducible refine g_gnil ?_ | with_reducible refine g_bm ?_ | ((with_reducible apply g_tyL); array_mem_dec) | with_reducible refine g_tyS ?_
  | with_reducible refine g_callS ?_ | with_reducible refine g_nei ?_ | with_reducible refine g_eqs ?_ | with_reducible refine g_nes ?_ | with_reducible refine g_eqb ?_ | with_reducible refine g_nonI ?_ | with_reducible refine g_nonN ?_ | with_reducible refine g_nonS ?_ | with_reducible refine g_nonB ?_ | with_reducible refine g_nonR ?_ | with_reducible refine g_isBB ?_ | with_reducible refine g_isBI ?_ | with_reducible refine g_isBS ?_ | with_reducible refine g_isBR ?_ | with_reducible refine g_isBN ?_
  | with_reducible refine g_rng1 ?_ | with_reducible refine g_rng2 ?_ | ((with_reducible apply g_notInR); array_get_dec) | ((with_reducible apply g_inR); array_get_dec) | with_reducible refine g_for ?_ | with_reducible refine g_iList ?_ | with_reducible refine g_iTup ?_ | with_reducible refine g_iR1 ?_ | with_reducible refine g_iEnum ?_ | with_reducible refine g_lc ?_ | with_reducible refine g_yes ?_ | with_reducible refine g_slc ?_ | with_reducible refine g_raise ?_ | with_reducible refine g_exv ?_ | with_reducible refine g_xf ?_ | ((with_reducible apply g_xfe); array_get_dec; (first | exact rfl | assumption)) | with_reducible refine g_part ?_ | with_reducible refine g_nopart ?_ | with_reducible refine g_exi ?_ | with_reducible refine g_brk ?_ | with_reducible refine g_cnt ?_ | with_reducible refine g_bk ?_ | with_reducible refine g_ct ?_ | with_reducible refine g_if ?_
  | ((with_reducible apply g_atL); array_mem_dec) | ((with_reducible apply g_atT); array_mem_dec) | ((with_reducible apply g_enum); array_mem_dec) | ((with_reducible apply g_R1); walk_at "side"; walk_at "side")
  | with_reducible refine g_is_int_int ?_ | with_reducible refine g_is_int_bool ?_ | with_reducible refine g_is_int_str ?_ | with_reducible refine g_is_int_dict ?_ | with_reducible refine g_is_int_list ?_ | with_reducible refine g_is_int_tuple ?_ | with_reducible refine g_is_bool_bool ?_ | with_reducible refine g_is_bool_int ?_ | with_reducible refine g_is_str_int ?_ | with_reducible refine g_is_str_str ?_ | with_reducible refine g_is_str_dict ?_ | with_reducible refine g_is_str_list ?_ | with_reducible refine g_is_str_tuple ?_ | ((with_reducible apply g_is_list_int); array_get_dec) | ((with_reducible apply g_is_list_str); array_get_dec) | ((with_reducible apply g_is_list_dict); array_get_dec) | ((with_reducible apply g_is_list_list); array_get_dec) | ((with_reducible apply g_is_list_tuple); array_get_dec) | ((with_reducible apply g_is_tuple_int); array_get_dec) | ((with_reducible apply g_is_tuple_str); array_get_dec) | ((with_reducible apply g_is_tuple_dict); array_get_dec) | ((with_reducible apply g_is_tuple_list); array_get_dec) | ((with_reducible apply g_is_tuple_tuple); array_get_dec) | ((with_reducible apply g_ixSL); array_mem_dec; (first | exact rfl | assumption)) | ((with_reducible apply g_ixST); array_mem_dec; (first | exact rfl | assumption)))
local macro_rules | `(tactic| walk_at "go") => `(tactic| repeat first | with_reducible refine g_ifS ?_ | walk_at "st")
local macro_rules | `(tactic| walk_at "dec") => `(tactic| first | with_reducible assumption | decide | omega)
local macro_rules | `(tactic| walk_at "goD") => `(tactic| repeat first | with_reducible refine g_ifS ?_ | walk_at "st" | ((with_reducible apply g_iteY); walk_at "dec") | ((with_reducible apply g_iteX); walk_at "dec") | ((with_reducible apply g_iteNY); walk_at "dec") | ((with_reducible apply g_iteNX); walk_at "dec"))
local macro_rules | `(tactic| walk_at "goI") => `(tactic| repeat walk_at "st")
section
variable {P : Program} {w : World} {K : PySem.W.Frag} {mg : Str → Option Value} {base : Heap}
theorem ok_law (T : Txt P K mg) (G__law_bent : FnOk P w K mg base CX0 3 (ga K "_law_bent") (fdOf K "_law_bent") ["side", "circuit", "times"] (sp__law_bent)) (G__law_beyond : FnOk P w K mg base CX0 3 (ga K "_law_beyond") (fdOf K "_law_beyond") ["side", "circuit"] (sp__law_beyond)) (G__law_draw : FnOk P w K mg base CX0 1 (ga K "_law_draw") (fdOf K "_law_draw") ["pool", "many"] (sp_draw)) (G__law_drawn : FnOk P w K mg base CX0 4 (ga K "_law_drawn") (fdOf K "_law_drawn") ["pools", "free", "count", "many"] (sp__law_drawn)) (G__law_due : FnOk P w K mg base CX0 1 (ga K "_law_due") (fdOf K "_law_due") ["circuit"] (sp__law_due)) (G__law_kinds : FnOk P w K mg base CX0 4 (ga K "_law_kinds") (fdOf K "_law_kinds") ["circuit"] (sp__law_kinds)) (G__law_near : FnOk P w K mg base CX0 3 (ga K "_law_near") (fdOf K "_law_near") ["pools", "free", "count", "many"] (sp__law_near)) (G__law_pool : FnOk P w K mg base CX0 1 (ga K "_law_pool") (fdOf K "_law_pool") ["script", "place"] (sp_pool K)) (G__law_same : FnOk P w K mg base CX0 6 (ga K "_law_same") (fdOf K "_law_same") ["told", "due"] (sp_same 4)) (G__law_sized : FnOk P w K mg base CX0 3 (ga K "_law_sized") (fdOf K "_law_sized") ["side", "circuit", "bent"] (sp__law_sized)) (G__law_told : FnOk P w K mg base CX0 4 (ga K "_law_told") (fdOf K "_law_told") ["circuit"] (sp__law_told)) : FnOk P w K mg base CX0 7 (ga K "law") (fdOf K "law") ["script"] (sp_law K) := by
  refine T.f_law.f.ok sc_law (fun vs H Q E h => by obtain ⟨_, _, e, _⟩ := h; rw [e]; rfl) (fun cdv A outer s H vs Q E hr h => ⟨(d_law T G__law_bent (b__law_bent T) G__law_beyond (b__law_beyond T) G__law_draw (b__law_draw T) G__law_drawn (b__law_drawn T) G__law_due (b__law_due T) G__law_kinds (b__law_kinds T) G__law_near (b__law_near T) G__law_pool (b__law_pool T) G__law_same (b__law_same T) G__law_sized (b__law_sized T) G__law_told (b__law_told T) hr).1, PSs.nox (d_law T G__law_bent (b__law_bent T) G__law_beyond (b__law_beyond T) G__law_draw (b__law_draw T) G__law_drawn (b__law_drawn T) G__law_due (b__law_due T) G__law_kinds (b__law_kinds T) G__law_near (b__law_near T) G__law_pool (b__law_pool T) G__law_same (b__law_same T) G__law_sized (b__law_sized T) G__law_told (b__law_told T) hr).2, ?_⟩)
  dsimp only [d_law, cxOf]
  obtain ⟨a, ns, rfl, hS, hlen, q⟩ := h
  rw [show start N_law [.ref a] = [some (.ref a), none, none, none, none, none, none, none, none, none, none, none, none, none, none, none] from rfl]
  walk_at "go"
  refine ⟨a, ns, 2, rfl, hS, by decide, by decide, fun sd hsd0 => ?_⟩
  walk_at "go"
  intro D hD
  have s1 : Same H (upd H sd (poolO sd)) := .new hsd0
  have hsd : IsPool (upd H sd (poolO sd)) sd := upd_same
  generalize upd H sd (poolO sd) = H1 at *
  refine lc_range (fun i H2 => ∃ ps : List Addr, Same H1 H2 ∧ H2 D = some (.lst (ps.map V.ref)) ∧ ps.length = i ∧ ∀ p ∈ ps, IsPool H2 p) ⟨[], .new hD, upd_same, rfl, fun p h => by cases h⟩ ?_ ?_
  · rintro i H2 hi ⟨ps, sm2, hD2, pl, hps⟩
    dsimp only [wipe, List.map]
    walk_at "go"
    refine ⟨rfl, ?_⟩
    walk_at "go"
    refine ⟨a, ns, _, rfl, (s1.trans sm2).seq hS, by omega, by omega, fun p hp => ?_⟩
    have hDp : upd H2 p (poolO p) D = some (.lst (ps.map V.ref)) := at_new hp hD2
    refine ⟨_, hDp, by walk_at "side", ps ++ [p], Same.setNew (sm2.then hp) hD, by rw [upd_same]; simp, by simp [pl], fun p' hp' => ?_⟩
    rcases List.mem_append.mp hp' with z | z
    · exact at_lstP hDp (at_new hp (hps p' z))
    · have e : p' = p := by simpa using z
      rw [e]
      exact at_lstP hDp upd_same
  rintro H2 ⟨ps, sm2, hD2, pl, hps⟩
  have hsd : IsPool H2 sd := sm2 _ _ hsd
  have hpl : poolsV H2 (.ref D) := ⟨D, ps, rfl, hD2, (fun e => by rw [e] at pl; cases pl), hps⟩
  walk_at "go"
  refine ⟨sd, _, rfl, hsd, .of (by decide) (by decide), fun kind kind0 kind1 => ?_⟩
  walk_at "go"
  refine ⟨sd, _, rfl, hsd, .of (by decide) (by decide), fun free free0 free1 => ?_⟩
  walk_at "go"
  refine ⟨sd, _, rfl, hsd, .of (by decide) (by decide), fun count0 count00 count01 => ?_⟩
  walk_at "go"
  refine ⟨sd, _, rfl, hsd, .of (by decide) (by decide), fun many0 many00 many01 => ?_⟩
  walk_at "goI"
  refine g_keep (fun σ H' => ∃ count many : Int, σ = [some (.ref a), some (.ref sd), some (.ref D), none, some (.int kind), some (.int free), some (.int count), some (.int many), none, none, none, none, none, none, none, none] ∧ H' = H2 ∧ 0 ≤ count ∧ count ≤ 30 ∧ 0 ≤ many ∧ many ≤ 20) ?_ (fun f fin => ?_)
  rotate_left
  · walk_at "go"
    refine ⟨sd, _, rfl, hsd, .of (by decide) (by decide), fun r r0 r1 => ?_⟩
    walk_at "go"
    refine g_ite (fun e1 => ?_) (fun e1 => ?_)
    · walk_at "go"
      refine ⟨sd, _, rfl, hsd, .of (by decide) (by decide), fun x x0 x1 => ?_⟩
      walk_at "go"
      refine ⟨sd, _, rfl, hsd, .of (by decide) (by decide), fun y y0 y1 => ?_⟩
      walk_at "go"
      refine fin _ _ ?_
      exact ⟨x, y, rfl, rfl, x0, by omega, y0, by omega⟩
    · walk_at "go"
      refine fin _ _ ?_
      exact ⟨_, _, rfl, rfl, count00, by omega, many00, by omega⟩
  rintro σ H' ⟨count, many, rfl, rfl, c0, c1, m0, m1⟩
  walk_at "go"
  intro e1 f1
  walk_at "go"
  intro e2 f2
  walk_at "go"
  intro e3 f3
  walk_at "go"
  intro e4 f4
  walk_at "go"
  intro e5 f5
  walk_at "goI"
  have hask : PS (upd (upd (upd (upd (upd H' e1 (.tup [])) e2 (.tup [])) e3 (.tup [.int free, .ref e1, .ref e2])) e4 (.tup [.str "told", .non])) e5 (.lst [.ref e3, .ref e4])) (.ref e5) := by
    refine ⟨⟨free, [], []⟩, ⟨e5, .ref e3, .ref e4, rfl, upd_same, cV.mk (vs := []) (by array_get_dec) (by array_get_dec) .nil (by show _ = some (HO.tup []); array_get_dec), ?_⟩, ⟨by dsimp only; decide, by dsimp only; decide⟩⟩
    rw [verdict_ok (c := ⟨free, [], []⟩) ⟨free0, by dsimp only; omega, by dsimp only; decide, by dsimp only; decide⟩ (fun k g h => by cases h) (fun k g h => by cases h)]
    exact ⟨e4, rfl, at_new f5 upd_same⟩
  have s3 := ((((Same.new (x := .tup []) f1).then (x := .tup []) f2).then (x := .tup [.int free, .ref e1, .ref e2]) f3).then (x := .tup [.str "told", .non]) f4).then (x := .lst [.ref e3, .ref e4]) f5
  generalize upd (upd (upd (upd (upd H' e1 (.tup [])) e2 (.tup [])) e3 (.tup [.int free, .ref e1, .ref e2])) e4 (.tup [.str "told", .non])) e5 (.lst [.ref e3, .ref e4]) = H3 at *
  have hsd : IsPool H3 sd := s3 _ _ hsd
  have hpl := hpl.same s3
  refine g_keep (fun σ H' => ∃ (ask : V) (o9 : Option V), σ = [some (.ref a), some (.ref sd), some (.ref D), none, some (.int kind), some (.int free), some (.int count), some (.int many), some ask, o9, none, none, none, none, none, none] ∧ Same H3 H' ∧ PS H' ask) ?_ (fun f fin => ?_)
  rotate_left
  · by_cases hk : kind = 5 ∨ kind = 6
    · rcases hk with rfl | rfl
      all_goals
        walk_at "goD"
        refine ⟨sd, _, rfl, hsd, .of (by decide) (by decide), fun x x0 x1 => ?_⟩
        walk_at "goD"
        refine ⟨sd, _, rfl, hsd, .of (by decide) (by decide), fun y y0 y1 => ?_⟩
        walk_at "goD"
        refine ⟨sd, _, rfl, hsd, .of (by decide) (by decide), fun z z0 z1 => ?_⟩
        walk_at "goD"
        refine ⟨_, _, _, _, rfl, hpl, x0, by omega, y0, by omega, z0, by omega, fun u c H6 s6 hc6 cf cg ce => ?_⟩
        walk_at "goD"
        refine ⟨u, c, rfl, hc6, by omega, by omega, by omega, by omega, fun d H7 s7 hd7 => ?_⟩
        walk_at "goD"
        intro l fl
        walk_at "goD"
        refine fin _ _ ?_
        exact ⟨.ref l, some u, rfl, s6.trans (s7.then fl), c, ⟨l, u, d, rfl, upd_same, hc6.same (s7.then fl), hd7.same (.new fl)⟩, ⟨by omega, by omega⟩⟩
    · walk_at "goD"
      refine fin _ _ ?_
      exact ⟨_, _, rfl, .refl _, hask⟩
  rintro σ H4 ⟨ask0, o9, rfl, s4, hask⟩
  have hsd : IsPool H4 sd := s4 _ _ hsd
  have hpl := hpl.same s4
  walk_at "go"
  refine ⟨_, _, _, _, rfl, hpl, free0, by omega, c0, by omega, m0, by omega, fun cu c H5 s5 hc rc cf cg ce => ?_⟩
  have hask := hask.same s5
  have hsd : IsPool H5 sd := s5 _ _ hsd
  have small : Small c := ⟨by omega, by omega⟩
  walk_at "goI"
  refine g_keep (fun σ H' => ∃ (ask : V), σ = [some (.ref a), some (.ref sd), some (.ref D), none, some (.int kind), some (.int free), some (.int count), some (.int many), some ask, o9, some cu, none, none, none, none, none] ∧ Same H5 H' ∧ PS H' ask) ?_ (fun f fin => ?_)
  rotate_left
  · walk_at "go"
    refine g_ite (fun k5 => ?_) (fun k5 => ?_)
    · walk_at "goD"
      refine ⟨sd, _, rfl, hsd, .of (by decide) (by decide), fun r r0 r1 => ?_⟩
      walk_at "goD"
      refine ⟨sd, cu, c, _, rfl, hsd, hc, rc, r0, by omega, fun u c' H6 s6 hp e1 e2 e3 => ?_⟩
      walk_at "goD"
      refine fin _ _ ?_
      exact ⟨u, rfl, s6, c', hp, ⟨by omega, by omega⟩⟩
    · walk_at "go"
      refine g_ite (fun k7 => ?_) (fun k7 => ?_)
      · walk_at "goD"
        refine ⟨sd, _, rfl, hsd, .of (by decide) (by decide), fun r r0 r1 => ?_⟩
        walk_at "goD"
        refine ⟨sd, cu, c, _, rfl, hsd, hc, rc, r0, by omega, fun u c' H6 s6 hp e1 e2 e3 => ?_⟩
        obtain ⟨l, ua, ub, rfl, hl, hua, hub⟩ := hp
        walk_at "goD"
        refine ⟨sd, cu, ua, c, c', rfl, s6 _ _ hsd, hc.same s6, rc, hua, by omega, by omega, by omega, by omega, fun v c'' H7 s7 hp7 sm7 => ?_⟩
        walk_at "goD"
        refine fin _ _ ?_
        exact ⟨v, rfl, s6.trans s7, c'', hp7, sm7⟩
      · walk_at "goD"
        refine fin _ _ ?_
        exact ⟨_, rfl, .refl _, hask⟩
  rintro σ H6 ⟨ask, rfl, s6, hask⟩
  have hsd : IsPool H6 sd := s6 _ _ hsd
  have hc := hc.same s6
  obtain ⟨ca, ga, ea, vs, rfl, h1, h2, h3, h4⟩ := id hc
  have vl := h3.1
  walk_at "go"
  intro x1 y1
  walk_at "go"
  intro x2 y2
  walk_at "go"
  refine g_cat2 (at_new y2 (at_new y1 h2)) upd_same (by simp [sizeLine_eq]; omega) (fun p7 H7 s7 e7 => ?_)
  have S7 := ((Same.new y1).then y2).trans s7
  have h1' := S7 _ _ h1
  have h4' := S7 _ _ h4
  walk_at "go"
  intro x3 y3
  walk_at "go"
  have hf : cV (upd H7 x3 (.tup [.int free, .ref p7, .ref ea])) (.ref x3) ⟨c.free, c.gates ++ [idle], c.ends⟩ := by
    refine cV.mk (by rw [upd_same, cf]) (at_new y3 e7) ?_ (at_new y3 h4')
    exact (h3.same (S7.then y3)).app (gsV.rep 1 ⟨x1, rfl, at_new y3 (s7 _ _ (at_new y2 upd_same))⟩)
  have S8 := S7.then (x := .tup [.int free, .ref p7, .ref ea]) y3
  generalize upd H7 x3 (.tup [.int free, .ref p7, .ref ea]) = H8 at *
  have hsd : IsPool H8 sd := S8 _ _ hsd
  refine ⟨sd, _, rfl, hsd, .of (by decide) (by decide), fun r r0 r1 => ?_⟩
  walk_at "go"
  refine ⟨sd, _, _, _, rfl, hsd, hf, rc.fuller (by omega), by omega, by omega, fun bu bc H9 s9 hb b1 b2 b3 => ?_⟩
  have S9 := S8.trans s9
  have hsd : IsPool H9 sd := s9 _ _ hsd
  have hc := hc.same S9
  have hask := hask.same S9
  have hbent : PS H9 bu := ⟨bc, hb, ⟨by simp at b2; omega, by simp at b3; omega⟩⟩
  walk_at "go"
  intro x4 y4
  walk_at "go"
  intro x5 y5
  walk_at "go"
  have hright : PS (upd (upd H9 x4 (.tup [.str "told", .non])) x5 (.lst [.ref ca, .ref x4])) (.ref x5) := by
    refine ⟨c, ⟨x5, .ref ca, .ref x4, rfl, upd_same, hc.same ((Same.new y4).then y5), ?_⟩, small⟩
    rw [rc.ok]
    exact ⟨x4, rfl, at_new y5 upd_same⟩
  have S10 := (Same.new (x := .tup [.str "told", .non]) y4).then (x := .lst [.ref ca, .ref x4]) y5
  generalize upd (upd H9 x4 (.tup [.str "told", .non])) x5 (.lst [.ref ca, .ref x4]) = H10 at *
  have hc := hc.same S10
  have hask := hask.same S10
  have hbent := hbent.same S10
  refine ⟨sd, _, c, rfl, S10 _ _ hsd, hc, rc, fun yu yc H11 s11 hy sy => ?_⟩
  have hbey : PS H11 yu := ⟨yc, hy, sy⟩
  have hask := hask.same s11
  have hbent := hbent.same s11
  have hright := hright.same s11
  walk_at "go"
  intro L fL
  walk_at "go"
  have all : ∀ x ∈ [ask, V.ref x5, bu, yu, ask], PS (upd H11 L (.lst [ask, .ref x5, bu, yu, ask])) x := fun x hx => by
    have hx : x = ask ∨ x = .ref x5 ∨ x = bu ∨ x = yu ∨ x = ask := by simpa using hx
    rcases hx with rfl | rfl | rfl | rfl | rfl
    · exact hask.same (.new fL)
    · exact hright.same (.new fL)
    · exact hbent.same (.new fL)
    · exact hbey.same (.new fL)
    · exact hask.same (.new fL)
  have hL : upd H11 L (.lst [ask, .ref x5, bu, yu, ask]) L = some (.lst [ask, .ref x5, bu, yu, ask]) := upd_same
  generalize upd H11 L (.lst [ask, .ref x5, bu, yu, ask]) = Hb at *
  refine for_list (fun i σ H' => ∃ o13 o14 o15, σ = [some (.ref a), some (.ref sd), some (.ref D), none, some (.int kind), some (.int free), some (.int count), some (.int many), some ask, o9, some (.ref ca), some (.ref x3), some bu, o13, o14, o15] ∧ Same Hb H') ⟨_, _, _, rfl, .refl _⟩ (fun i σ H' _ ⟨_, _, _, _, s⟩ => .of (s _ _ hL)) ?_ ?_
  · rintro i x σ H' hx ⟨o13, o14, o15, rfl, sb⟩
    obtain ⟨c', ⟨l, u, d, rfl, hl, hu, t, rfl, ht⟩, sm'⟩ := (all x (List.mem_of_getElem? hx)).same sb
    walk_at "go"
    intro l15 f15
    walk_at "go"
    refine ⟨u, c', rfl, hu.same (.new f15), sm', fun v H6 s6 hv => ?_⟩
    have hl6 := s6 _ _ (at_new f15 hl)
    have h15 := s6 _ _ (upd_same (H := H') (a := l15))
    walk_at "go"
    refine ⟨v, .ref t, rfl, ds_dV hv ⟨t, rfl, s6 _ _ (at_new f15 ht)⟩, ?_⟩
    walk_at "go"
    refine ⟨u, c', rfl, hu.same ((Same.new f15).trans s6), sm', fun l7 H7 s7 hl7 => ?_⟩
    walk_at "go"
    refine ⟨.ref l7, .ref l15, rfl, DS.of_bl (bs := [!decide ((verdict c').tag = "told"), decide ((verdict c').tag = "size"), decide ((verdict c').tag = "circuit"), false]) ?_ (s7 _ _ h15) (show 4 ≤ 100000 by decide), ?_⟩
    · rw [hl7, kindsOf_eq]
      rfl
    walk_at "go"
    exact ⟨_, _, _, rfl, sb.trans (((Same.new f15).trans s6).trans s7)⟩
  · rintro σ H' ⟨o13, o14, o15, rfl, sb⟩
    walk_at "go"
    exact q _
end

end K20
namespace K20
open PySem PySem.Spec PyProof.Rows L2 FabH He
section
variable {P : Program} {w : World} {K : PySem.W.Frag} {mg : Str → Option Value} {base : Heap}
theorem all (T : Txt P K mg) : FnOk P w K mg base CX0 7 (ga K "law") (fdOf K "law") ["script"] (sp_law K) := by
  have g_is_wire := ok_is_wire T (w := w) (base := base)
  have g_is_gate := ok_is_gate T g_is_wire
  have g_check_circuit := ok_check_circuit T g_is_gate g_is_wire
  have g__law_pool := pool_closed (ok__law_pool T (w := w) (base := base))
  have d1 := ok__law_draw T (w := w) (base := base)
  have g__law_draw := draw_closed d1
  have g__law_take := take_closed (ok__law_take T d1)
  have g__law_same := ok__law_same T (w := w) (base := base) 4
  have g__law_wire := ok__law_wire T g__law_take
  have g__law_drawn := ok__law_drawn T g__law_take g__law_wire
  have g__law_wrong := ok__law_wrong T g__law_draw
  have g__law_bent := ok__law_bent T g__law_draw g__law_wrong
  have g__law_near := ok__law_near T g__law_take
  have g__law_due := ok__law_due T (w := w) (base := base)
  have g__law_sized := ok__law_sized T g__law_draw g__law_wrong
  have g__law_beyond := ok__law_beyond T g__law_draw g__law_wrong
  have g__law_told := ok__law_told T g_check_circuit
  have g__law_kinds := ok__law_kinds T g_check_circuit
  exact ok_law T g__law_bent g__law_beyond g__law_draw g__law_drawn g__law_due g__law_kinds g__law_near g__law_pool g__law_same g__law_sized g__law_told
theorem facts {h : Heap} {fa0 : Addr} (X : K.In h) (G : h.Ns mainGlobals mg) (hfa : mg ("law" : Str) = some (.ref fa0)) (c : SaysF fa fn theFile er ex K) (pf : FileOk P theFile) :
    ∃ fd : FuncData, (∀ (s : Shared) (v : Value), BindsTo s fd ⟨[v], []⟩ [("script", v)]) ∧ ∀ base : Heap, K.In base → base.Ns mainGlobals mg → FnOk P w K mg base CX0 7 fa0 fd ["script"] (sp_law K) := by
  have T : Txt P K mg := txt_of pf X G c
  have e := hfa.symm.trans T.f_law.g
  cases e
  have b := FunD.bindsA (ps := ["script"]) T.f_law.f fun _ _ _ _ _ _ us hl => match us, hl with | [_], _ => rfl
  exact ⟨fdOf K "law", fun s v => b s [v] rfl, fun base _ _ => all T⟩
end
end K20
open PySem PySem.W PySem.Calls PyProof.Rows
theorem PySem.Challenge.cw_gatesofcloth_k20_circuit_refused_at_its_holds : PySem.Challenge.rw_gatesofcloth_k20_circuit_refused_at_its.Holds := by
  w_on; o_law
  refine HandSHeadRun.head_any (r := OpenLaw.row PySem.Challenge.rw_gatesofcloth_k20_circuit_refused_at_its) (q := view (OpenLaw.row PySem.Challenge.rw_gatesofcloth_k20_circuit_refused_at_its).prog [30]) (H := K20.hk) (ob := K20.ob) (M := 4000) (loose := K20.names) (d := HandSHeadRun.topDef (OpenLaw.row PySem.Challenge.rw_gatesofcloth_k20_circuit_refused_at_its).prog 30) (kwd := []) K20.ob_eq
    (by kernel_rfl) (fun s => by kernel_rfl) K20.run (by kernel_rfl) (by kernel_rfl) (by kernel_rfl) (by rfl) (by first | assumption | decide +kernel) (by decide +kernel) ⟨rfl, rfl, rfl, rfl, rfl, by decide +kernel⟩ ?hw ?hc
  case hw => w_witness2
  case hc =>
    refine L2.walk_ofE (l := PySem.Challenge.rw_gatesofcloth_k20_circuit_refused_at_its) (n := 63) (k := 7) (x := "script") (CX := L2.CX0) rfl (by decide) (by kernel_rfl) ⟨rfl, by decide, by decide⟩ ?F (fun _ _ _ _ z => z)
    intro w mg fa h Y G hmg0
    obtain ⟨K, KX, c⟩ := Y
    have hmg : mg ("law" : PySem.Str) = some (.ref fa) := by
      have e : (HandSHeadRun.topDef (OpenLaw.row PySem.Challenge.rw_gatesofcloth_k20_circuit_refused_at_its).prog 30).name = ("law" : PySem.Str) := by kernel_rfl
      rw [← e]
      exact hmg0
    obtain ⟨fd, hb, hF⟩ := K20.facts (P := (PySem.Challenge.rw_gatesofcloth_k20_circuit_refused_at_its).prog) (w := w) KX G hmg c ⟨by decide +kernel, by decide +kernel⟩
    exact ⟨K, fd, K20.sp_law K, KX, hb, fun H a ns hl hz hS => ⟨a, ns, rfl, hS, hl, fun _ => rfl⟩, hF⟩
