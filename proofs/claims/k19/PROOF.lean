import PyProof.Rows.All
import Wide.All
import OpenK.AllK
import Wide.FinOn
import HandS.ForMost
import HandS.ForExc
import HandS.ExcField
import HandS.ExcIs
import HandS.TryMany
import HandS.IsInst
import KE.KExcSuper
import HandS.HeadWalk
import HandS.TupAny
import HandS.TupMul
import HandS.Style
import HandS.Zip0
import HandS.Wide
import HandS.Zip
import PyProof.Draws
import HandS.Sort
import HandS.Defaults
import HandS.Head0
import HandS.Head1
import HandS.Head2
import HandS.HeadEnd
import HandS.HeadHook1
import HandS.HeadHook2
import PySem.Challenge.RW_gatesofcloth_k19_worths_and_truth_tables
set_option Elab.async false
set_option linter.all false
set_option maxRecDepth 100000
set_option maxHeartbeats 4000000
/-! An own error whose __init__ says super().__init__(text) and keeps one field. -/
namespace PySem
namespace FabX
open PySem.W PySem.Calls PyProof.Rows PySem.HandSPX

def iA (fl : Str) (p1 p2 : Pos) : Arguments := { posonlyargs := [], args := [{ arg := "self", annotation := none, pos := p1 }, { arg := fl, annotation := none, pos := p2 }], vararg := none, kwonlyargs := [], kw_defaults := [], kwarg := none, defaults := [] }
def iB (fl msg : Str) (q0 q1 q2 q3 q4 q5 q6 q7 q8 q9 : Pos) : List Stmt :=
  [.Expr (.Call (.Attribute (.Call (.Name "super" q0) [] [] q1) "__init__" q2) [.Constant (.str msg) 0 q3] [] q4) q5,
   .Assign [.Attribute (.Name "self" q6) fl q7] (.Name fl q8) q9]
def iS (fl : Str) : Scope := { kind := .function, names := [("self", .local), (fl, .local), ("__class__", .free), ("super", .globalImplicit)], isGenerator := false, isCoroutine := false, more := [] }

/-- a field's name that is none of the text's own names -/
def flOk (fl : Str) : Bool := (fl == ("self" : Str)) == false && ((fl == ("__debug__" : Str)) == false && ((("self" : Str) == fl) == false && ((("__class__" : Str) == fl) == false && ((("super" : Str) == fl) == false && (fl == ("super" : Str)) == false))))

/-- what the written part says of an error's class C: its __init__ at fI, the cell of __class__ at cc, the code at cda -/
structure ErrTxt (K : Frag) (file : Str) (fl : Str) (C fI cc cda : Addr) : Prop where
  cls : ∃ nm q N bs bm sn sub ab col dd k0 k1 k2 k3 k5, K.lookup C = some (excClassObj nm q C N bs bm true sn sub ab col dd k0 k1 k2 k3 k5 "ValueError.__new__") ∧ refsVE bm = true
  sa : findIn K (.ref C) "__setattr__" = some (some (.builtin "object.__setattr__"))
  noN : findIn K (.ref C) fl = some none
  iC : findIn K (.ref C) "__init__" = some (some (.ref fI))
  tC : typeIn K (.ref fI) = some (.type "function")
  kC : keepIn K (.ref C) = true
  exC : subIn K (.ref C) (.type "BaseException") = some true
  tyC : typeIn K (.ref C) = some (.type "type")
  ve : subIn K (.ref C) (.type "ValueError") = some true
  mro : mroIn K C (.ref C) = some true
  sup : ks_superIn K C C "__init__" = some (some (.builtin "ValueError.__init__"))
  opq : nsIn K cStatics "thirdparty.any" = some none
  cell : ∃ cl cld csl, K.lookup cc = some ⟨cl, cld, .cell (some (.ref C)), csl⟩
  code : ∃ ccl cdd vs ccs tf, K.lookup cda = some ⟨ccl, cdd, .fields vs, ccs⟩ ∧ vs[2]? = some (.str file tf)
  fn : ∃ oc od qual msg doc pm an ct osl p1 p2 q0 q1 q2 q3 q4 q5 q6 q7 q8 q9, K.lookup fI = some ⟨oc, od, .func (fnX "__init__" qual (iA fl p1 p2) (iB fl msg q0 q1 q2 q3 q4 q5 q6 q7 q8 q9) (iS fl) [("__class__", cc)] .none .none doc pm an (.ref cda) ct), osl⟩ ∧ codeIn K (.ref cda) qual = true ∧ (q2.endLine == q4.line) = true ∧
    ∀ (x : Addr) (v : Value), bindArgs (fnX "__init__" qual (iA fl p1 p2) (iB fl msg q0 q1 q2 q3 q4 q5 q6 q7 q8 q9) (iS fl) [("__class__", cc)] .none .none doc pm an (.ref cda) ct) ⟨[.ref x, v], []⟩ = pure [(("self" : Str), Value.ref x), (fl, v)]

section
variable {prog : Program} {w : World} {A : Around} {E : Value → Shared → Prop} {h : Heap} {g : Array GenState} {d : Drawn} {t : Nat} {os : OsState}
variable {nm q : Str} {C N : Addr} {bs bm : List Value} {hdct : Bool} {sn : List Str} {sub : List Value} {ab : Bool} {col : Option Bool} {dd : Option Addr} {k0 k1 k2 k3 k5 : Option Value}
/-- the bound ValueError.__init__ called -/
theorem call_mw {u e t0 : Addr} {rest : List Value} {Q : Value → Shared → Prop}
    (hC : h.get? C = some (excClassObj nm q C N bs bm hdct sn sub ab col dd k0 k1 k2 k3 k5 "ValueError.__new__")) (he : h.get? e = some (excO C t0)) (hu : h.get? u = some (kxs_mw "ValueError.__init__" e)) (hrest : rest.length ≤ sizeLine)
    (hq : ∀ h', (∀ b o, b ≠ e → h.get? b = some o → h'.get? b = some o) → h'.get? e = some (excO C h.objs.size) → Q .none ⟨h', g, d, t, os⟩) :
    wpAny (model prog w) A (call (.ref u) rest) Q E ⟨h, g, d, t, os⟩ := by
  refine wpAny_call (codeAny_of_tree ?_)
  show wpAny _ A.in1 (callAny (.ref u) ⟨rest, []⟩) _ _ _
  simp only [callAny]
  refine wpAny_bind (wpAny_load hu ?_)
  simp only [kxs_mw, show (Value.type "method-wrapper" == Value.type "method" || Value.type "method-wrapper" == Value.type "builtin_function_or_method" || Value.type "method-wrapper" == Value.type "method-wrapper") = true by decide, if_true]
  refine KFB.if_so (by decide) ?_
  refine wpAny_bind (check_bound_init F.excBase_ValueError.toExcCallFacts hC he rfl ?_)
  refine wpAny_bind (wpAny_pure (wpAny_pure ?_))
  refine ⟨plainId_quiet F.excBase_ValueError.init.plain _, codeAny_builtin F.excBase_ValueError.initEntry ?_⟩
  exact exc_init_tree (cls := .ref C) (t0 := t0) (dv := none) (c2 := .none) (c3 := .none) (b4 := .bool false) he hrest (fun h' k e' _ => hq h' k e')
end

/-- a method call without keywords on one line -/
theorem mcall_eq {o : Expr} {m : Str} {apos pos : Pos} {args : List Expr} {env : Env} (hf : methodCallForm (args.length + ([] : List Keyword).length) (backTo pos (starEach args env)) (backToKw pos (keywordEach [] env)) = true) (hl : (apos.endLine == pos.line) = true) :
    eval (.Call (.Attribute o m apos) args [] pos) env = (do
      let ov ← attributeBase o m env (eval o env)
      standAt apos.atName
      let (f, first) ← holding [ov] (getMethod ov m (L2.plainOf o env))
      callWith pos f first (backTo pos (starEach args env)) []) := by
  rw [arm_eval_Call]
  have e : ∀ ov, methodCall o m apos pos env ov (args.length + ([] : List Keyword).length) (backTo pos (starEach args env)) (backToKw pos (keywordEach [] env)) = _ := fun ov => L2.mcall_line hf hl
  simp only [e]
  rfl
/-- what __init__ leaves of a fresh exception at x -/
structure InitEnd (h h' : Heap) (x C dx : Addr) (fl : Str) (v : Value) : Prop where
  keep : ∀ b o, b ≠ x → h.get? b = some o → h'.get? b = some o
  obj : ∃ t1 : Addr, h'.get? x = some { cls := .ref C, dict := some dx, data := .fields #[.ref t1, .none, .none, .none, .bool false, .none] }
  dbig : h.objs.size ≤ dx
  dne : dx ≠ x
  ns : h'.Ns1 dx (fun y => if y = fl then some v else none)
/-- a made error -/
structure OwnMade (h h' : Heap) (e C d : Addr) (fl : Str) (v : Value) : Prop where
  keep : ∀ b o, h.get? b = some o → h'.get? b = some o
  new : h.objs.size ≤ e
  obj : ∃ oe vs, h'.get? e = some oe ∧ oe.cls = .ref C ∧ oe.dict = some d ∧ oe.data = .fields vs ∧ vs[1]? = some .none
  dbig : h.objs.size ≤ d
  dne : d ≠ e
  ns : h'.Ns1 d (fun y => if y = fl then some v else none)
theorem one_size (v : Value) : [v].length ≤ sizeLine := by
  rw [sizeLine_eq]
  exact (by decide : 1 ≤ 16777216)
theorem ldA {M : Model} {A : Around} {E : Value → Shared → Prop} {s : Shared} {env : Env} {m : Str → Option Value} {x : Str} {pos : Pos} {v : Value} {Q : Value → Shared → Prop} (hn : s.heap.Ns env.locals m) (hv : m x = some v) (h : Q v s)
    (hk : env.scope.kind = .function) (hl : env.kindOf x = some .local) (hd : (x == ("__debug__" : Str)) = false) : wpAny M A (eval (.Name x pos) env) Q E s := wpAny_Name (wpAny_loadName_local hk hl hn hv h) hd

section
variable {prog : Program} {w : World} {A : Around} {E : Value → Shared → Prop} {R : Result → Shared → Prop} {s : Shared} {K : Frag} {mg mb : Str → Option Value} {C fI cc cda : Addr} {file fl : Str}
theorem err_init (T : ErrTxt K file fl C fI cc cda) (fok : flOk fl = true) {x t0 : Addr} {v : Value} (X : K.In s.heap) (hlim : s.heap.NoLimit) (G : s.heap.Ns mainGlobals mg) (hmg : mg "super" = none) (Bn : s.heap.Ns builtinsNs mb) (hmb : mb "super" = some (.type "super"))
    (hx : s.heap.get? x = some (excO C t0)) (hnx : K.lookup x = none) (hroom : A.depth < recursionLimit) (hfile : ((prog.main.file : Str) == file) = true) (htop : (prog.main.scope.names.lookup ("super" : Str)).isSome = false)
    (hq : ∀ h' tk dx, InitEnd s.heap h' x C dx fl v → R (.ok (.ret .none)) { s with heap := h', toks := tk }) :
    codeAny (model prog w) A (.call (.ref fI) ⟨[.ref x, v], []⟩) R s := by
  obtain ⟨oc, od, qual, msg, doc, pm, an, ct, osl, p1, p2, q0, q1, q2, q3, q4, q5, q6, q7, q8, q9, hfI, hcd, hline, hbd⟩ := T.fn
  obtain ⟨nm, q, N, bs, bm, sn, sub, ab, col, dd, k0, k1, k2, k3, k5, hC, hbm⟩ := T.cls
  obtain ⟨cl, cld, csl, hcell⟩ := T.cell
  obtain ⟨ccl, cdd, vs, ccs, tf, hcode, hvs⟩ := T.code
  have hcl : clsIn K C = some { name := nm, bases := bs, mro := .ref C :: bm, ns := N, qualname := q, hasDict := true, slotNames := sn, subclasses := sub, abstract := ab, collection := col, hasDel := false } := by unfold clsIn; rw [hC] <;> rfl
  simp only [flOk, Bool.and_eq_true, beq_iff_eq] at fok
  obtain ⟨f1, f2, f3, f4, f5, f6⟩ := fok
  have l1 : (iS fl).names.lookup ("self" : Str) = some NameKind.local := rfl
  have l2 : (iS fl).names.lookup fl = some NameKind.local := by
    show (match fl == ("self" : Str) with | true => some NameKind.local | false => (match fl == fl with | true => some NameKind.local | false => _)) = _
    rw [f1]; simp
  have l3 : (iS fl).names.lookup ("__class__" : Str) = some NameKind.free := by
    show (match ("__class__" : Str) == fl with | true => some NameKind.local | false => some NameKind.free) = _
    rw [f4]
  have l4 : (iS fl).names.lookup ("super" : Str) = some NameKind.globalImplicit := by
    show (match ("super" : Str) == fl with | true => some NameKind.local | false => some NameKind.globalImplicit) = _
    rw [f5]
  refine ks_codeAny_call_defAt (binds := [("self", .ref x), (fl, v)]) hroom (X _ _ hfI) rfl hlim (codeRec_of X hcd) rfl (BindsTo.of_eq (hbd x v)) (fun y hy => ?_) (fun y hy => ?_) (fun h₁ hns hk₁ => ?_)
  · have hy' : y ∈ [(("self" : Str), NameKind.local), (fl, .local), ("__class__", .free), ("super", .globalImplicit)] := hy
    simp only [List.mem_cons, List.not_mem_nil, or_false] at hy'
    rcases hy' with rfl | rfl | rfl | rfl <;> simp
  · simp only [List.mem_cons, List.not_mem_nil, or_false] at hy
    rcases hy with rfl | rfl
    · exact l1
    · exact l2
  · have X₁ : K.In h₁ := X.keeps hk₁
    have hx₁ := hk₁ _ _ hx
    have hxC : x ≠ C := fun z => by
      have e := X _ _ hC
      rw [← z, hx] at e
      cases e
    have mself : (fun y => ([(("self" : Str), Value.ref x), (fl, v)].reverse).lookup y) "self" = some (.ref x) := by
      show (match ("self" : Str) == fl with | true => some v | false => some (Value.ref x)) = _
      rw [f3]
    have mfl : (fun y => ([(("self" : Str), Value.ref x), (fl, v)].reverse).lookup y) fl = some v := by
      show (match fl == fl with | true => some v | false => _) = _
      simp
    obtain ⟨hp, g, d, t, os⟩ := s
    obtain ⟨oD, hD1, hD2⟩ : ∃ oD, h₁.get? C = some oD ∧ ∃ cdD, oD.data = .cls cdD := ⟨_, X₁ _ _ hC, _, rfl⟩
    obtain ⟨cdD, hD2⟩ := hD2
    refine ks_wpAt_execs_cons (ks_wpAt_Expr_any (ks_wpAt_MethodCall ?_ (mcall_eq rfl hline)))
    refine ks_wpAt_super_base l4 l3 (by decide) rfl (hk₁ _ _ (X _ _ hfI)) rfl rfl rfl (hk₁ _ _ (X _ _ hcode)) rfl hvs hfile htop ?_
    refine ks_loadName_global rfl l4 (loadGlobal_builtin (mg := mg) (mb := mb) (G.keeps hk₁) hmg (Bn.keeps hk₁) hmb ⟨rfl, ?_⟩)
    refine wpAny_loadName_free rfl l3 rfl ⟨_, hk₁ _ _ (X _ _ hcell), rfl⟩ ?_
    refine wpAny_loadName_local rfl l1 hns mself ?_
    refine ks_wpAny_isType_cls hD1 hD2 ⟨rfl, ?_⟩
    refine ks_wpAny_call_super hD1 hD2 hx₁ rfl (fun c e => by cases e) (looks_mroIn X₁ T.mro) (fun h₂ e₂ k₂ => ?_)
    have X₂ : K.In h₂ := X₁.keeps k₂
    have I₂ : InstAt h₂ x (excO C t0) C none := ⟨k₂ _ _ hx₁, rfl, rfl, trivial⟩
    have hsup := T.sup
    unfold ks_superIn at hsup
    rw [hcl] at hsup
    refine kxs_getMethod (l₀ := .ref C :: bm) kxs_ValueError e₂ (looks_opaque X₂ T.opq) (fun A Q E s k q => wpAny_bind ((looks_clsIn X₂ hcl) A _ E s k (wpAny_pure q))) rfl X₂ hsup (I₂.type.andThen (looks_subIn X₂ T.ve)) hxC (by decide) ?_
    refine kxs_callWith (i := "ValueError.__init__") (x := x) rfl (evalArgs_plain (spliced_cons ?_))
    refine Calls.Constant_str (k := 0) (pos := q3) (spliced_nil ⟨?_, ?_⟩)
    · exact Heap.get?_push_at rfl rfl
    have k₃ : ∀ b o, h₂.get? b = some o → (h₂.push (kxs_mw "ValueError.__init__" x)).get? b = some o := fun b o e => Heap.get?_push_of_some _ e
    refine call_mw (k₃ _ _ (X₂ _ _ hC)) (k₃ _ _ (k₂ _ _ hx₁)) (Heap.get?_push_at rfl rfl) (one_size _) (fun h₄ k₄ hx₄ => ?_)
    -- self.fl = fl
    have kk : ∀ b o, b ≠ x → hp.get? b = some o → h₄.get? b = some o := fun b o hb e => k₄ b o hb (k₃ _ _ (k₂ _ _ (hk₁ _ _ e)))
    have hL : h₁.objs.size ≤ h₁.objs.size := Nat.le_refl _
    have hxL : hp.objs.size ≠ x := Nat.ne_of_gt (Heap.lt_size hx)
    have hns₄ : h₄.Ns hp.objs.size (fun y => ([(("self" : Str), Value.ref x), (fl, v)].reverse).lookup y) := by
      obtain ⟨oL, es, ep, hL, r⟩ := hns
      exact ⟨oL, es, ep, k₄ _ _ hxL (k₃ _ _ (k₂ _ _ hL)), r⟩
    have X₄ : K.In h₄ := fun b o e => kk b o (fun z => by rw [z, hnx] at e; cases e) (X _ _ e)
    show _root_.PySem.wpAt _ _ _ (execs _ _) _ _ _
    refine wpAt_of_wpAny (wpAny_execs_cons (plainObj_wpAny_Assign_Attribute ?_))
    refine ldA hns₄ mfl (ldA hns₄ mself ?_ rfl l1 (by decide)) rfl l2 f2
    refine set_plain X₄ (ox := excO C _) (od := none) ⟨hx₄, rfl, rfl, trivial⟩ T.sa ?_
    refine exc_osa X₄ hx₄ hcl (show refsVE (.ref C :: bm) = true from hbm) rfl T.noN (fun h₅ tk₅ dx k₅ dn dne hx₅ hn₅ => ?_)
    have z : hp.objs.size ≤ h₄.objs.size := by
      refine Nat.le_of_not_lt fun q => ?_
      obtain ⟨oL, es, ep, hL, r⟩ := hns₄
      exact absurd (Nat.lt_trans (Heap.lt_size hL) q) (Nat.lt_irrefl _)
    exact wpAny_execs_nil (hq h₅ tk₅ dx ⟨fun b o hb e => k₅ b o hb (kk b o hb e), ⟨_, hx₅⟩, Nat.le_trans z dn, dne, hn₅⟩)
theorem err_made (T : ErrTxt K file fl C fI cc cda) (fok : flOk fl = true) {v : Value} (X : K.In s.heap) (hlim : s.heap.NoLimit) (G : s.heap.Ns mainGlobals mg) (hmg : mg "super" = none) (Bn : s.heap.Ns builtinsNs mb) (hmb : mb "super" = some (.type "super"))
    (hroom : A.depth + 1 < recursionLimit) (hfile : ((prog.main.file : Str) == file) = true) (htop : (prog.main.scope.names.lookup ("super" : Str)).isSome = false)
    (hq : ∀ h' tk e d, OwnMade s.heap h' e C d fl v → R (.ok (.ret (.ref e))) { s with heap := h', toks := tk }) :
    codeAny (model prog w) A (.call (.ref C) ⟨[v], []⟩) R s := by
  obtain ⟨nm, q, N, bs, bm, sn, sub, ab, col, dd, k0, k1, k2, k3, k5, hC, hbm⟩ := T.cls
  obtain ⟨hp, g, dr, tk, os⟩ := s
  have k : ∀ b o, hp.get? b = some o → ((hp.push (kdv_tup [v])).push (excO C hp.objs.size)).get? b = some o := fun b o e => Heap.get?_push_of_some _ (Heap.get?_push_of_some _ e)
  have hget : ((hp.push (kdv_tup [v])).push (excO C hp.objs.size)).get? (hp.objs.size + 1) = some (excO C hp.objs.size) := by heap_get
  have hnx : K.lookup (hp.objs.size + 1) = none := by
    cases e : K.lookup (hp.objs.size + 1) with
    | none => rfl
    | some o =>
      have z : hp.get? (hp.objs.size + 1) = some o := X _ _ e
      exact absurd (Nat.lt_of_succ_lt (Heap.lt_size z)) (Nat.lt_irrefl _)
  refine call_own F.excBase_ValueError (fun X => refsVE_contains X bm hbm) (X _ _ hC) (looks_findIn X T.iC) (fun self => bind_fn X self T.tC) (one_size v) ?_
  refine err_init (s := ⟨(hp.push (kdv_tup [v])).push (excO C hp.objs.size), g, dr, tk, os⟩) (mg := mg) (mb := mb) T fok (X.keeps k) (hlim.keeps k) (G.keeps k) hmg (Bn.keeps k) hmb hget hnx ?_ hfile htop fun h' tk' dx ⟨k', hx, dn, dne, hns⟩ => ?_
  · show A.depth + 1 < recursionLimit
    exact hroom
  · have old : ∀ b o, hp.get? b = some o → h'.get? b = some o := fun b o e => k' b o (Nat.ne_of_lt (Nat.lt_succ_of_lt (Heap.lt_size e))) (k b o e)
    have z : hp.objs.size + 1 + 1 ≤ dx := by
      first
        | (simpa only [Heap.size_push] using dn)
        | exact dn
        | (have q := dn; rw [Heap.size_push, Heap.size_push] at q; exact q)
    obtain ⟨t1, hx⟩ := hx
    exact ⟨rfl, hq h' tk' (hp.objs.size + 1) dx ⟨old, Nat.le_succ _, ⟨_, _, hx, rfl, rfl, rfl, rfl⟩, Nat.le_trans (Nat.le_trans (Nat.le_succ _) (Nat.le_succ _)) z, dne, hns⟩⟩
end
end FabX
end PySem

namespace L2
open PySem PySem.Spec PyProof.Rows
theorem relO_fl {fl : Str} {v : V} {v' : Value} (r : RelV v v') (f : Str) : RelO (List.lookup f [(fl, v)]) (if f = fl then some v' else none) := by
  by_cases hw : f = fl
  · subst hw
    rw [if_pos rfl]
    have q : List.lookup f [(f, v)] = some v := by simp [List.lookup]
    rw [q]
    exact r
  · rw [if_neg hw]
    have qw : (f == fl) = false := by simpa using hw
    have q2 : List.lookup f [(fl, v)] = none := by simp [List.lookup, qw]
    rw [q2]
    trivial
section
variable {X : Cx} {C fI cc cda : Addr} {file fl cn : Str}
/-- what the program itself says -/
structure FileOk (P : Program) (file : Str) : Prop where
  file : ((P.main.file : Str) == file) = true
  top : (P.main.scope.names.lookup ("super" : Str)).isSome = false
/-- cn(e) -/
def tMkErr (C : Addr) (fl : Str) (ta : TA) : St → Hp → XK → Prop := fun σ H Q => ta σ H fun vs H1 => ∃ v, vs = [v] ∧ ∀ d, H1 d = none → Q (.ref C) (some d) (upd H1 d (.xd [(fl, v)]))
theorem pmk_err {a : Expr} {ta : TA} {p pos : Pos} {k : Nat} (T : PySem.FabX.ErrTxt X.K file fl C fI cc cda) (fok : PySem.FabX.flOk fl = true) (gC : X.mg cn = some (.ref C)) (ns : X.mg "super" = none) (pf : FileOk X.prog file)
    (hr : Room k X.A) (ha : PA X [a] ta) (hg : Gl X cn := by rfl) (hd : (cn == ("__debug__" : Str)) = false := by decide)
    (he : starEach (a :: []) X.env = (false, eval a X.env) :: starEach [] X.env := by rfl) (hpl : (backTo pos (starEach [] X.env)).any (·.1) = false := by rfl) :
    PMk X (.Call (.Name cn p) [a] [] pos) (tMkErr C fl ta) := by
  intro pins s σ H Q I h
  refine wpAny_Call_Name_kw (ld_glob I hg gC ?_ hd)
  refine PySem.W.callWith_K (h₀ := X.base) I.ok.mod.kin T.kC (thn (ha.run pos pins s σ H _ I h) fun us s1 hh => ?_) he hpl
  obtain ⟨vs, H1, I1, r1, v, ev, q1⟩ := hh
  subst ev
  refine ⟨I1.kIn, ?_⟩
  cases r1 with
  | cons rv rn =>
    rename_i v' us'
    cases rn
    show wpAny _ _ (call (.ref C) [v']) _ _ _
    have hlim := I1.nolimit
    have hG : s1.heap.Ns mainGlobals X.mg := I1.mod.glob.keeps I1.bk
    obtain ⟨mb, hB, hb⟩ := I1.mod.blt
    have hB' : s1.heap.Ns builtinsNs mb := hB.keeps I1.bk
    have hmb : mb "super" = some (.type "super") := (hb _ (by decide)).trans PyProof.Rows.Boot.super
    obtain ⟨hp, g, dr, tk, os⟩ := s1
    refine wpAny_call (PySem.FabX.err_made T fok I1.kIn hlim hG ns hB' hmb (by have := hr.dp; omega) pf.file pf.top fun h' tk' e d M => ?_)
    show MkP X pins σ Q (.ref e) ⟨h', g, dr, tk', os⟩
    obtain ⟨oe, fv, hoe, hc, hd, hdat, h1⟩ := M.obj
    have hns := M.ns
    obtain ⟨G', g1, g2⟩ := restrict h' fun b => decide (b ≠ e)
    have gk : ∀ b, b ≠ e → G'.get? b = h'.get? b := fun b hb => g1 b (decide_eq_true hb)
    have ge : G'.get? e = none := g2 e (by simp)
    have old : ∀ b o, hp.get? b = some o → G'.get? b = some o := fun b o q => (gk b (Nat.ne_of_lt (Nat.lt_of_lt_of_le (Heap.lt_size q) M.new))).trans (M.keep b o q)
    have ob : ObjOk X.prog X.w (upd H1 d (.xd [(fl, v)])) G' d (.xd [(fl, v)]) :=
      ⟨_, hns.at (fun o q => (gk d M.dne).trans q), fun f => relO_fl rv f⟩
    have J : Inv X pins σ (upd H1 d (.xd [(fl, v)])) ⟨G', g, dr, tk', os⟩ := I1.laid (t' := tk') old M.dbig ob
    refine ⟨e, oe, fv, ⟨G', g, dr, tk', os⟩, _, .ref C, some d, rfl, J, fun b o q => ?_, ge, hoe, ⟨hc, hd⟩, hdat, h1, ?_, rfl, I1.bare, raises_own T.exC T.tyC, q1 d (I1.hok.fresh M.dbig)⟩
    · by_cases hb : b = e
      · have q' : G'.get? b = some o := q
        rw [hb, ge] at q'; cases q'
      · exact (gk b hb).symm.trans q
    · rw [upd_ne (Ne.symm M.dne)]
      exact I1.hok.fresh M.new
/-- raise cn(e) -/
def tRaiseErr (C : Addr) (fl : Str) (W : WX) (ta : TA) : TS := fun _ σ H => tMkErr C fl ta σ H fun cls d H' => W cls d σ H'
theorem ps_raiseErr {a : Expr} {ta : TA} {W : WX} {p pos pos2 : Pos} {k : Nat} (hc : X.calm = true) (T : PySem.FabX.ErrTxt X.K file fl C fI cc cda) (fok : PySem.FabX.flOk fl = true) (gC : X.mg cn = some (.ref C)) (ns : X.mg "super" = none) (pf : FileOk X.prog file)
    (hr : Room k X.A) (tk : Takes X W) (ha : PA X [a] ta) (hg : Gl X cn := by rfl) (hd : (cn == ("__debug__" : Str)) = false := by decide)
    (he : starEach (a :: []) X.env = (false, eval a X.env) :: starEach [] X.env := by rfl) (hpl : (backTo pos (starEach [] X.env)).any (·.1) = false := by rfl) :
    PS X (.Raise (some (.Call (.Name cn p) [a] [] pos)) none pos2) (tRaiseErr C fl W ta) := ps_raise hc tk (pmk_err T fok gC ns pf hr ha hg hd he hpl)
end

/-! ### several except clauses, each with a name or none -/
/-- where a clause's suite goes on: its name (slot i) is gone -/
def endsAs (oi : Option Nat) (D : Ends) : Ends := match oi with
  | none => D
  | some i => { nx := fun σ' H' => D.nx (σ'.set i none) H', rt := D.rt, bk := fun σ' H' => D.bk (σ'.set i none) H', ct := fun σ' H' => D.ct (σ'.set i none) H' }
def setAs (oi : Option Nat) (σ : St) (a : Addr) : St := match oi with
  | none => σ
  | some i => σ.set i (some (.ref a))
abbrev ClauseT : Type := Value × Option Nat × (Addr → Value → Option Addr → TS)
def wAll (K : PySem.W.Frag) (Wout : WX) (D : Ends) : List ClauseT → WX
  | [] => Wout
  | (c, oi, ts) :: r => fun cls d σ H => ∃ b, PySem.W.exmOne K cls c = some b ∧ (b = true → ∀ a, H a = none → ts a cls d (endsAs oi D) (setAs oi σ a) H) ∧ (b = false → wAll K Wout D r cls d σ H)
inductive HdsA (X : Cx) : List ExceptHandler → List ClauseT → Prop
  | nil : HdsA X [] []
  | cons {x : Str} {c : Value} {ts : Addr → Value → Option Addr → TS} {b₀ : Stmt} {suite : List Stmt} {np pos' : Pos} {hds : List ExceptHandler} {l : List ClauseT} (hc : Names X x c)
      (hsu : ∀ (a : Addr) (oe : Obj) (cls : Value) (d : Option Addr) (pn : List (Addr × Obj)), Zc cls d oe → (∃ vs, oe.data = .fields vs) → PSs (X.suite a ((a, oe) :: pn)) (b₀ :: suite) (ts a cls d)) (r : HdsA X hds l) :
      HdsA X (.ExceptHandler (some (.Name x np)) none (b₀ :: suite) pos' :: hds) ((c, none, ts) :: l)
  | as {x n : Str} {c : Value} {i : Nat} {ts : Addr → Value → Option Addr → TS} {b₀ : Stmt} {suite : List Stmt} {np pos' : Pos} {hds : List ExceptHandler} {l : List ClauseT} (hi : X.N[i]? = some n) (hln : X.env.kindOf n = some .local) (hc : Names X x c)
      (hsu : ∀ (a : Addr) (oe : Obj) (cls : Value) (d : Option Addr) (pn : List (Addr × Obj)), Zc cls d oe → (∃ vs, oe.data = .fields vs) → PSs (X.suite a ((a, oe) :: pn)) (b₀ :: suite) (ts a cls d)) (r : HdsA X hds l) :
      HdsA X (.ExceptHandler (some (.Name x np)) (some n) (b₀ :: suite) pos' :: hds) ((c, some i, ts) :: l)
section
variable {X : Cx} {body : List Stmt} {h₀ : ExceptHandler} {hds : List ExceptHandler} {l : List ClauseT} {pos : Pos} {tb : WX → TS} {Wout : WX}
theorem ps_try_all (hs : X.stack = X.env :: X.outer) (hf : X.env.frame = some X.env.locals) (hN : X.N.Nodup) (tk : Takes X Wout)
    (hb : ∀ (W : WX) (pn : List (Addr × Obj)) (xe : Value → Shared → Prop), Takes (X.tr pn xe) W → PassesOwn (model X.prog X.w) X.A X.env xe → PSs (X.tr pn xe) body (tb W))
    (hh : HdsA X (h₀ :: hds) l) : PS X (.Try body (h₀ :: hds) [] [] pos) (fun D σ H => tb (wAll X.K Wout D l) D σ H) := by
  refine ⟨fun pins s σ H D I h => ?_⟩
  have ok := I.ok
  have hfr : X.A.frames = some (X.env :: X.outer) := by rw [ok.frames, hs]
  refine wpAny_Try_except ?_
  refine wpAny_mono ((hb (wAll X.K Wout D l) (X.pn ++ pins) (fun e s₁ => wpAny (model X.prog X.w) X.A (noteFrame e X.env) (fun _ s₂ => wpAny (model X.prog X.w) X.A (setFlight e none) (fun _ s₃ =>
    wpAny (model X.prog X.w) X.A (handleBy e X.env (h₀ :: hds)) (SP X pins D) X.xe s₃) X.xe s₂) X.xe s₁) (fun u s' xx => ?_) PassesOwn.looking).run [] s σ H D (I.toTry _) h) (fun f s1 hsp => ?_) (fun e s1 he => he)
  · -- the catch
    obtain ⟨a, B, sI, pins', σ', H', cls, d, rfl, J', nb, up, sky, na, os, ag, w⟩ := xx
    have J : Inv X pins σ' H' sI := J'.ofTry ok
    have sky' : Sky B (X.env :: X.outer) a (Zc cls d) X.env.locals s'.heap := by rw [← hs]; exact sky
    show wpAny (model X.prog X.w) X.A (noteFrame (.ref a) X.env) _ _ _
    refine Sky.land Zc.steady hfr hf sky' fun h3 fl3 up3 => ?_
    have J3 : Inv X pins σ' H' { s' with heap := h3 } := J.landed nb fl3.1 (up.trans up3) os ag
    obtain ⟨oe3, vs3, he3, hz3, hd3⟩ := fl3.there
    have notFr : ∀ {h : Heap} {o : Obj} {vs : Array Value}, h.FunFrames B (X.env :: X.outer) → h.get? a = some o → o.data = .fields vs → a ∉ frs (X.env :: X.outer) := fun {h o vs} ff e dd hm => by
      obtain ⟨_, o', e', hnf⟩ := ff.mem hm
      rw [e] at e'; cases e'
      exact hnf _ dd
    have nfr := notFr fl3.2.2.1 he3 hd3
    have nL : a ≠ X.env.locals := fun z => nfr (List.mem_filterMap.mpr ⟨X.env, List.mem_cons_self, by rw [hf, z]⟩)
    have nF : a ∉ X.fs := fun hm => by
      obtain ⟨e, he, q⟩ := List.mem_filterMap.mp hm
      exact nfr (List.mem_filterMap.mpr ⟨e, List.mem_cons_of_mem _ he, q⟩)
    have S3 := J3.suite he3 hd3 na nL nF
    have go : ∀ {hds' : List ExceptHandler} {l' : List ClauseT}, HdsA X hds' l' → wAll X.K Wout D l' cls d σ' H' →
        wpAny (model X.prog X.w) X.A (handleBy (.ref a) X.env hds') (SP X pins D) X.xe { s' with heap := h3 } := by
      intro hds' l' hk
      induction hk with
      | nil =>
        intro w
        refine wpAny_handleBy_nil ?_
        obtain ⟨k1, k2, k3, oe, vs, T, oT, ts', he, hz, hd, h1, hr⟩ := id fl3
        unfold PySem.passOn
        refine wpAny_bind (wpAny_field he hd h1 ?_)
        rw [if_neg (show ¬ ((Value.ref T == Value.none) = true) from by simp)]
        have fin : wpAny (model X.prog X.w) X.A (setFlight (.ref a) X.env.frame) (fun _ s4 => wpAny (model X.prog X.w) X.A (throw (.ref a) : Sem Flow) (SP X pins D) X.xe s4) X.xe { s' with heap := h3 } := by
          rw [hf]
          refine HandSPX.setFlight_upZ fl3 fun h4 hh4 up4 => wpAny_throw (tk _ _ ?_)
          exact ⟨a, B, sI, pins, σ', H', cls, d, rfl, J, nb, (up.trans up3).trans up4, .inr (.inr (by rw [hs]; exact hh4)), na, os, ag, w⟩
        first
          | exact wpAny_bind (wpAny_pure (wpAny_bind fin))
          | exact wpAny_bind fin
      | @cons x c ts b₀ suite np pos' hds2 l2 hc hsu r ih =>
        intro w
        obtain ⟨b, hb1, hyes, hno⟩ := w
        refine wpAny_handleBy_cons (codeAny_handlers_test ?_) (by intro q; cases q)
        have LT : PySem.W.Looks (model X.prog X.w) h3 (typeOf (.ref a)) cls := fun A Q E s k q => wpAny_typeOf_ref (k _ _ he3) (by rw [hz3.1]; exact q)
        have LM := PySem.W.exm_one (M := model X.prog X.w) (J3.kIn) LT hb1
        have test : ∀ {Q : Value → Shared → Prop} {E : Value → Shared → Prop}, Q c { s' with heap := h3 } → wpAny (model X.prog X.w) (X.A.mark (some (.ref a))) (eval (.Name x np) X.env) Q E { s' with heap := h3 } := fun {Q E} q => by
          obtain ⟨hg, hdbg, hm | ⟨hm, hv, hnn⟩⟩ := hc
          · exact ld_glob (X := X.suite a ((a, oe3) :: (X.pn ++ pins))) S3 hg hm q hdbg
          · exact ld_blt (X := X.suite a ((a, oe3) :: (X.pn ++ pins))) S3 hg hm hv q hnn hdbg
        refine test (LM.here ?_)
        cases b with
        | true =>
          refine codeAny_handlers_suite ?_
          refine HandSPX.lands_againZ fl3 fun h4 fl4 up4 => ?_
          have J4 : Inv X pins σ' H' { s' with heap := h4 } := J.landed nb fl4.1 ((up.trans up3).trans up4) os ag
          obtain ⟨oe4, vs4, he4, hz4, hd4⟩ := fl4.there
          have S4 := J4.suite he4 hd4 na nL nF
          refine wpAny_mono ((hsu a oe4 cls d (X.pn ++ pins) hz4 ⟨_, hd4⟩).run [] _ _ H' _ S4 (hyes rfl a na)) (fun f s6 hsp => ?_) (fun _ _ z => False.elim z)
          cases f with
          | next =>
            obtain ⟨σ6, H6, S6, q6⟩ := hsp
            exact ⟨_, _, S6.unsuite ok, q6⟩
          | brk =>
            obtain ⟨σ6, H6, S6, q6⟩ := hsp
            exact ⟨_, _, S6.unsuite ok, q6⟩
          | cont =>
            obtain ⟨σ6, H6, S6, q6⟩ := hsp
            exact ⟨_, _, S6.unsuite ok, q6⟩
          | ret u =>
            obtain ⟨v6, σ6, H6, S6, r6, q6⟩ := hsp
            exact ⟨_, _, _, S6.unsuite ok, r6, q6⟩
        | false =>
          show wpAny _ X.A (handleBy (.ref a) X.env hds2) _ _ _
          exact ih (hno rfl)
      | @as x n c i ts b₀ suite np pos' hds2 l2 hi hln hc hsu r ih =>
        intro w
        obtain ⟨b, hb1, hyes, hno⟩ := w
        have hloc : Loc X.env.scope n := .inl hln
        refine wpAny_handleBy_cons (codeAny_handlers_test ?_) (by intro q; cases q)
        have LT : PySem.W.Looks (model X.prog X.w) h3 (typeOf (.ref a)) cls := fun A Q E s k q => wpAny_typeOf_ref (k _ _ he3) (by rw [hz3.1]; exact q)
        have LM := PySem.W.exm_one (M := model X.prog X.w) (J3.kIn) LT hb1
        have test : ∀ {Q : Value → Shared → Prop} {E : Value → Shared → Prop}, Q c { s' with heap := h3 } → wpAny (model X.prog X.w) (X.A.mark (some (.ref a))) (eval (.Name x np) X.env) Q E { s' with heap := h3 } := fun {Q E} q => by
          obtain ⟨hg, hdbg, hm | ⟨hm, hv, hnn⟩⟩ := hc
          · exact ld_glob (X := X.suite a ((a, oe3) :: (X.pn ++ pins))) S3 hg hm q hdbg
          · exact ld_blt (X := X.suite a ((a, oe3) :: (X.pn ++ pins))) S3 hg hm hv q hnn hdbg
        refine test (LM.here ?_)
        cases b with
        | true =>
          refine codeAny_handlers_suite_as ?_
          refine HandSPX.lands_againZ fl3 fun h4 fl4 up4 => ?_
          have J4 : Inv X pins σ' H' { s' with heap := h4 } := J.landed nb fl4.1 ((up.trans up3).trans up4) os ag
          obtain ⟨oe4, vs4, he4, hz4, hd4⟩ := fl4.there
          have S4 := J4.suite he4 hd4 na nL nF
          refine store_ok (X := X.suite a ((a, oe4) :: (X.pn ++ pins))) (v := .ref a) S4 hN hi hloc rfl (fun s5 S5 => ?_) (.inr hln)
          refine wpAny_mono ((hsu a oe4 cls d (X.pn ++ pins) hz4 ⟨_, hd4⟩).run [] s5 _ H' _ S5 (hyes rfl a na)) (fun f s6 hsp => ?_) (fun _ _ z => False.elim z)
          have end_ : ∀ {σ6 : St} {H6 : Hp} {Q : Shared → Prop}, Inv (X.suite a ((a, oe4) :: (X.pn ++ pins))) [] σ6 H6 s6 → (∀ s7, Inv X pins (σ6.set i none) H6 s7 → Q s7) →
              wpAny (model X.prog X.w) X.A (do bindName X.env n .none; unbindBehindTheSuite X.env n pos') (fun _ s7 => Q s7) X.xe s6 := fun {σ6 H6 Q} S6 hq => gone_ok (S6.unsuite ok) hN hi hln hq
          cases f with
          | next =>
            obtain ⟨σ6, H6, S6, q6⟩ := hsp
            exact end_ S6 fun s7 J7 => ⟨_, _, J7, q6⟩
          | brk =>
            obtain ⟨σ6, H6, S6, q6⟩ := hsp
            exact end_ S6 fun s7 J7 => ⟨_, _, J7, q6⟩
          | cont =>
            obtain ⟨σ6, H6, S6, q6⟩ := hsp
            exact end_ S6 fun s7 J7 => ⟨_, _, J7, q6⟩
          | ret u =>
            obtain ⟨v6, σ6, H6, S6, r6, q6⟩ := hsp
            exact end_ S6 fun s7 J7 => ⟨_, _, _, J7, r6, q6⟩
        | false =>
          show wpAny _ X.A (handleBy (.ref a) X.env hds2) _ _ _
          exact ih (hno rfl)
    exact go hh w
  · cases f with
    | next =>
      obtain ⟨σ', H', J', q⟩ := hsp
      exact wpAny_execs_nil ⟨σ', H', J'.ofTry ok, q⟩
    | brk =>
      obtain ⟨σ', H', J', q⟩ := hsp
      exact ⟨σ', H', J'.ofTry ok, q⟩
    | cont =>
      obtain ⟨σ', H', J', q⟩ := hsp
      exact ⟨σ', H', J'.ofTry ok, q⟩
    | ret u =>
      obtain ⟨v, σ', H', J', r, q⟩ := hsp
      exact ⟨v, σ', H', J'.ofTry ok, r, q⟩
end
end L2

namespace PySem.W
open PySem PySem.Spec PySem.Calls PyProof.Rows
section
variable {prog : Program} {w : World} {A : Around} {E : Value → Shared → Prop} {s : Shared} {K : Frag} {x D : Addr} {ox od : Obj}
/-- the __class__ of an own exception that has its dict -/
theorem fab_class {Q : Option Value → Shared → Prop} (C : L2.ExcC K D)
    (X : K.In s.heap) (I : InstAt s.heap x ox D (some od)) (h : Q (some (.ref D)) { s with toks := s.toks + 1 }) : wpAny (model prog w) A (getAttr? (.ref x) "__class__") Q E s := by
  have hf := findObj_data (K := K) (C := D) (od := od) (by obtain ⟨cd, hc, _⟩ := any_some C.hd; rw [hc]; rfl) C.ha C.hn C.ht
  obtain ⟨hp, g, d, t, os⟩ := s
  have L0 := I.type (M := model prog w)
  have L1 := looks_findIn (M := model prog w) X C.hg
  have L2 := looks_findIn (M := model prog w) X C.hk
  have L3 := looks_find (M := model prog w) X I hf
  have sub : Looks (model prog w) hp (isInstance (.ref x) (.type "BaseException")) true := L0.andThen (looks_subIn X C.hs)
  have no2 : (Value.builtin "BaseException.__getattribute__" == Value.builtin "object.__getattribute__") = false := by decide +kernel
  have no1 : (onTheHeap (Value.ref D) && Value.builtin "BaseException.__getattribute__" == Value.builtin "object.__getattribute__") = false := by rw [no2]; rfl
  unfold getAttr? getAttrBy? getAttrBy
  refine wpAny_bind (wpAny_mkText (wpAny_bind (wpAny_attempt (wpAny_holding (wpAny_bind (L0.at (wpAny_bind (L1.at ?_))))))))
  show wpAny _ _ (if (onTheHeap (Value.ref D) && Value.builtin "BaseException.__getattribute__" == Value.builtin "object.__getattribute__") = true then _ else _) _ _ _
  rw [no1, if_neg Bool.false_ne_true]
  unfold getAttrByItsOwn hookBefore
  refine wpAny_bind ?_
  rw [if_pos (show onTheHeap (Value.ref D) = true from rfl)]
  refine L2.at (wpAny_bind (wpAny_attempt (wpAny_holding ?_)))
  unfold callGetattribute
  rw [if_neg (show ¬ (false && onTheHeap (Value.builtin "BaseException.__getattribute__")) = true from Bool.false_ne_true)]
  unfold boundAndCalled
  rw [PySem.F.excAttr_ValueError.ga.bind (.ref x)]
  refine wpAny_bind (wpAny_pure ?_)
  refine wpAny_call (codeAny_call_builtin PySem.F.excAttr_ValueError.ga.plain PySem.F.entry_bexc_ga ?_)
  refine @check_slot (model prog w) _ _ ⟨hp, g, d, t + 1, os⟩ "BaseException.__getattribute__" "BaseException" "__getattribute__" (.ref x) [.str "__class__" t] [] _ (by decide +kernel) (by decide +kernel) sub (PySem.F.args_bexc_ga (.ref x) (.str "__class__" t)) ?_
  unfold Builtin.«object.__getattribute__»
  refine wpAny_bind (wpAny_of_eq (a := ((Value.ref x : Value), [Value.str "__class__" t])) (by first | rfl | (simp only [slotArgs]; rfl)) ?_)
  refine wpAny_bind (wpAny_pure (wpAny_bind (L0.at (wpAny_bind (L3.at ?_)))))
  refine wpAny_bind (wpAny_holding (wpAny_call (class_get (s := ⟨hp, g, d, t + 1, os⟩) (ox := ox) (od := some od) X I C.hm ?_)))
  refine wpAny_pure ?_
  show wpAny _ _ (handedOut (.ref D)) _ _ _
  rw [handedOut_of (v := .ref D) rfl]
  first
    | exact wpAny_pure (wpAny_pure h)
    | exact wpAny_pure h
    | exact wpAny_pure (wpAny_bind (wpAny_pure (wpAny_pure h)))
theorem fab_kit (C : L2.ExcC K D) : KitX K (.ref x) (.ref D) (fun h => ∃ od, InstAt h x ox D (some od)) where
  ty := fun _ _ _ ⟨_, I⟩ => I.type
  it := fun _ _ X _ => by
    obtain ⟨cdD, hcD, _⟩ := any_some C.hd
    unfold clsIn at hcD
    split at hcD
    · rename_i c' d' cd' sl' ho
      intro A' Q' E' s' k q
      unfold isType loadHead
      exact wpAny_bind (wpAny_loadPart (k _ _ (X _ _ ho)) (wpAny_pure q))
    · cases hcD
  ne := fun h tp dd its n sl X htp => by
    obtain ⟨cdD, hcD, _⟩ := any_some C.hd
    refine Bool.eq_false_iff.mpr fun q => ?_
    obtain rfl : D = tp := Value.ref.inj (beq_iff_eq.mp q)
    unfold clsIn at hcD
    split at hcD
    · rename_i c' d' cd' sl' ho
      cases (X _ _ ho).symm.trans htp
    · cases hcD
  ca := fun X ⟨_, I⟩ k => fab_class C X I k
end
end PySem.W
namespace L2
open PySem PySem.Spec PyProof.Rows
/-- isinstance(e, c), isinstance(e, (c1, ..)): e the error that the suite holds, d its dict -/
def rIsX (K : PySem.W.Frag) (a : Addr) (cls : Value) (d : Option Addr) : List V → Hp → VK → Prop := fun xs H Q => ∃ (D dd : Addr) (fs : List (Str × V)) (c : V) (u : Value) (b : Bool), xs = [.ref a, c] ∧ cls = .ref D ∧ ExcC K D ∧ d = some dd ∧ H dd = some (.xd fs) ∧
  ClsV c u ∧ PySem.W.kitOne K (.ref D) u = some b ∧ Q (.bl b) H
def rIsXT (K : PySem.W.Frag) (a : Addr) (cls : Value) (d : Option Addr) : List V → Hp → VK → Prop := fun xs H Q => ∃ (D dd : Addr) (fs : List (Str × V)) (tp : Addr) (cs : List V) (us : List Value) (b : Bool), xs = [.ref a, .ref tp] ∧ cls = .ref D ∧ ExcC K D ∧ d = some dd ∧ H dd = some (.xd fs) ∧
  H tp = some (.tup cs) ∧ Paired ClsV cs us ∧ PySem.W.kitAny K (.ref D) us = some b ∧ Q (.bl b) H
section
variable {X : Cx} {a : Addr} {oe : Obj} {cls : Value} {d : Option Addr} {pn : List (Addr × Obj)}
theorem fab_inst {pins : List (Addr × Obj)} {σ : St} {H : Hp} {s : Shared} {D dd : Addr} {fs : List (Str × V)} (hz : Zc (.ref D) (some dd) oe) (hf : ∃ vs, oe.data = .fields vs) (I : Inv (X.suite a ((a, oe) :: pn)) pins σ H s) (ed : H dd = some (.xd fs)) :
    ∃ od, PySem.W.InstAt s.heap a oe D (some od) := by
  obtain ⟨hget, _⟩ := I.pin (a, oe) (List.mem_append.mpr (.inl List.mem_cons_self))
  obtain ⟨vs, hv⟩ := hf
  obtain ⟨mA, ⟨od, es, ep, ho, _⟩, _⟩ := (show ObjOk X.prog X.w H s.heap dd (.xd fs) from I.hok dd _ ed)
  exact ⟨od, hget, hz.1, by unfold PySem.W.notCls; rw [hv] <;> rfl, by rw [hz.2]; exact ho⟩
theorem call_isX (hz : Zc cls d oe) (hf : ∃ vs, oe.data = .fields vs) : CallR (X.suite a ((a, oe) :: pn)) (.builtin "isinstance") (rIsX X.K a cls d) := by
  intro pins s σ H xs us Q I r h
  obtain ⟨D, dd, fs, c, u, b, rfl, rfl, C, rfl, ed, k, e, q⟩ := h
  obtain ⟨u1, u2, rfl, r1, r2⟩ := vals2 r
  cases (show u1 = Value.ref a from r1)
  have e2 := k.eq r2
  subst e2
  obtain ⟨od, J⟩ := fab_inst hz hf I ed
  exact PySem.W.kia_one (PySem.W.fab_kit C) I.kIn ⟨od, J⟩ e (fun z => nomatch z) fun tk => ⟨.bl b, H, I.tok tk, rfl, q⟩
theorem call_isXT (hz : Zc cls d oe) (hf : ∃ vs, oe.data = .fields vs) : CallR (X.suite a ((a, oe) :: pn)) (.builtin "isinstance") (rIsXT X.K a cls d) := by
  intro pins s σ H xs us Q I r h
  obtain ⟨D, dd, fs, tp, cs, ws, b, rfl, rfl, C, rfl, ed, hT, k, e, q⟩ := h
  obtain ⟨u1, u2, rfl, r1, r2⟩ := vals2 r
  cases (show u1 = Value.ref a from r1)
  cases (show u2 = Value.ref tp from r2)
  obtain ⟨od, J⟩ := fab_inst hz hf I ed
  obtain ⟨_, its, rv, o, h1, h2, n, h3⟩ := (show ObjOk X.prog X.w H s.heap tp (.tup cs) from I.hok tp _ hT)
  have e3 := ClsV.all k rv
  subst e3
  obtain ⟨oc, odd, dt, sl⟩ := o
  simp only at h2 h3
  subst h2 h3
  exact PySem.W.kia_tup (PySem.W.fab_kit C) I.kIn ⟨od, J⟩ h1 e (fun z => nomatch z) fun tk => ⟨.bl b, H, I.tok tk, rfl, q⟩
end
end L2
set_option maxHeartbeats 4000000
/-! enumerate of a tuple; min, max of a tuple; in range(..); tuple * int of any number; is True, is False. -/
namespace PySem
namespace FabX
open Sem (wp)
open AutoSeq1 (wpAny_loadPart')
theorem draws_tup {prog : Program} {w : World} {A : Around} (hh : A.handled = none) (it l : Addr) (hne : l ≠ it) (items : Array Value) :
    Draws prog w A it [it, l] items.size (fun i v => items[i]? = some v) (fun i h => h.IsTupleIter it l i ∧ h.IsTuple l items) where
  live := fun _ _ ⟨⟨o, ho, _⟩, _⟩ => ⟨o, ho⟩
  frame := fun _ _ _ ⟨a, ⟨o, ho, r⟩⟩ hk => ⟨a.at fun o e => hk it (by simp) o e, ⟨o, hk l (by simp) o ho, r⟩⟩
  item := fun i s Q E hi ⟨a, b⟩ hQ => by
    refine RZ.nextOf_tuple_item a b (x := items[i]) (by simp [hi]) fun h' hit' hs' => hQ _ h' s.toks (by simp [hi]) ⟨hit', ?_⟩ hs'
    obtain ⟨o, ho, r⟩ := b
    exact ⟨o, hs'.extBut l o hne ho, r⟩
  done := fun s Q E ⟨a, b⟩ hE => RZ.nextOf_tuple_end hh a b (by simp) hE
theorem meets_enumerate_newT (l : Addr) (items : Array Value) (n : Nat) (dct : Option Addr) (sl : Array (Option Value)) :
    Meets (Builtin.«enumerate.__new__» ⟨[.type "enumerate", .ref l], []⟩) (fun _ R s => s.heap.get? l = some { cls := .type "tuple", dict := dct, data := .seq items n, slots := sl } ∧
      R (.ok (.ret (.ref (s.heap.push { cls := .type "tuple_iterator", data := .fields #[.ref l, .int 0 0] }).objs.size)))
        { s with heap := (s.heap.push { cls := .type "tuple_iterator", data := .fields #[.ref l, .int 0 0] }).push { cls := .type "enumerate", data := .fields #[.none, .bool false, .ref s.heap.objs.size, rawInt 0, .none, .none] } }) :=
  .of_wp fun prog w A R s h => by
    obtain ⟨hp, g, d, tk, os⟩ := s
    obtain ⟨hl, h⟩ := h
    have hsub := sub_enumerate
    have hT : Heap.IsTuple (Shared.heap ⟨hp, g, d, tk, os⟩) l items := ⟨_, hl, rfl, n, rfl⟩
    wp_walk using wpAny_loadPart' hl
    refine wpAny_stack_any fun st => wpAny_pure ?_
    split
    · rename_i c _ _ _ _ _
      cases (c == Value.type "enumerate") <;> (wp_walk using wpAny_loadPart' hl, wpAny_pyIter_tuple hT; exact ⟨_, rfl, h⟩)
    · wp_walk using wpAny_loadPart' hl, wpAny_pyIter_tuple hT
      exact ⟨_, rfl, h⟩
section
variable {prog : Program} {w : World} {A : Around} {E : Value → Shared → Prop} {s : Shared}
theorem call_enumerate_tup {l : Addr} {items : Array Value} {Q : Value → Shared → Prop} (hT : s.heap.IsTuple l items)
    (h : ∀ h', IsEnum h' (s.heap.objs.size + 1) s.heap.objs.size 0 .none → h'.IsTupleIter s.heap.objs.size l 0 →
      (∀ b o, s.heap.get? b = some o → h'.get? b = some o) → Q (.ref (s.heap.objs.size + 1)) { s with heap := h' }) :
    wpAny (model prog w) A (call (.type "enumerate") [.ref l]) Q E s := by
  obtain ⟨⟨c, dct, dt, sl⟩, hl, hc, n, hd⟩ := hT
  dsimp only at hc hd
  subst hc hd
  refine callType_new F.called_enumerate (by decide) (F.typeCall_enumerate_1 _) (F.newCall_enumerate_1 _) (fun obj => F.args_object_init_2 obj _) F.entry_enumerate_new
    (meets_enumerate_newT l items n dct sl) ⟨hl, ?_⟩
  have z : (s.heap.push { cls := .type "tuple_iterator", data := .fields #[.ref l, .int 0 0] }).objs.size = s.heap.objs.size + 1 := Heap.size_push ..
  show _ ∧ _
  rw [z]
  have he : IsEnum ((s.heap.push { cls := .type "tuple_iterator", data := .fields #[.ref l, .int 0 0] }).push
      { cls := .type "enumerate", data := .fields #[.none, .bool false, .ref s.heap.objs.size, rawInt 0, .none, .none] }) (s.heap.objs.size + 1) s.heap.objs.size 0 .none := by
    have y := Heap.get?_push_size (s.heap.push { cls := .type "tuple_iterator", data := .fields #[.ref l, .int 0 0] })
      (o := { cls := .type "enumerate", data := .fields #[.none, .bool false, .ref s.heap.objs.size, rawInt 0, .none, .none] }) rfl
    rw [z] at y
    exact y
  exact ⟨⟨_, he, rfl⟩, h _ he ⟨_, Heap.get?_push_of_some _ (Heap.get?_push_size _ rfl), rfl, rfl⟩ fun b o x => Heap.get?_push_of_some _ (Heap.get?_push_of_some _ x)⟩
end
end FabX
end PySem
namespace L2
open PySem PySem.Spec PyProof.Rows
/-! ### enumerate(tuple) -/
def ItTe (K : PySem.W.Frag) (a : Addr) : It :=
  ⟨fun i H => ∃ (xs : List V) (x : V), SqT K H a xs ∧ xs[i]? = some x, fun i H v H' => ∃ T x, v = .ref T ∧ H T = none ∧ H' = upd H T (.tup [.int (i : Nat), x]) ∧ ∀ xs, SqT K H a xs → xs[i]? = some x, fun i H => ∃ xs : List V, SqT K H a xs ∧ xs.length ≤ i⟩
theorem turn_enumT {P : Program} {w : World} {K : PySem.W.Frag} {elts : List Expr} {kk : Nat} {tpos : Pos} (a e it : Addr) :
    Turn P w K (.Tuple elts kk tpos) (ItTe K a) [e, it] e (fun i h => (∃ old, IsEnum h e it ((i : Nat) : Int) old) ∧ h.IsTupleIter it a i ∧ e ≠ it) where
  mem := by simp
  obj := fun i h ⟨⟨old, he⟩, ⟨o, ho, hc, hd⟩, _⟩ b hb => by
    rcases (show b = e ∨ b = it by simpa using hb) with rfl | rfl
    · exact ⟨_, he, fun v q => nomatch q⟩
    · exact ⟨o, ho, fun v q => by rw [hd] at q; cases q⟩
  keep := fun i h h' ⟨⟨old, he⟩, hi, hne⟩ k => ⟨⟨old, k e (by simp) _ he⟩, hi.at fun o q => k it (by simp) o q, hne⟩
  item := by
    intro X hP hw hK hc i pins s σ H E I hf st hg
    subst hP hw hK
    obtain ⟨⟨old, he⟩, hit, hne⟩ := st
    obtain ⟨xs, x, hq, hx⟩ := hg
    obtain ⟨its, rv, p, hz⟩ := I.tuple hq
    obtain ⟨u, hu, ru⟩ := rv.get hx
    have hel : e < s.heap.objs.size := Heap.lt_size he
    have hil : it < s.heap.objs.size := by obtain ⟨_, q, _⟩ := hit; exact Heap.lt_size q
    have ht : s.heap.IsTuple a its.toArray := p
    have ae : a ≠ e := fun z => by
      obtain ⟨o, ho, hc, _⟩ := ht
      rw [z, he] at ho
      cases ho
      exact absurd (Value.type.inj hc) (by decide)
    have ai : a ≠ it := fun z => by
      obtain ⟨o, ho, hc, _⟩ := ht
      obtain ⟨o2, ho2, hc2, _⟩ := hit
      rw [z, ho2] at ho
      cases ho
      rw [hc2] at hc
      exact absurd (Value.type.inj hc) (by decide)
    have hlt : i < its.toArray.size := by
      have y := List.getElem?_eq_some_iff.mp hu
      obtain ⟨y, _⟩ := y
      simpa using y
    refine wpAny_pyNext_enum_itemD (PySem.FabX.draws_tup (A := X.A.in1) (show X.A.in1.handled = none from I.ok.hd hc) it a ai its.toArray) he ⟨hit, ht⟩ hlt hne (by simp [hne, Ne.symm ae]) fun u' h' tk hu' ho ⟨hit', _⟩ hT hsz hk => ?_
    have eu : u' = u := by
      have y : its.toArray[i]? = some u := by simpa using hu
      exact Option.some.inj (hu'.symm.trans y)
    subst eu
    refine ⟨_, rfl, wpAny_letOwnedTupleGo_enum (s := { s with heap := h', toks := tk + 1 }) ho fun h'' he' sb => ?_⟩
    have hT2 : h''.get? s.heap.objs.size = some { cls := .type "tuple", data := .seq #[.int i tk, u'] } := (sb.2 _ (Nat.ne_of_gt hel)).trans hT
    have new : ObjOk X.prog X.w (upd H s.heap.objs.size (.tup [.int (i : Nat), x])) h'' s.heap.objs.size (.tup [.int (i : Nat), x]) :=
      ⟨by show 2 ≤ sizeLine; decide, [.int i tk, u'], .cons ⟨_, rfl⟩ (.cons ru .nil), ⟨_, hT2, rfl, _, rfl⟩⟩
    have I1 : Inv X pins σ (upd H s.heap.objs.size (.tup [.int (i : Nat), x])) { s with heap := h'', toks := tk + 1 } :=
      I.turnedNew (ch := [e, it]) (fun b ob hb q => (sb.2 b (fun z => hb (by simp [z]))).trans (hk b ob (fun z => hb (by simp [z])) (fun z => hb (by simp [z])) q)) hf (Nat.le_refl _) new
    refine ⟨.ref s.heap.objs.size, _, I1, rfl, ⟨_, x, rfl, I.hok.fresh (Nat.le_refl _), rfl, fun ys hy => by rw [I.tuple_inj hy hq]; exact hx⟩, ⟨⟨u', ?_⟩, hit'.at fun o q => (sb.2 it (Ne.symm hne)).trans q, hne⟩, fun b hb => ?_⟩
    · rw [show ((i + 1 : Nat) : Int) = (i : Int) + 1 by omega]
      exact he'
    · have lt : b < s.heap.objs.size := by
        rcases (show b = e ∨ b = it by simpa using hb) with rfl | rfl
        · exact hel
        · exact hil
      rw [upd_ne (Nat.ne_of_lt lt)]
      exact (hf b hb).1
  done := by
    intro X hP hw hK hc i pins s σ H E I hf st hg
    subst hP hw hK
    obtain ⟨⟨old, he⟩, hit, hne⟩ := st
    obtain ⟨xs, hq, hx⟩ := hg
    obtain ⟨its, rv, p, hz⟩ := I.tuple hq
    obtain ⟨f0, f1, f2, f3, f4, f5⟩ := hf it (by simp)
    have hl := rv.length
    have hT : s.TypeIs (.ref e) "enumerate" := ⟨_, he, rfl⟩
    unfold pyNext
    refine wpAny_bind (wpAny_attempt (wpAny_callSpecial?_slot (name := Str.ofString "__next__") hT F.slot_enumerate_next
      (wpAny_call_entry F.slot_enumerate_next hT F.entry_enumerate_next ?_ (F.args_enumerate_next_1 _))))
    show wpAny _ _ (field (.ref e) 2 >>= _) _ _ _
    refine wpAny_bind (wpAny_field he rfl (x := .ref it) rfl ?_)
    refine wpAny_bind (RZ.nextOf_tuple_end (show X.A.in1.handled = none from I.ok.hd hc) hit (show s.heap.IsTuple a its.toArray from p) (by simp; omega) fun h' x eb hx' => ?_)
    obtain ⟨o, ho, hc⟩ := hx'
    refine wpAny_bind (wpAny_isInstance (T := "StopIteration") (b := true) ⟨o, ho, hc⟩ isSubtype_stop ?_)
    exact wpAny_pure ⟨rfl, I.turned (t' := s.toks) (fun b o hb q => eb b o hb q) f0 f1 f3 f4 f5⟩
  self := fun A i s Q E ⟨⟨_, he⟩, _⟩ h => wpAny_pyIter_enum he h
def iEnumT (K : PySem.W.Frag) (ta : TA) : TI := fun σ H R => ta σ H fun vs H1 => ∃ a xs, vs = [.ref a] ∧ SqT K H1 a xs ∧ R (ItTe K a) H1
theorem pi_enumT {X : Cx} {e : Expr} {ta : TA} {p pos tpos : Pos} {elts : List Expr} {kk : Nat} (hg : Gl X "enumerate") (hm : X.mg "enumerate" = none) (ha : PA X [e] ta) (hs : starEach [e] X.env = [(false, eval e X.env)] := by rfl) :
    PI X (.Tuple elts kk tpos) (.Call (.Name "enumerate" p) [e] [] pos) (iEnumT X.K ta) := by
  refine ⟨fun pins s σ H R I h => ?_⟩
  refine Call_ (ld_blt I hg hm boot_enumerate (PyProof.Rows.callWith_type1 (thn (ha.run pos pins s σ H _ I h) fun us s1 ⟨vs, H1, I1, r1, a, xs, ex, hq, q⟩ => ?_) hs rfl))
  subst ex
  cases r1 with
  | cons r rr =>
    cases rr
    cases r
    obtain ⟨its, rv, p', hz⟩ := I1.tuple hq
    refine PySem.FabX.call_enumerate_tup p' fun h' he hit hk => wpAny_pyIter_enum he ?_
    refine ⟨s1.heap.objs.size + 1, [s1.heap.objs.size + 1, s1.heap.objs.size], _, _, H1, rfl, I1.kept (t' := s1.toks) hk, turn_enumT a (s1.heap.objs.size + 1) s1.heap.objs.size, ⟨⟨.none, he⟩, hit, Nat.succ_ne_self _⟩, fun b hb => ?_, q⟩
    have hle : s1.heap.objs.size ≤ b := by
      rcases (show b = s1.heap.objs.size + 1 ∨ b = s1.heap.objs.size by simpa using hb) with rfl | rfl
      · exact Nat.le_add_right _ _
      · exact Nat.le_refl _
    exact I1.fpOk hle (I1.hok.fresh hle)
/-- the loop over enumerate(tuple): Pv by the turn -/
theorem for_enumT {K : PySem.W.Frag} {a : Addr} {xs : List V} {g : TG} {tb : TS} {D : Ends} {σ : St} {H : Hp} (Pv : Nat → St → Hp → Prop) (h0 : Pv 0 σ H) (hl : ∀ i σ H, i ≤ xs.length → Pv i σ H → SqT K H a xs)
    (hs : ∀ i x σ H T, xs[i]? = some x → Pv i σ H → H T = none → g (.ref T) σ (upd H T (.tup [.int (i : Nat), x])) fun σ2 H2 => tb { D with nx := Pv (i + 1), ct := Pv (i + 1), bk := D.nx } σ2 H2) (hd : ∀ σ H, Pv xs.length σ H → D.nx σ H) :
    ∃ W : Nat → Nat → St → Hp → Prop, (∃ m, W 0 m σ H) ∧ ∀ i m σ H, W i m σ H →
      ((ItTe K a).stop i H ∧ D.nx σ H) ∨ ((ItTe K a).go i H ∧ ∃ Nx : St → Hp → Prop, (∀ σ' H', Nx σ' H' → ∃ m', m' < m ∧ W (i + 1) m' σ' H') ∧ ∀ x H', (ItTe K a).yld i H x H' → g x σ H' fun σ2 H2 => tb { D with nx := Nx, ct := Nx, bk := D.nx } σ2 H2) := by
  refine ⟨fun i m σ H => m = xs.length - i ∧ i ≤ xs.length ∧ Pv i σ H, ⟨xs.length, by simp, Nat.zero_le _, h0⟩, ?_⟩
  rintro i m σ H ⟨rfl, hi, p⟩
  have q := hl i σ H hi p
  by_cases hlt : i < xs.length
  · refine .inr ⟨⟨xs, xs[i], q, by simp [hlt]⟩, Pv (i + 1), fun σ' H' p' => ⟨xs.length - (i + 1), by omega, rfl, hlt, p'⟩, fun x H' y => ?_⟩
    obtain ⟨T, z, rfl, nT, rfl, y⟩ := y
    exact hs i z σ H T (y xs q) p nT
  · obtain rfl : i = xs.length := by omega
    exact .inl ⟨⟨xs, q, Nat.le_refl _⟩, hd σ H p⟩
end L2

/-! ### tuple * int -/
namespace L2
open PySem PySem.Spec PyProof.Rows
open AutoSeq1 (wpAny_loadPart')
theorem tup_mul_none (l : Addr) (items : Array Value) (n : Nat) (dd : Option Addr) (sl : Array (Option Value)) (x : Int) (u : Tok) (c0 : (decide (x < -(2 ^ 63)) || decide (x ≥ 2 ^ 63)) = false) (c1 : (items.isEmpty || x == 1) = false) (c2 : (decide (x ≤ 0) || items.isEmpty) = true) :
    Meets (Builtin.«tuple.__mul__» ⟨[.ref l, .int x u], []⟩) (fun _ R s => s.heap.get? l = some { cls := .type "tuple", dict := dd, data := .seq items n, slots := sl } ∧
      R (.ok (.ret (Value.ref s.heap.objs.size))) { s with heap := s.heap.push { cls := Value.type "tuple", data := Data.seq #[] }, toks := s.toks }) :=
  .of_wp fun prog w A R s h => by
    obtain ⟨hp, g, d, tk, os⟩ := s
    obtain ⟨hl, h⟩ := h
    have f1 := AutoSeq1.idx_int
    wp_walk using wpAny_loadPart' hl
    repeat (first
      | (refine wpAny_ite_false (decide_eq_false (by rw [c0]; exact Bool.false_ne_true)) ?_; wp_walk using wpAny_loadPart' hl)
      | (refine wpAny_ite_false (decide_eq_false (by rw [c1]; exact Bool.false_ne_true)) ?_; wp_walk using wpAny_loadPart' hl)
      | (rw [if_pos c2]; wp_walk using wpAny_loadPart' hl)
      | (refine wpAny_ite_true (decide_eq_true c2) ?_; wp_walk using wpAny_loadPart' hl)
      | (refine wpAny_ite_false (decide_eq_false (Nat.not_lt.mpr (Nat.zero_le _))) ?_; wp_walk using wpAny_loadPart' hl))
    exact ⟨_, rfl, h⟩
theorem tup_mul_self (l : Addr) (items : Array Value) (n : Nat) (dd : Option Addr) (sl : Array (Option Value)) (u : Tok) :
    Meets (Builtin.«tuple.__mul__» ⟨[.ref l, .int 1 u], []⟩) (fun _ R s => s.heap.get? l = some { cls := .type "tuple", dict := dd, data := .seq items n, slots := sl } ∧
      R (.ok (.ret (Value.ref l))) s) :=
  .of_wp fun prog w A R s h => by
    obtain ⟨hp, g, d, tk, os⟩ := s
    obtain ⟨hl, h⟩ := h
    have f1 := AutoSeq1.idx_int
    have c1 : (items.isEmpty || (1 : Int) == 1) = true := by simp
    wp_walk using wpAny_loadPart' hl
    repeat (first
      | (refine wpAny_ite_true (decide_eq_true c1) ?_; wp_walk using wpAny_loadPart' hl)
      | (rw [if_pos c1]; wp_walk using wpAny_loadPart' hl))
    exact ⟨_, rfl, h⟩
/-- (..) * k: the tuple is not empty; k may be any number that is no more than a million items -/
def rRepF (K : PySem.W.Frag) : R2 := fun x y H Q => ∃ l k xs, x = .ref l ∧ y = .int k ∧ SqT K H l xs ∧ xs ≠ [] ∧ -(2 ^ 62) ≤ k ∧ xs.length * k.toNat ≤ 1000000 ∧ (k = 1 → Q (.ref l) H) ∧ (k ≠ 1 → ∀ p, H p = none → Q (.ref p) (upd H p (.tup (List.replicate k.toNat xs).flatten)))
section
variable {X : Cx}
theorem op_repTF : OpR X (binaryOp .Mult) (rRepF X.K) := by
  intro pins s σ H x y v u Q I rx ry h
  obtain ⟨l, k, xs, rfl, rfl, hT, hne, h1, hz, q1, q2⟩ := h
  cases rx
  obtain ⟨t, rfl⟩ := ry
  obtain ⟨its, r, ⟨⟨cls, dd, data, sl⟩, ho, hc, n, hd⟩, hs⟩ := I.tuple hT
  simp only at hc hd
  subst hc hd
  have hle : its.length = xs.length := r.length.symm
  have hlen : 0 < xs.length := by
    cases xs with
    | nil => exact absurd rfl hne
    | cons a b => exact Nat.succ_pos _
  have hi : its.toArray.isEmpty = false := by
    cases its with
    | nil =>
      rw [← hle] at hlen
      exact absurd hlen (Nat.lt_irrefl _)
    | cons a b => rfl
  have kN : k.toNat ≤ 1000000 := Nat.le_trans (by
    have e := Nat.mul_le_mul_right k.toNat hlen
    rw [Nat.one_mul] at e
    exact e) hz
  have c0 : (decide (k < -(2 ^ 63)) || decide (k ≥ 2 ^ 63)) = false := by
    rw [decide_eq_false (by omega), decide_eq_false (by omega)] <;> rfl
  have core : ∀ {Q' : Value → Shared → Prop}, wpAny (model X.prog X.w) X.A (call (.builtin "tuple.__mul__") [.ref l, .int k t]) Q' X.xe s → wpAny (model X.prog X.w) X.A (binaryOp .Mult (.ref l) (.int k t)) Q' X.xe s := fun {Q'} hq =>
    wpAny_binaryOp_repeat_ref (T := "tuple") (U := "int") (by decide) ⟨_, ho, rfl⟩ (fun s' => typeIs_int s' k t) noFill_tuple_mul F.fills_int_mul F.slot_int_rmul repeat_tuple F.slot_int_index.lookup
      (call_meets F.slot_int_rmul (typeIs_int s k t) F.entry_int_rmul (F.args_int_rmul_2 _ _) (int_rmul_tuple k t l its.toArray n dd sl) ⟨ho, rfl, ⟨_, ho, rfl⟩, hq⟩)
  by_cases e1 : k = 1
  · subst e1
    exact core (call_meets F.slot_tuple_mul ⟨_, ho, rfl⟩ F.entry_tuple_mul (F.args_tuple_mul_2 _ _) (tup_mul_self l its.toArray n dd sl t) ⟨ho, ⟨.ref l, H, I, rfl, q1 rfl⟩⟩)
  · have c1 : (its.toArray.isEmpty || k == 1) = false := by
      rw [hi, Bool.false_or]
      exact beq_eq_false_iff_ne.mpr e1
    by_cases e0 : k ≤ 0
    · have c2 : (decide (k ≤ 0) || its.toArray.isEmpty) = true := by rw [decide_eq_true e0, Bool.true_or]
      refine core (call_meets F.slot_tuple_mul ⟨_, ho, rfl⟩ F.entry_tuple_mul (F.args_tuple_mul_2 _ _) (tup_mul_none l its.toArray n dd sl k t c0 c1 c2) ⟨ho, ?_⟩)
      have q := q2 e1 _ (I.hok.fresh (Nat.le_refl _))
      have ez : (List.replicate k.toNat xs).flatten = [] := by
        rw [show k.toNat = 0 by omega] <;> rfl
      rw [ez] at q
      exact ⟨.ref s.heap.objs.size, _, I.laid (t' := s.toks) (o := .tup []) (fun b ob q => Heap.get?_push_of_some _ q) (Nat.le_refl _) ⟨Nat.zero_le _, [], .nil, IsTup.new _ _⟩, rfl, q⟩
    · have c2 : (decide (k ≤ 0) || its.toArray.isEmpty) = false := by
        rw [hi, Bool.or_false]
        exact decide_eq_false e0
      have flen : ∀ ys : List Value, ys.length = xs.length → (List.replicate k.toNat ys).flatten.length ≤ sizeLine := fun ys hy => by
        rw [PyProof.Rows.lm_len_rep_flat, hy, sizeLine_eq]
        rw [Nat.mul_comm] at hz
        omega
      have flenV : (List.replicate k.toNat xs).flatten.length ≤ sizeLine := by
        rw [PyProof.Rows.lm_len_rep_flat, sizeLine_eq]
        rw [Nat.mul_comm] at hz
        omega
      have hm : ((its.toArray.size : Nat) : Int) * k ≤ 1000000 := by
        rw [List.size_toArray, hle]
        have e : (k.toNat : Int) = k := Int.toNat_of_nonneg (by omega)
        rw [← e]
        have z : ((xs.length * k.toNat : Nat) : Int) ≤ 1000000 := by omega
        rw [Int.natCast_mul] at z
        exact z
      have c4 : Builtin.Tuple.tupleTooMany (((its.toArray.size : Nat) : Int) * k) = false := by
        unfold Builtin.Tuple.tupleTooMany
        rw [sizeLine_eq]
        exact decide_eq_false (by omega)
      refine core (call_meets F.slot_tuple_mul ⟨_, ho, rfl⟩ F.entry_tuple_mul (F.args_tuple_mul_2 _ _) (tuple_mulW l its.toArray n dd sl k t c0 c1 c2 (by omega) c4 (by rw [size_rep, List.size_toArray]; exact flen _ hle)) ⟨ho, ?_⟩)
      rw [size_rep]
      exact ⟨.ref s.heap.objs.size, _, I.laid (t' := s.toks) (o := .tup (List.replicate k.toNat xs).flatten) (fun b ob q => Heap.get?_push_of_some _ q) (Nat.le_refl _) ⟨flenV, _, r.rep k.toNat, IsTup.new _ _⟩, rfl, q2 e1 _ (I.hok.fresh (Nat.le_refl _))⟩
/-! ### range as a value, not in -/
theorem cr_range1 : CallR X (.type "range") (fun vs H Q => ∃ j, vs = [V.int j] ∧ ∀ p, H p = none → Q (.ref p) (upd H p (.rng 0 j))) := by
  intro pins s σ H vs us Q I r h
  obtain ⟨j, rfl, q⟩ := h
  obtain ⟨u1, rfl, t, rfl⟩ := vals1 r
  refine call_range_1 ⟨.ref s.heap.objs.size, upd H s.heap.objs.size (.rng 0 j), I.laid (t' := s.toks + 1 + 1) (fun b o e => Heap.get?_push_of_some _ e) (Nat.le_refl _) ?_, rfl, q _ (I.hok.fresh (Nat.le_refl _))⟩
  exact ⟨s.toks, t, s.toks + 1, Heap.get?_push_size _ rfl⟩
def rNotInR : R2 := fun x y H Q => ∃ i a lo hi, x = V.int i ∧ y = V.ref a ∧ H a = some (.rng lo hi) ∧ Q (.bl (!decide (lo ≤ i ∧ i < hi))) H
theorem op_notInR : OpR X (compareOp .NotIn) rNotInR := by
  intro pins s σ H x y v u Q I rx ry h
  obtain ⟨i, a, lo, hi, rfl, rfl, ha, q⟩ := h
  obtain ⟨k, rfl⟩ := rx
  obtain rfl : u = Value.ref a := ry
  obtain ⟨t1, t2, t3, ho⟩ := I.hok a _ ha
  refine NotIn_slot (T := "range") ⟨_, ho, rfl⟩ F.slot_range_contains (call_meets F.slot_range_contains ⟨_, ho, rfl⟩ F.entry_range_contains (F.args_range_contains_2 _ _) (q_contains a lo hi i t1 t2 t3 k)
    ⟨ho, wpAny_truthy_bool ⟨.bl _, H, I, rfl, ?_⟩⟩)
  rw [place1]
  exact q
/-! ### is True, is False, of any value that the layer has -/
def rIsC : R2 := fun x y H Q => ∃ b : Bool, y = .bl b ∧ Q (.bl (decide (x = .bl b))) H
theorem op_isB : OpR X (compareOp .Is) rIsC := by
  intro pins s σ H x y v u Q I rx ry h
  obtain ⟨b, rfl, q⟩ := h
  obtain rfl : u = Value.bool b := ry
  have other : plainIs v (.bool b) = true → v ≠ .bool b → x ≠ .bl b → wpAny (model X.prog X.w) X.A (compareOp .Is v (.bool b)) (EP X pins σ Q) X.xe s := fun hp hne hx => by
    rw [decide_eq_false hx] at q
    exact wpAny_is_other hp hne ⟨.bl false, H, I, rfl, q⟩
  cases x with
  | non => obtain rfl : v = Value.none := rx; exact other rfl (fun z => nomatch z) (fun z => nomatch z)
  | bl a =>
    obtain rfl : v = Value.bool a := rx
    by_cases e : a = b
    · subst e
      rw [decide_eq_true rfl] at q
      exact wpAny_is_self rfl ⟨.bl true, H, I, rfl, q⟩
    · exact other rfl (fun z => e (Value.bool.inj z)) (fun z => e (V.bl.inj z))
  | int i => obtain ⟨t, rfl⟩ := rx; exact other rfl (fun z => nomatch z) (fun z => nomatch z)
  | str i => obtain ⟨t, rfl⟩ := rx; exact other rfl (fun z => nomatch z) (fun z => nomatch z)
  | byt i => obtain ⟨t, rfl⟩ := rx; exact other rfl (fun z => nomatch z) (fun z => nomatch z)
  | flt i => obtain ⟨t, rfl⟩ := rx; exact other rfl (fun z => nomatch z) (fun z => nomatch z)
  | ref a => obtain rfl : v = Value.ref a := rx; exact other rfl (fun z => nomatch z) (fun z => nomatch z)
  | ty n => obtain rfl : v = Value.type n := rx; exact other rfl (fun z => nomatch z) (fun z => nomatch z)
end
/-! ### min, max of a tuple of ints -/
section
variable {prog : Program} {w : World} {A : Around} {E : Value → Shared → Prop} {s : Shared} {l : Addr} {its : List Value} {ns : List Int}
theorem tup_iter {xs : Array Value} {Q : Value → Shared → Prop} (hl : s.heap.IsTuple l xs)
    (h : ∀ s₂ : Shared, s₂ = { s with heap := s.heap.push { cls := .type "tuple_iterator", data := .fields #[.ref l, .int 0 0] } } →
      (s₂.heap.IsTupleIter s.heap.objs.size l 0 ∧ s₂.heap.IsTuple l xs) → (∀ b ∈ [s.heap.objs.size, l], b < s₂.heap.objs.size) → l ≠ s.heap.objs.size → Q (.ref s.heap.objs.size) s₂) :
    wpAny (model prog w) A (pyIter (.ref l)) Q E s := by
  have hlt : l < s.heap.objs.size := by obtain ⟨_, e, _⟩ := hl; exact Heap.lt_size e
  refine wpAny_pyIter_tuple hl (h _ rfl ⟨⟨_, Heap.get?_push_size _ rfl, rfl, rfl⟩, hl.at fun o e => Heap.get?_push_of_some _ e⟩ (fun b hb => ?_) (Nat.ne_of_lt hlt))
  show b < (s.heap.push _).objs.size
  rw [Heap.size_push]
  rcases (show b = s.heap.objs.size ∨ b = l by simpa using hb) with rfl | rfl
  · exact Nat.lt_succ_self _
  · exact Nat.lt_succ_of_lt hlt
theorem keeps_iter {h' : Heap} {o : Obj} (hk : ∀ b u, b ∉ [s.heap.objs.size] → (s.heap.push o).get? b = some u → h'.get? b = some u) : ∀ b u, s.heap.get? b = some u → h'.get? b = some u := fun b u e =>
  hk b u (fun hm => by
    rw [List.mem_singleton] at hm
    exact absurd (hm ▸ Heap.lt_size e) (Nat.lt_irrefl _)) (Heap.get?_push_of_some _ e)
theorem min_tup {Q : Value → Shared → Prop} (hh : A.handled = none) (hl : s.heap.IsTuple l its.toArray) (hi : IntsAre its ns) (hne : 0 < ns.length)
    (h : ∀ h' tk M t', (∀ b o, s.heap.get? b = some o → h'.get? b = some o) → M ∈ ns → (∀ a, a ∈ ns → M ≤ a) → Q (.int M t') { s with heap := h', toks := tk }) : wpAny (model prog w) A (call (.builtin "min") [.ref l]) Q E s := by
  obtain ⟨xs, e⟩ := hi.allInts.items
  have hn : numsOf (intItems xs).toList = ns := by rw [← e]; exact hi.numsOf
  rw [nums_intItems] at hn
  subst hn
  rw [e] at hl
  have hsz : 0 < xs.size := by simpa using hne
  refine call_min_walk (tup_iter hl fun s₂ e st hfp hlI => ?_)
  subst e
  refine ⟨_, _, _, _, _, _, _, rfl, Walks.tuple (A := A.in1) hh _ l hlI (intItems xs), st, hfp, by simpa [intItems] using hsz, CmpOf.ints_lt (numAt xs) (fun _ _ => intItems_at), fun v h' tk hP hk => ?_⟩
  have hP' : (intItems xs)[argBest (fun i j => decide (numAt xs i < numAt xs j)) (xs.size - 1)]? = some v := by simpa [intItems] using hP
  obtain ⟨t, rfl⟩ := intItems_at hP'
  obtain ⟨h1, h2⟩ := argBest_lt (numAt xs) (xs.size - 1)
  refine h h' tk _ t (keeps_iter hk) ?_ fun a ha => ?_
  · rw [numAt_eq]; exact PySem.getD_mem (by rw [List.length_map, Array.length_toList]; omega)
  · obtain ⟨j, hj, rfl⟩ := mem_getD ha
    rw [List.length_map, Array.length_toList] at hj
    rw [← numAt_eq]; exact h2 j (by omega)
theorem max_tup {Q : Value → Shared → Prop} (hh : A.handled = none) (hl : s.heap.IsTuple l its.toArray) (hi : IntsAre its ns) (hne : 0 < ns.length)
    (h : ∀ h' tk M t', (∀ b o, s.heap.get? b = some o → h'.get? b = some o) → M ∈ ns → (∀ a, a ∈ ns → a ≤ M) → Q (.int M t') { s with heap := h', toks := tk }) : wpAny (model prog w) A (call (.builtin "max") [.ref l]) Q E s := by
  obtain ⟨xs, e⟩ := hi.allInts.items
  have hn : numsOf (intItems xs).toList = ns := by rw [← e]; exact hi.numsOf
  rw [nums_intItems] at hn
  subst hn
  rw [e] at hl
  have hsz : 0 < xs.size := by simpa using hne
  refine call_max_walk (tup_iter hl fun s₂ e st hfp hlI => ?_)
  subst e
  refine ⟨_, _, _, _, _, _, _, rfl, Walks.tuple (A := A.in1) hh _ l hlI (intItems xs), st, hfp, by simpa [intItems] using hsz, CmpOf.ints_gt (numAt xs) (fun _ _ => intItems_at), fun v h' tk hP hk => ?_⟩
  have hP' : (intItems xs)[argBest (fun i j => decide (numAt xs i > numAt xs j)) (xs.size - 1)]? = some v := by simpa [intItems] using hP
  obtain ⟨t, rfl⟩ := intItems_at hP'
  obtain ⟨h1, h2⟩ := argBest_gt (numAt xs) (xs.size - 1)
  refine h h' tk _ t (keeps_iter hk) ?_ fun a ha => ?_
  · rw [numAt_eq]; exact PySem.getD_mem (by rw [List.length_map, Array.length_toList]; omega)
  · obtain ⟨j, hj, rfl⟩ := mem_getD ha
    rw [List.length_map, Array.length_toList] at hj
    rw [← numAt_eq]; exact h2 j (by omega)
end
section
variable {X : Cx}
def rMaxT (K : PySem.W.Frag) : List V → Hp → VK → Prop := fun vs H Q => ∃ (a : Addr) (ns : List Int), vs = [V.ref a] ∧ SqT K H a (ns.map V.int) ∧ 0 < ns.length ∧ ∀ m, m ∈ ns → (∀ y, y ∈ ns → y ≤ m) → Q (.int m) H
def rMinT (K : PySem.W.Frag) : List V → Hp → VK → Prop := fun vs H Q => ∃ (a : Addr) (ns : List Int), vs = [V.ref a] ∧ SqT K H a (ns.map V.int) ∧ 0 < ns.length ∧ ∀ m, m ∈ ns → (∀ y, y ∈ ns → m ≤ y) → Q (.int m) H
theorem cr_maxT (hc : X.calm = true) : CallR X (.builtin "max") (rMaxT X.K) := by
  intro pins s σ H vs us Q I r h
  obtain ⟨a, ns, rfl, hs, hne, q⟩ := h
  obtain ⟨its, rv, hl, _⟩ := I.tuple hs
  rw [Vals.ref1 r]
  exact max_tup (I.ok.hd hc) hl rv.ints hne fun h' tk m t' hk h1 h2 => ⟨.int _, H, I.kept hk, ⟨_, rfl⟩, q m h1 h2⟩
theorem cr_minT (hc : X.calm = true) : CallR X (.builtin "min") (rMinT X.K) := by
  intro pins s σ H vs us Q I r h
  obtain ⟨a, ns, rfl, hs, hne, q⟩ := h
  obtain ⟨its, rv, hl, _⟩ := I.tuple hs
  rw [Vals.ref1 r]
  exact min_tup (I.ok.hd hc) hl rv.ints hne fun h' tk m t' hk h1 h2 => ⟨.int _, H, I.kept hk, ⟨_, rfl⟩, q m h1 h2⟩
end
end L2
set_option maxHeartbeats 4000000
/-! The head's facts: defs by names, the errors' classes, what else is asked of the written part. -/
namespace FabH
open PySem PySem.Spec PyProof.Rows L2 He
open PySem.FabX (iA iB iS ErrTxt)
/-- the function object of the module's name x -/
def fdOf (K : PySem.W.Frag) (x : Str) : FuncData := match K.lookup (ga K x) with
  | some ⟨_, _, .func fd, _⟩ => fd
  | _ => default
/-- a def of the text by its name -/
structure GF (K : PySem.W.Frag) (mg : Str → Option Value) (x : Str) (st : Stmt) : Prop where
  g : mg x = some (.ref (ga K x))
  f : FunD K x x (defArgs st) (defBody st) (defScope st) [] [] (ga K x) (fdOf K x)
/-- an error's class in the text: its name, its field, where its __init__ stands -/
structure ErrD where
  x : Str
  fl : Str
  msg : Str
  qual : Str
  p1 : Pos
  p2 : Pos
  q0 : Pos
  q1 : Pos
  q2 : Pos
  q3 : Pos
  q4 : Pos
  q5 : Pos
  q6 : Pos
  q7 : Pos
  q8 : Pos
  q9 : Pos
def ErrD.params (d : ErrD) : Arguments := iA d.fl d.p1 d.p2
def ErrD.body (d : ErrD) : List Stmt := iB d.fl d.msg d.q0 d.q1 d.q2 d.q3 d.q4 d.q5 d.q6 d.q7 d.q8 d.q9
structure ErrD.Good (d : ErrD) : Prop where
  fl : PySem.FabX.flOk d.fl = true
  line : (d.q2.endLine == d.q4.line) = true
  bind : ∀ (cc : Addr) (doc pm : Value) (an : Option Addr) (cdv ct : Value) (x : Addr) (v : Value), bindArgs (PySem.W.fnX "__init__" d.qual d.params d.body (iS d.fl) [("__class__", cc)] .none .none doc pm an cdv ct) ⟨[.ref x, v], []⟩ = pure [(("self" : Str), Value.ref x), (d.fl, v)]
def initOf (K : PySem.W.Frag) (x : Str) : Addr := ma K (ga K x) "__init__"
def ccOf (K : PySem.W.Frag) (x : Str) : Addr := match K.lookup (initOf K x) with
  | some ⟨_, _, .func fd, _⟩ => (match fd.closure with
    | [(_, c)] => c
    | _ => 0)
  | _ => 0
def cdaOf (K : PySem.W.Frag) (x : Str) : Addr := match K.lookup (initOf K x) with
  | some ⟨_, _, .func fd, _⟩ => (match fd.code with
    | .ref c => c
    | _ => 0)
  | _ => 0
def clsB (K : PySem.W.Frag) (C : Addr) : Bool := match K.lookup C with
  | some ⟨.type "type", _, .cls cd, sl⟩ => (match cd.mro, sl.toList with
    | .ref C' :: bm, [_, _, _, _, some (.builtin n), _] => C' == C && (n == "ValueError.__new__" && (!cd.hasDel && (cd.hasDict && PySem.HandSPX.refsVE bm)))
    | _, _ => false)
  | _ => false
theorem clsB_ok {K : PySem.W.Frag} {C : Addr} (h : clsB K C = true) :
    ∃ nm q N bs bm sn sub ab col dd k0 k1 k2 k3 k5, K.lookup C = some (excClassObj nm q C N bs bm true sn sub ab col dd k0 k1 k2 k3 k5 "ValueError.__new__") ∧ PySem.HandSPX.refsVE bm = true := by
  unfold clsB at h
  split at h
  · rename_i dd cd sl ho
    split at h
    · rename_i C' bm k0 k1 k2 k3 n k5 hm hs
      simp only [Bool.and_eq_true, beq_iff_eq, Bool.not_eq_true'] at h
      obtain ⟨rfl, rfl, hdel, hdct, hr⟩ := h
      obtain ⟨nm, bs, mro, ns, qn, hd, sn, sub, ab, col, del⟩ := cd
      dsimp only at hm hdel hdct
      subst hm hdel hdct
      obtain ⟨l⟩ := sl
      simp only at hs
      subst hs
      exact ⟨nm, qn, ns, bs, bm, sn, sub, ab, col, dd, k0, k1, k2, k3, k5, ho, hr⟩
    · cases h
  · cases h
abbrev FnC : Type := Option (Str × Str × Arguments × FuncBody × Scope × Addr × List Str × Addr)
def fnC (K : PySem.W.Frag) (x : Str) : FnC := match K.lookup (initOf K x) with
  | some ⟨_, _, .func fd, _⟩ => some (fd.name, fd.qualname, fd.params, fd.body, fd.scope, fd.globals, fd.closure.map (·.1), fd.builtins)
  | _ => none
def ErrD.val (d : ErrD) : FnC := some ("__init__", d.qual, d.params, .stmts d.body, iS d.fl, mainGlobals, ["__class__"], builtinsNs)
/-- what of the __init__ is looked at besides: no defaults, its code, its cell -/
def initB (K : PySem.W.Frag) (file : Str) (d : ErrD) : Bool := match K.lookup (initOf K d.x) with
  | some ⟨_, _, .func fd, _⟩ => (match fd.defaults, fd.kwdefaults, fd.closure, fd.code with
    | .none, .none, [(_, cc)], .ref cda => PySem.W.codeIn K (.ref cda) d.qual && ((match K.lookup cc with
        | some ⟨_, _, .cell (some (.ref D)), _⟩ => decide (D = ga K d.x)
        | _ => false) && (match K.lookup cda with
        | some ⟨_, _, .fields (vs : Array Value), _⟩ => (match (vs[2]? : Option Value) with
          | some (Value.str f _) => decide (f = file)
          | _ => false)
        | _ => false))
    | _, _, _, _ => false)
  | _ => false
def oV (a b : Option Value) : Bool := decide (a = b)
def oB (a : Option Bool) (b : Bool) : Bool := decide (a = some b)
def errB (K : PySem.W.Frag) (file : Str) (d : ErrD) : Bool :=
  clsB K (ga K d.x) && (initB K file d && (eqO (PySem.W.findIn K (.ref (ga K d.x)) "__setattr__") (some (some (.builtin "object.__setattr__"))) && (eqO (PySem.W.findIn K (.ref (ga K d.x)) d.fl) (some none) &&
  (eqO (PySem.W.findIn K (.ref (ga K d.x)) "__init__") (some (some (.ref (initOf K d.x)))) && (oV (PySem.W.typeIn K (.ref (initOf K d.x))) (some (.type "function")) && (PySem.W.keepIn K (.ref (ga K d.x)) &&
  (oB (PySem.W.subIn K (.ref (ga K d.x)) (.type "BaseException")) true && (oV (PySem.W.typeIn K (.ref (ga K d.x))) (some (.type "type")) && (oB (PySem.W.subIn K (.ref (ga K d.x)) (.type "ValueError")) true &&
  (oB (PySem.W.mroIn K (ga K d.x) (.ref (ga K d.x))) true && (eqO (PySem.W.ks_superIn K (ga K d.x) (ga K d.x) "__init__") (some (some (.builtin "ValueError.__init__"))) && eqO (PySem.W.nsIn K cStatics "thirdparty.any") (some none))))))))))))
/-- what isinstance and an except suite ask of a class -/
def suiteB (K : PySem.W.Frag) (x : Str) : Bool :=
  eqO (PySem.W.findIn K (.ref (ga K x)) "__getattribute__") (some (some (.builtin "BaseException.__getattribute__"))) && (eqO (PySem.W.findIn K (.ref (ga K x)) "__getattr__") (some none) && (oB (PySem.W.subIn K (.ref (ga K x)) (.type "BaseException")) true &&
  (PySem.W.hasDictIn K (ga K x) && (eqO (PySem.W.findIn K (.ref (ga K x)) "__class__") (some (some (.builtin "object.__class__"))) && (eqO (PySem.W.specialIn K (.builtin "object.__class__") "__get__") (some (some (.builtin "getset_descriptor.__get__"))) &&
  (oB (PySem.W.takesIn K (.builtin "object.__class__")) true && oB (PySem.W.mroIn K (ga K x) (.type "object")) true))))))
theorem suiteB_ok {K : PySem.W.Frag} {x : Str} (h : suiteB K x = true) : ExcC K (ga K x) ∧ XfC K (ga K x) := by
  obtain ⟨h1, h⟩ := ba h
  obtain ⟨h2, h⟩ := ba h
  obtain ⟨h3, h⟩ := ba h
  obtain ⟨h4, h⟩ := ba h
  obtain ⟨h5, h⟩ := ba h
  obtain ⟨h6, h⟩ := ba h
  obtain ⟨h7, h8⟩ := ba h
  exact ⟨⟨eqO_ok h1, eqO_ok h2, of_decide_eq_true h3, h4, eqO_ok h5, eqO_ok h6, of_decide_eq_true h7, of_decide_eq_true h8⟩, ⟨eqO_ok h1, eqO_ok h2, of_decide_eq_true h3, h4⟩⟩
theorem errB_ok {K : PySem.W.Frag} {file : Str} {d : ErrD} (g : d.Good) (e : fnC K d.x = d.val) (h : errB K file d = true) : ErrTxt K file d.fl (ga K d.x) (initOf K d.x) (ccOf K d.x) (cdaOf K d.x) := by
  obtain ⟨h1, h⟩ := ba h
  obtain ⟨h2, h⟩ := ba h
  obtain ⟨h3, h⟩ := ba h
  obtain ⟨h4, h⟩ := ba h
  obtain ⟨h5, h⟩ := ba h
  obtain ⟨h6, h⟩ := ba h
  obtain ⟨h7, h⟩ := ba h
  obtain ⟨h8, h⟩ := ba h
  obtain ⟨h9, h⟩ := ba h
  obtain ⟨h10, h⟩ := ba h
  obtain ⟨h11, h⟩ := ba h
  obtain ⟨h12, h13⟩ := ba h
  unfold initB at h2
  unfold fnC at e
  cases q : K.lookup (initOf K d.x) with
  | none =>
    rw [q] at h2
    cases h2
  | some o =>
    obtain ⟨oc, od, dt, osl⟩ := o
    rw [q] at h2 e
    cases dt with
    | func fd =>
      obtain ⟨n1, n2, n3, n4, n5, n6, n7, n8, n9, n10, n11, n12, n13, n14, n15⟩ := fd
      have e2 : (some (n1, n2, n3, n4, n5, n6, n7.map (·.1), n15) : FnC) = (some ("__init__", d.qual, d.params, .stmts d.body, iS d.fl, mainGlobals, ["__class__"], builtinsNs) : FnC) := e
      simp only [Option.some.injEq, Prod.mk.injEq] at e2
      obtain ⟨e1, e2, e3, e4, e5, e6, e7, e8⟩ := e2
      subst e1 e2 e3 e4 e5 e6 e8
      dsimp only at h2
      split at h2
      · rename_i cn cc cda
        obtain ⟨c1, c2⟩ := ba h2
        obtain ⟨c3, c4⟩ := ba c2
        have ecn : cn = ("__class__" : Str) := by simpa using e7
        subst ecn
        have hcc : ccOf K d.x = cc := by
          unfold ccOf
          rw [q]
        have hcda : cdaOf K d.x = cda := by
          unfold cdaOf
          rw [q]
        rw [hcc, hcda]
        refine { cls := clsB_ok h1, sa := eqO_ok h3, noN := eqO_ok h4, iC := eqO_ok h5, tC := of_decide_eq_true h6, kC := h7, exC := of_decide_eq_true h8, tyC := of_decide_eq_true h9, ve := of_decide_eq_true h10, mro := of_decide_eq_true h11, sup := eqO_ok h12, opq := eqO_ok h13, cell := ?_, code := ?_, fn := ?_ }
        · split at c3
          · rename_i y1 y2 D y3 hk
            have eD : D = ga K d.x := of_decide_eq_true c3
            rw [eD] at hk
            exact ⟨_, _, _, hk⟩
          · cases c3
        · split at c4
          · rename_i y1 y2 vs y3 hk
            split at c4
            · rename_i f tf hf
              have ef : f = file := of_decide_eq_true c4
              rw [ef] at hf
              exact ⟨_, _, _, _, _, hk, hf⟩
            · cases c4
          · cases c4
        · exact ⟨oc, od, d.qual, d.msg, _, _, _, _, osl, d.p1, d.p2, d.q0, d.q1, d.q2, d.q3, d.q4, d.q5, d.q6, d.q7, d.q8, d.q9, q, c1, g.line, fun x v => g.bind _ _ _ _ _ _ x v⟩
      · cases h2
    | _ => cases h2
/-! ### the Hook -/
abbrev AlF : Type := Bool × List FnW × List FnC
def obsF (fa : List Fa) (fn : List DefD) (file : Str) (er : List ErrD) (ex : PySem.W.Frag → Bool) (K : PySem.W.Frag) : AlF :=
  ((fa.all fun f => f.ok K) && ((fn.all fun d => d.ok K) && ((er.all fun d => errB K file d) && ex K)), fn.map fun d => fnW K d.at_, er.map fun d => fnC K d.x)
def valF (fn : List DefD) (er : List ErrD) : AlF := (true, fn.map DefD.val, er.map ErrD.val)
def SaysF (fa : List Fa) (fn : List DefD) (file : Str) (er : List ErrD) (ex : PySem.W.Frag → Bool) (K : PySem.W.Frag) : Prop := obsF fa fn file er ex K = valF fn er
def asF (g : Addr → Option Obj) (n : Nat) : List Addr := cStatics :: asD g n
def obsFG (n : Nat) (fa : List Fa) (fn : List DefD) (file : Str) (er : List ErrD) (ex : PySem.W.Frag → Bool) (g : Addr → Option Obj) : AlF := obsF fa fn file er ex (frG g (asF g n))
def hookF (n : Nat) (fa : List Fa) (fn : List DefD) (file : Str) (er : List ErrD) (ex : PySem.W.Frag → Bool) : PySem.W.Hook where
  α := AlF
  obs := fun s => obsFG n fa fn file er ex s.heap.get?
  val := fun _ => valF fn er
  says := fun _ h => ∃ K : PySem.W.Frag, K.In h ∧ SaysF fa fn file er ex K
  of := fun _ _ e => ⟨_, frG_in, e⟩
  keeps := fun _ _ _ ⟨K, hK, c⟩ k => ⟨K, PySem.W.Frag.In.keeps hK k, c⟩
theorem obsFG_eq {n : Nat} {fa : List Fa} {fn : List DefD} {file : Str} {er : List ErrD} {ex : PySem.W.Frag → Bool} {g : Addr → Option Obj} {s : Shared} (h : ∀ a, g a = s.heap.get? a) : obsFG n fa fn file er ex g = (hookF n fa fn file er ex).obs s := by
  have e : g = s.heap.get? := funext h
  rw [e] <;> rfl
section
variable {fa : List Fa} {fn : List DefD} {file : Str} {er : List ErrD} {ex : PySem.W.Frag → Bool} {K : PySem.W.Frag} {h : Heap} {mg : Str → Option Value}
theorem SaysF.bools (c : SaysF fa fn file er ex K) : (fa.all fun f => f.ok K) = true ∧ (fn.all fun d => d.ok K) = true ∧ (er.all fun d => errB K file d) = true ∧ ex K = true := by
  obtain ⟨h1, h⟩ := ba (congrArg (fun z : AlF => z.1) c)
  obtain ⟨h2, h⟩ := ba h
  obtain ⟨h3, h4⟩ := ba h
  exact ⟨h1, h2, h3, h4⟩
theorem SaysF.fact (c : SaysF fa fn file er ex K) (i : Nat) {f : Fa} (h : fa[i]? = some f) : f.ok K = true := List.all_eq_true.mp c.bools.1 f (List.mem_of_getElem? h)
theorem SaysF.err (c : SaysF fa fn file er ex K) (i : Nat) {d : ErrD} (h : er[i]? = some d) (g : d.Good) : ErrTxt K file d.fl (ga K d.x) (initOf K d.x) (ccOf K d.x) (cdaOf K d.x) := by
  have e : er.map (fun d => fnC K d.x) = er.map ErrD.val := congrArg (fun z : AlF => z.2.2) c
  have e2 : (er.map fun d => fnC K d.x)[i]? = (er.map ErrD.val)[i]? := by rw [e]
  rw [List.getElem?_map, List.getElem?_map, h] at e2
  exact errB_ok g (Option.some.inj e2) (List.all_eq_true.mp c.bools.2.2.1 d (List.mem_of_getElem? h))
theorem SaysF.def_ (c : SaysF fa fn file er ex K) (i : Nat) {d : DefD} (h : fn[i]? = some d) : ∃ fd, FunD K d.name d.qual d.params d.body d.scope (d.dvs K) (d.kws K) (fAd K d.at_) fd := by
  have e : fn.map (fun d => fnW K d.at_) = fn.map DefD.val := congrArg (fun z : AlF => z.2.1) c
  have e2 : (fn.map fun d => fnW K d.at_)[i]? = (fn.map DefD.val)[i]? := by rw [e]
  rw [List.getElem?_map, List.getElem?_map, h] at e2
  exact DefD.funD (Option.some.inj e2) (List.all_eq_true.mp c.bools.2.1 d (List.mem_of_getElem? h))
/-- a plain def of the module -/
def dOf (x : Str) (st : Stmt) : DefD := ⟨(x, none), x, x, defArgs st, defBody st, defScope st, [], []⟩
theorem SaysF.gf (X : K.In h) (G : h.Ns mainGlobals mg) (c : SaysF fa fn file er ex K) (i j : Nat) {x : Str} {st : Stmt} (hd : fn[i]? = some (dOf x st)) (hf : fa[j]? = some (.glo x)) : GF K mg x st := by
  obtain ⟨fd, F⟩ := c.def_ i hd
  have e : fdOf K x = fd := by
    obtain ⟨oc, od, dV, kV, doc, pm, an, cdv, ct, osl, _, lk, _⟩ := F.ex
    unfold fdOf
    rw [show K.lookup (ga K x) = _ from lk]
  refine ⟨glo_ok X G (c.fact j hf), ?_⟩
  rw [e]
  exact F
end
end FabH
set_option maxHeartbeats 4000000
/-! Pools of draws as closed things: a list of four ints of which nothing else is told. -/
namespace L2
open PySem PySem.Spec PyProof.Rows
def Ints4 (xs : List V) : Prop := ∃ k c s n : Int, xs = [.int k, .int c, .int s, .int n]
def poolO (a : Addr) : HO := .ext fun h => ∃ xs, Ints4 xs ∧ ∃ (its : List Value) (n : Nat), Vals xs its ∧ h.get? a = some { cls := .type "list", data := .seq its.toArray n }
def IsPool (H : Hp) (a : Addr) : Prop := H a = some (poolO a)
theorem Ints4.len {xs : List V} (h : Ints4 xs) : xs.length ≤ sizeLine := by
  obtain ⟨k, c, s, n, rfl⟩ := h
  show 4 ≤ sizeLine
  rw [sizeLine_eq]
  decide
theorem pool_ne_lst {a : Addr} {xs : List V} : poolO a ≠ .lst xs := fun z => by
  have z' : HO.ext _ = HO.lst xs := z
  cases z'
theorem pool_ne_tup {a : Addr} {xs : List V} : poolO a ≠ .tup xs := fun z => by
  have z' : HO.ext _ = HO.tup xs := z
  cases z'
theorem pool_ne_own {a x : Addr} : poolO a ≠ .own x := fun z => by
  have z' : HO.ext _ = HO.own x := z
  cases z'
theorem pool_ne_frz {a : Addr} {o : Obj} {u : HO} : poolO a ≠ .frz o u := fun z => by
  have z' : HO.ext _ = HO.frz o u := z
  cases z'
theorem pool_ne_tbl {a : Addr} {ps : Array Value} : poolO a ≠ .tbl ps := fun z => by
  have z' : HO.ext _ = HO.tbl ps := z
  cases z'
theorem IsPool.not {H : Hp} {a : Addr} {o : HO} (h : H a = some o) (n : poolO a ≠ o) : ¬ IsPool H a := fun z => by
  have z' : H a = some (poolO a) := z
  rw [h] at z'
  exact n (Option.some.inj z').symm
/-- H with its pools opened -/
structure Opened (H H1 : Hp) : Prop where
  on : ∀ a, IsPool H a → ∃ xs, Ints4 xs ∧ H1 a = some (.lst xs)
  off : ∀ a, ¬ IsPool H a → H1 a = H a
theorem Opened.at {H H1 : Hp} {a : Addr} {o : HO} (x : Opened H H1) (h : H a = some o) (n : poolO a ≠ o) : H1 a = some o := (x.off a (IsPool.not h n)).trans h
theorem Opened.free {H H1 : Hp} {a : Addr} (x : Opened H H1) (h : H a = none) : H1 a = none := (x.off a fun z => by
  have z' : H a = some (poolO a) := z
  rw [h] at z'
  cases z').trans h
theorem Opened.back {H H1 : Hp} {a : Addr} (x : Opened H H1) (h : H1 a = none) : H a = none := by
  by_cases p : IsPool H a
  · obtain ⟨xs, _, e⟩ := x.on a p
    rw [e] at h
    cases h
  · rw [← x.off a p]
    exact h
theorem Opened.back_at {H H1 : Hp} {a : Addr} {o : HO} (x : Opened H H1) (h : H1 a = some o) (n : ∀ xs, o ≠ .lst xs) : H a = some o := by
  by_cases p : IsPool H a
  · obtain ⟨xs, _, e⟩ := x.on a p
    rw [e] at h
    exact absurd (Option.some.inj h).symm (n xs)
  · rw [← x.off a p]
    exact h
section
variable {P : Program} {w : World} {H H1 : Hp} {h : Heap}
open Classical in
theorem open_pools (x : HOk P w H h) : ∃ H1, Opened H H1 ∧ HOk P w H1 h := by
  have key : ∀ a, IsPool H a → ∃ xs, Ints4 xs ∧ ∃ (its : List Value) (n : Nat), Vals xs its ∧ h.get? a = some { cls := .type "list", data := .seq its.toArray n } := fun a p => by
    have q : ObjOk P w H h a (poolO a) := x a _ p
    exact q.1
  have kf : ∀ a, ∃ o : Option HO, (IsPool H a → ∃ xs, Ints4 xs ∧ (∃ (its : List Value) (n : Nat), Vals xs its ∧ h.get? a = some { cls := .type "list", data := .seq its.toArray n }) ∧ o = some (.lst xs)) ∧ (¬ IsPool H a → o = H a) := fun a => by
    by_cases p : IsPool H a
    · obtain ⟨xs, i, z⟩ := key a p
      exact ⟨some (.lst xs), fun _ => ⟨xs, i, z, rfl⟩, fun n => absurd p n⟩
    · exact ⟨H a, fun q => absurd q p, fun _ => rfl⟩
  obtain ⟨H1, e1⟩ : ∃ H1 : Hp, H1 = fun a => (kf a).choose := ⟨_, rfl⟩
  have H1s : ∀ a, (IsPool H a → ∃ xs, Ints4 xs ∧ (∃ (its : List Value) (n : Nat), Vals xs its ∧ h.get? a = some { cls := .type "list", data := .seq its.toArray n }) ∧ H1 a = some (.lst xs)) ∧ (¬ IsPool H a → H1 a = H a) := fun a => by
    rw [e1]
    exact (kf a).choose_spec
  have op : Opened H H1 := ⟨fun a p => by
    obtain ⟨xs, i, _, e⟩ := (H1s a).1 p
    exact ⟨xs, i, e⟩, fun a n => (H1s a).2 n⟩
  refine ⟨H1, op, fun b o e => ?_⟩
  by_cases p : IsPool H b
  · obtain ⟨xs, i, ⟨its, n, r, g⟩, e2⟩ := (H1s b).1 p
    rw [e2] at e
    cases e
    exact ⟨i.len, its, n, r, g⟩
  · rw [op.off b p] at e
    exact (x b o e).stay (fun _ _ _ z => z) (fun c z => op.at z pool_ne_own) fun c xs z => op.at z pool_ne_tup
theorem close_pools (op : Opened H H1) (x : HOk P w H1 h) : HOk P w H h := fun b o e => by
  by_cases p : IsPool H b
  · obtain ⟨xs, i, e2⟩ := op.on b p
    have p' : H b = some (poolO b) := p
    rw [p'] at e
    cases e
    obtain ⟨_, its, n, r, g⟩ := (show ObjOk P w H1 h b (.lst xs) from x b _ e2)
    refine ⟨⟨xs, i, its, n, r, g⟩, ⟨_, g⟩, fun h1 h2 z k => ?_⟩
    obtain ⟨ys, j, its', n', r', g'⟩ := z
    exact ⟨ys, j, its', n', r', k _ g'⟩
  · have e2 : H1 b = some o := (op.off b p).trans e
    exact (x b o e2).stay (fun _ _ _ z => z) (fun c z => op.back_at z fun xs => by intro q; cases q) fun c xs z => op.back_at z fun ys => by intro q; cases q
theorem close_un {fs : List Addr} {H0 H0' H' : Hp} {h h' : Heap} (op : Opened H H0) (op' : Opened H' H0') (u : Un fs [] H0 H0' h h') : Un fs [] H H' h h' where
  keep := fun b o e n hf hx => u.keep b o e (op.free n) hf hx
  slot := fun b o e n hf hx => u.slot b o e (op.free n) hf hx
  free := fun b o e n hx => op'.back (u.free b o e (op.free n) hx)
  there := u.there
  tups := fun b xs e => op'.back_at (u.tups b xs (op.at e pool_ne_tup)) fun ys => by intro q; cases q
  frzs := fun b o v e => op'.back_at (u.frzs b o v (op.at e pool_ne_frz)) fun ys => by intro q; cases q
  tbls := fun b ps e => by
    obtain ⟨m, z⟩ := u.tbls b ps (op.at e pool_ne_tbl)
    exact ⟨m, op'.back_at z fun ys => by intro q; cases q⟩
/-- a def that looks into pools, from a promise over the opened heap -/
theorem FnOk.pools {K : PySem.W.Frag} {mg : Str → Option Value} {base : Heap} {k : Nat} {f : Addr} {fd : FuncData} {ps : List Str} {sp1 sp2 : Sp} (F : FnOk P w K mg base CX0 k f fd ps sp1)
    (hsp : ∀ vs H Q E, sp2 vs H Q E → ∀ H1, Opened H H1 → sp1 vs H1 (fun v H1' => ∃ H', Opened H' H1' ∧ Q v H') E) (hl : ∀ vs H Q E, sp2 vs H Q E → vs.length = ps.length) : FnOk P w K mg base CX0 k f fd ps sp2 := by
  refine ⟨hl, fun A outer s H args us vs Q E hr e0 hb r h => ?_⟩
  obtain ⟨H1, op, ok1⟩ := open_pools e0.hok
  have e1 : Env0 P w K mg base A outer s H1 := ⟨e0.frames, e0.mod, fun b o e => ⟨(e0.bs b o e).1, op.free (e0.bs b o e).2⟩, e0.bsz, e0.funs, fun b hb => op.free (e0.frf b hb), ok1, e0.bare⟩
  refine codeAny_mono (F.run A outer s H1 args us vs _ E hr e1 hb r (hsp vs H Q E h H1 op)) fun res s' hres => ?_
  cases res with
  | error e => exact hres
  | ok fl =>
    cases fl with
    | ret u =>
      obtain ⟨v, H1', os, bare, un, hok, rv, H', op', q⟩ := hres
      exact ⟨v, H', os, bare, close_un op op' un, close_pools op' hok, rv, q⟩
    | next => exact hres
    | brk => exact hres
    | cont => exact hres
end
end L2
set_option maxHeartbeats 4000000
/-! What the laws' common helpers promise, and short steps for readings. -/
namespace L2
open PySem PySem.Spec PyProof.Rows
/-! ### bounds of draws -/
def MOk (m : Int) : Prop := 0 < m ∧ m < 2 ^ 250
theorem MOk.div {m i : Int} (h : MOk m) : CDivW i m := by
  obtain ⟨h1, h2⟩ := h
  refine ⟨h1, ?_⟩
  have h3 : m.natAbs < 2 ^ 250 := by
    have e : ((2 ^ 250 : Nat) : Int) = 2 ^ 250 := by decide
    omega
  have h4 : m.natAbs.log2 < 250 := (Nat.log2_lt (by omega)).mpr h3
  omega
theorem MOk.of {m : Int} (h1 : 0 < m) (h2 : m < 1000000000) : MOk m := ⟨h1, Int.lt_trans h2 (by decide)⟩
/-! ### the helpers' promises -/
section
variable (K : PySem.W.Frag)
/-- _law_pool(script, place) -/
def sp_pool1 : Sp := fun vs H Q _ => ∃ (a : Addr) (ns : List Int) (i : Int), vs = [.ref a, .int i] ∧ SqL K H a (ns.map V.int) ∧ 0 ≤ i ∧ i < 2 ^ 60 ∧ ∀ p xs, Ints4 xs → H p = none → Q (.ref p) (upd H p (.lst xs))
def sp_pool : Sp := fun vs H Q _ => ∃ (a : Addr) (ns : List Int) (i : Int), vs = [.ref a, .int i] ∧ SqL K H a (ns.map V.int) ∧ 0 ≤ i ∧ i < 2 ^ 60 ∧ ∀ p, H p = none → Q (.ref p) (upd H p (poolO p))
/-- _law_draw(pool, many) -/
def sp_draw1 : Sp := fun vs H Q _ => ∃ (p : Addr) (m : Int) (xs : List V), vs = [.ref p, .int m] ∧ Ints4 xs ∧ H p = some (.lst xs) ∧ MOk m ∧ ∀ r ys, Ints4 ys → 0 ≤ r → r < m → Q (.int r) (upd H p (.lst ys))
def sp_draw : Sp := fun vs H Q _ => ∃ (p : Addr) (m : Int), vs = [.ref p, .int m] ∧ IsPool H p ∧ MOk m ∧ ∀ r, 0 ≤ r → r < m → Q (.int r) H
/-- _law_take(pools, many) -/
def sp_take1 : Sp := fun vs H Q _ => ∃ (l : Addr) (ps : List Addr) (m : Int), vs = [.ref l, .int m] ∧ SqL K H l (ps.map V.ref) ∧ ps ≠ [] ∧ (∀ p ∈ ps, ∃ xs, Ints4 xs ∧ H p = some (.lst xs)) ∧ MOk m ∧ ∀ r p ys, p ∈ ps → Ints4 ys → 0 ≤ r → r < m → Q (.int r) (upd H p (.lst ys))
def sp_take : Sp := fun vs H Q _ => ∃ (l : Addr) (ps : List Addr) (m : Int), vs = [.ref l, .int m] ∧ H l = some (.lst (ps.map V.ref)) ∧ ps ≠ [] ∧ (∀ p ∈ ps, IsPool H p) ∧ MOk m ∧ ∀ r, 0 ≤ r → r < m → Q (.int r) H
end
/-- x and y stand for the same data, at most n levels deep (n = 0: nothing) -/
def DS (H : Hp) : Nat → V → V → Prop
  | 0, _, _ => False
  | n + 1, x, y => (x = .non ∧ y = .non) ∨ (∃ b, x = .bl b ∧ y = .bl b) ∨ (∃ i, x = .int i ∧ y = .int i) ∨ (∃ z, x = .str z ∧ y = .str z) ∨
    ∃ (a b : Addr) (xs ys : List V), x = .ref a ∧ y = .ref b ∧ ((H a = some (.lst xs) ∧ H b = some (.lst ys)) ∨ (H a = some (.tup xs) ∧ H b = some (.tup ys))) ∧ xs.length = ys.length ∧ xs.length ≤ 100000 ∧
      ∀ (i : Nat) (u v : V), xs[i]? = some u → ys[i]? = some v → DS H n u v
def sp_same (n : Nat) : Sp := fun vs H Q _ => ∃ x y, vs = [x, y] ∧ DS H n x y ∧ Q (.bl true) H
/-! ### conversions -/
theorem SqL.opened {K : PySem.W.Frag} {H H1 : Hp} {a : Addr} {xs : List V} (op : Opened H H1) (h : SqL K H a xs) : SqL K H1 a xs := by
  rcases h with (h | ⟨o, h⟩) | h
  · exact .inl (.inl (op.at h pool_ne_lst))
  · exact .inl (.inr ⟨o, op.at h pool_ne_frz⟩)
  · exact .inr h
theorem Opened.set {H H1 : Hp} {p : Addr} {xs : List V} (op : Opened H H1) (hp : IsPool H p) (i : Ints4 xs) : Opened H (upd H1 p (.lst xs)) where
  on := fun a h => by
    by_cases e : a = p
    · rw [e, upd_same]
      exact ⟨xs, i, rfl⟩
    · rw [upd_ne e]
      exact op.on a h
  off := fun a h => by
    have ne : a ≠ p := fun e => h (by rw [e]; exact hp)
    rw [upd_ne ne]
    exact op.off a h
theorem Opened.new {H H1 : Hp} {p : Addr} {xs : List V} (op : Opened H H1) (hn : H1 p = none) (i : Ints4 xs) : Opened (upd H p (poolO p)) (upd H1 p (.lst xs)) where
  on := fun a h => by
    by_cases e : a = p
    · rw [e, upd_same]
      exact ⟨xs, i, rfl⟩
    · have h' : upd H p (poolO p) a = some (poolO a) := h
      rw [upd_ne e] at h' ⊢
      exact op.on a h'
  off := fun a h => by
    by_cases e : a = p
    · rw [e] at h
      exact absurd (show IsPool (upd H p (poolO p)) p from upd_same) h
    · rw [upd_ne e, upd_ne e]
      refine op.off a fun z => h ?_
      show upd H p (poolO p) a = some (poolO a)
      rw [upd_ne e]
      exact z
section
variable {P : Program} {w : World} {K : PySem.W.Frag} {mg : Str → Option Value} {base : Heap} {k : Nat} {f : Addr} {fd : FuncData}
theorem pool_closed {a b : Str} (F : FnOk P w K mg base CX0 k f fd [a, b] (sp_pool1 K)) : FnOk P w K mg base CX0 k f fd [a, b] (sp_pool K) :=
  F.pools (fun vs H Q E ⟨a, ns, i, e, hs, h0, h1, q⟩ H1 op => ⟨a, ns, i, e, hs.opened op, h0, h1, fun p xs ix n => ⟨_, op.new n ix, q p (op.back n)⟩⟩)
    fun vs H Q E ⟨_, _, _, e, _⟩ => by rw [e] <;> rfl
theorem draw_closed {a b : Str} (F : FnOk P w K mg base CX0 k f fd [a, b] sp_draw1) : FnOk P w K mg base CX0 k f fd [a, b] sp_draw :=
  F.pools (fun vs H Q E ⟨p, m, e, hp, hm, q⟩ H1 op => by
    obtain ⟨xs, ix, hx⟩ := op.on p hp
    exact ⟨p, m, xs, e, ix, hx, hm, fun r ys iy r0 r1 => ⟨H, op.set hp iy, q r r0 r1⟩⟩)
    fun vs H Q E ⟨_, _, e, _⟩ => by rw [e] <;> rfl
theorem take_closed {a b : Str} (F : FnOk P w K mg base CX0 k f fd [a, b] (sp_take1 K)) : FnOk P w K mg base CX0 k f fd [a, b] sp_take :=
  F.pools (fun vs H Q E ⟨l, ps, m, e, hl, hne, hp, hm, q⟩ H1 op => ⟨l, ps, m, e, (SqL.of hl).opened op, hne, fun p z => op.on p (hp p z), hm, fun r p ys z iy r0 r1 => ⟨H, op.set (hp p z) iy, q r r0 r1⟩⟩)
    fun vs H Q E ⟨_, _, _, e, _⟩ => by rw [e] <;> rfl
end
end L2
set_option maxHeartbeats 4000000
/-! Named readings for the built-ins, and one step at a time through a reading. -/
namespace L2
open PySem PySem.Spec PyProof.Rows
/-! ### readings with names -/
def rLen2 (K : PySem.W.Frag) : List V → Hp → VK → Prop := fun xs H Q => ∃ p ys, xs = [.ref p] ∧ (SqL K H p ys ∨ SqT K H p ys) ∧ Q (.int (ys.length : Nat)) H
def rAbs : List V → Hp → VK → Prop := fun xs H Q => ∃ i, xs = [.int i] ∧ Q (.int (if i < 0 then -i else i)) H
def rInt1 : List V → Hp → VK → Prop := fun xs H Q => (∃ i, xs = [.int i] ∧ Q (.int i) H) ∨ ∃ k, xs = [.bl k] ∧ Q (.int (if k then 1 else 0)) H
def rIsN : R2 := fun x y H Q => y = .non ∧ Q (.bl (decide (x = .non))) H
def rIsNotN : R2 := fun x y H Q => y = .non ∧ Q (.bl (!decide (x = .non))) H
def rInR : R2 := fun x y H Q => ∃ i a lo hi, x = V.int i ∧ y = V.ref a ∧ H a = some (.rng lo hi) ∧ Q (.bl (decide (lo ≤ i ∧ i < hi))) H
def rRange1 : List V → Hp → VK → Prop := fun vs H Q => ∃ j, vs = [V.int j] ∧ ∀ p, H p = none → Q (.ref p) (upd H p (.rng 0 j))
def rRange2 : List V → Hp → VK → Prop := fun vs H Q => ∃ i j, vs = [V.int i, V.int j] ∧ ∀ p, H p = none → Q (.ref p) (upd H p (.rng i j))
def rListOf (K : PySem.W.Frag) : List V → Hp → VK → Prop := fun xs H Q => ∃ p ys, xs = [.ref p] ∧ (SqL K H p ys ∨ SqT K H p ys) ∧ ∀ l, H l = none → Q (.ref l) (upd H l (.lst ys))
def rTupOf (K : PySem.W.Frag) : List V → Hp → VK → Prop := fun xs H Q => ∃ p ys, xs = [.ref p] ∧ ((SqL K H p ys ∧ ∀ l, H l = none → Q (.ref l) (upd H l (.tup ys))) ∨ (SqT K H p ys ∧ Q (.ref p) H))
section
variable {X : Cx}
theorem cr_len : CallR X (.builtin "len") (rLen2 X.K) := call_len_seq
theorem cr_abs : CallR X (.builtin "abs") rAbs := call_abs
theorem cr_int : CallR X (.type "int") rInt1 := call_int1
theorem or_isN : OpR X (compareOp .Is) rIsN := op_isN
theorem or_isNotN : OpR X (compareOp .IsNot) rIsNotN := op_notN
theorem or_inR : OpR X (compareOp .In) rInR := op_in_rng
theorem cr_rng1 : CallR X (.type "range") rRange1 := cr_range1
theorem cr_rng2 : CallR X (.type "range") rRange2 := cr_range2
theorem cr_listOf : CallR X (.type "list") (rListOf X.K) := call_list_of
theorem cr_tupOf : CallR X (.type "tuple") (rTupOf X.K) := call_tuple_of
end
end L2
set_option maxHeartbeats 4000000
/-! One step at a time through a reading. -/
namespace L2
open PySem PySem.Spec PyProof.Rows
/-! ### finding an object -/
theorem at_new {H : Hp} {p a : Addr} {x o : HO} (hp : H p = none) (h : H a = some o) : upd H p x a = some o := by
  rw [upd_ne fun e => by rw [e, hp] at h; cases h]
  exact h
theorem at_set {H : Hp} {p a : Addr} {x o : HO} (ne : a ≠ p) (h : H a = some o) : upd H p x a = some o := by
  rw [upd_ne ne]
  exact h
/-- a list set anew: what is no list stays -/
theorem at_lst {H : Hp} {p a : Addr} {xs : List V} {x o : HO} (hp : H p = some (.lst xs)) (h : H a = some o) (n : ∀ ys, o ≠ .lst ys) : upd H p x a = some o :=
  at_set (fun e => by rw [e, hp] at h; cases h; exact n _ rfl) h
theorem at_lstT {H : Hp} {p a : Addr} {xs ys : List V} {x : HO} (hp : H p = some (.lst xs)) (h : H a = some (.tup ys)) : upd H p x a = some (.tup ys) := at_lst hp h fun _ z => nomatch z
theorem at_lstR {H : Hp} {p a : Addr} {xs : List V} {i j : Int} {x : HO} (hp : H p = some (.lst xs)) (h : H a = some (.rng i j)) : upd H p x a = some (.rng i j) := at_lst hp h fun _ z => nomatch z
theorem at_lstP {H : Hp} {p a : Addr} {xs : List V} {x : HO} (hp : H p = some (.lst xs)) (h : IsPool H a) : IsPool (upd H p x) a := at_lst hp h fun _ => pool_ne_lst
theorem tup_ne_lst {xs : List V} : ∀ ys, HO.tup xs ≠ .lst ys := fun _ h => nomatch h
theorem int_ne_lst {i j : Int} : ∀ ys, HO.rng i j ≠ .lst ys := fun _ h => nomatch h
theorem Same.new {H : Hp} {p : Addr} {x : HO} (hp : H p = none) : Same H (upd H p x) := fun _ _ h => at_new hp h
theorem Same.then {H H1 : Hp} {p : Addr} {x : HO} (s : Same H H1) (hp : H1 p = none) : Same H (upd H1 p x) := s.trans (.new hp)
theorem Same.tup {K : PySem.W.Frag} {H H' : Hp} {a : Addr} {xs : List V} (e : Same H H') (h : SqT K H a xs) : SqT K H' a xs := by
  rcases h with (h | ⟨o, h⟩) | h
  · exact .inl (.inl (e _ _ h))
  · exact .inl (.inr ⟨o, e _ _ h⟩)
  · exact .inr h
theorem free_of {H : Hp} {p a : Addr} {x : HO} (h : upd H p x a = none) : H a = none := by
  unfold upd at h
  split at h
  · cases h
  · exact h
theorem ne_of_free {H : Hp} {p a : Addr} {o : HO} (hp : H p = none) (h : H a = some o) : a ≠ p := fun e => by rw [e, hp] at h; cases h
/-! ### steps -/
section
variable {σ σ' : St} {H H' : Hp} {Q : VK} {QT : Bool → Hp → Prop} {QA : List V → Hp → Prop} {D : Ends} {t u : TS} {ta tb tc te : TE} {c ca cb : TT} {ar tr : TA} {K : PySem.W.Frag}
theorem g_seq (h : t ⟨u D, D.rt, D.bk, D.ct⟩ σ H) : tSeq t u D σ H := h
theorem g_asg {g : TG} (h : te σ H fun x H1 => g x σ H1 D.nx) : tAsg te g D σ H := h
theorem g_ret (h : te σ H D.rt) : tRet te D σ H := h
theorem g_retN (h : D.rt .non H) : tRetN D σ H := h
theorem g_drop (h : te σ H fun _ H1 => D.nx σ H1) : tDrop te D σ H := h
theorem g_next (h : D.nx σ H) : tNext D σ H := h
theorem g_brk (h : D.bk σ H) : tBreak D σ H := h
theorem g_cnt (h : D.ct σ H) : tCont D σ H := h
theorem g_ifS (h : c σ H fun b H1 => if b = true then t D σ H1 else u D σ H1) : tIfS c t u D σ H := h
theorem g_nx {f b c : St → Hp → Prop} {r : VK} (h : f σ H) : Ends.nx ⟨f, r, b, c⟩ σ H := h
theorem g_rt {f b c : St → Hp → Prop} {r : VK} {v : V} (h : r v H) : Ends.rt ⟨f, r, b, c⟩ v H := h
theorem g_bk {f b c : St → Hp → Prop} {r : VK} (h : b σ H) : Ends.bk ⟨f, r, b, c⟩ σ H := h
theorem g_ct {f b c : St → Hp → Prop} {r : VK} (h : c σ H) : Ends.ct ⟨f, r, b, c⟩ σ H := h
theorem g_var {i : Nat} {v : V} (e : σ[i]? = some (some v)) (h : Q v H) : tVar i σ H Q := ⟨v, e, h⟩
theorem g_const {v : V} (h : Q v H) : tC v σ H Q := h
theorem g_op {r : R2} (h : ta σ H fun x H1 => tb σ H1 fun y H2 => r x y H2 Q) : tOp r ta tb σ H Q := h
theorem g_un {r : V → Hp → VK → Prop} (h : ta σ H fun x H1 => r x H1 Q) : tUn r ta σ H Q := h
theorem g_cb {r : List V → Hp → VK → Prop} (h : ar σ H fun vs H1 => r vs H1 Q) : tCB r ar σ H Q := h
theorem g_call {sp : Sp} {dvs : List V} {E : XK} (h : ar σ H fun vs H1 => sp (vs ++ dvs) H1 Q E) : tCall sp dvs E ar σ H Q := h
theorem g_callS {sp : Sp} {E : St → XK} (h : ar σ H fun vs H1 => sp vs H1 Q (E σ)) : tCallS sp E ar σ H Q := h
theorem g_nil (h : QA [] H) : tNil σ H QA := h
theorem g_cons (h : ta σ H fun x H1 => tr σ H1 fun xs H2 => QA (x :: xs) H2) : tCons ta tr σ H QA := h
theorem g_test (h : te σ H fun x H' => ∃ k, x = .bl k ∧ QT k H') : tTest te σ H QT := h
theorem g_tB (h : te σ H fun x H' => ∃ k, x = .bl k ∧ QT k H') : tB te σ H QT := h
theorem g_not (h : c σ H fun b H1 => QT (!b) H1) : tNot c σ H QT := h
theorem g_and (h : ca σ H fun c H1 => if c = true then cb σ H1 QT else QT false H1) : tAnd ca cb σ H QT := h
theorem g_or (h : ca σ H fun c H1 => if c = true then QT true H1 else cb σ H1 QT) : tOr ca cb σ H QT := h
theorem g_andV (h : ta σ H fun x H1 => ∃ c, x = .bl c ∧ if c = true then tb σ H1 Q else Q (.bl false) H1) : tAndV ta tb σ H Q := h
theorem g_orV (h : ta σ H fun x H1 => ∃ c, x = .bl c ∧ if c = true then Q (.bl true) H1 else tb σ H1 Q) : tOrV ta tb σ H Q := h
theorem g_notV (h : ta σ H fun x H1 => ∃ c, x = .bl c ∧ Q (.bl (!c)) H1) : tNotV ta σ H Q := h
theorem g_if (h : c σ H fun b H1 => if b = true then ta σ H1 Q else tb σ H1 Q) : tIf c ta tb σ H Q := h
theorem g_bl {b : Bool} {R : Bool → Prop} (h : R b) : ∃ k, V.bl b = .bl k ∧ R k := ⟨b, rfl, h⟩
theorem g_chain {r r' : R2} (h : ta σ H fun x H1 => tb σ H1 fun y H2 => r x y H2 fun z H3 => ∃ k, z = .bl k ∧ (if k = true then tc σ H3 fun w' H4 => r' y w' H4 Q else Q (.bl false) H3)) : tChain r r' ta tb tc σ H Q := h
theorem g_tup (h : ar σ H fun xs H1 => xs.length ≤ sizeLine ∧ ∀ p, H1 p = none → Q (.ref p) (upd H1 p (.tup xs))) : tTup ar σ H Q := h
theorem g_lst (h : ar σ H fun xs H1 => xs.length ≤ sizeLine ∧ ∀ p, H1 p = none → Q (.ref p) (upd H1 p (.lst xs))) : tLst ar σ H Q := h
theorem g_room {xs : List V} {R : Prop} (l : xs.length ≤ sizeLine) (h : R) : xs.length ≤ sizeLine ∧ R := ⟨l, h⟩
theorem g_rI0 {g : Int → Int → V} {i j : Int} (h : Q (g i j) H) : rI0 g (.int i) (.int j) H Q := ⟨i, j, rfl, rfl, h⟩
theorem g_rI {C : Int → Int → Prop} {g : Int → Int → V} {i j : Int} (c : C i j) (h : Q (g i j) H) : rI C g (.int i) (.int j) H Q := ⟨i, j, rfl, rfl, c, h⟩
theorem g_rU {g : Int → V} {i : Int} (h : Q (g i) H) : rU g (.int i) H Q := ⟨i, rfl, h⟩
theorem g_eqi {i j : Int} (h : Q (.bl (decide (i = j))) H) : rEq (.int i) (.int j) H Q := ⟨rfl, by rw [show decide (V.int i = V.int j) = decide (i = j) from dec_int.trans (by by_cases h : i = j <;> simp [h])]; exact h⟩
theorem g_nei {i j : Int} (h : Q (.bl (!decide (i = j))) H) : rNe (.int i) (.int j) H Q := ⟨rfl, by rw [show decide (V.int i = V.int j) = decide (i = j) from dec_int.trans (by by_cases h : i = j <;> simp [h])]; exact h⟩
theorem g_eqs {i j : Str} (h : Q (.bl (decide (i = j))) H) : rEq (.str i) (.str j) H Q := ⟨rfl, by rw [show decide (V.str i = V.str j) = decide (i = j) from dec_str.trans (by by_cases h : i = j <;> simp [h])]; exact h⟩
theorem g_nes {i j : Str} (h : Q (.bl (!decide (i = j))) H) : rNe (.str i) (.str j) H Q := ⟨rfl, by rw [show decide (V.str i = V.str j) = decide (i = j) from dec_str.trans (by by_cases h : i = j <;> simp [h])]; exact h⟩
theorem g_eqb {i j : Bool} (h : Q (.bl (decide (i = j))) H) : rEq (.bl i) (.bl j) H Q := ⟨rfl, by rw [show decide (V.bl i = V.bl j) = decide (i = j) from dec_bl.trans (by cases i <;> cases j <;> rfl)]; exact h⟩
theorem g_nonI {i : Int} (h : Q (.bl false) H) : rIsN (.int i) .non H Q := ⟨rfl, h⟩
theorem g_nonN (h : Q (.bl true) H) : rIsN .non .non H Q := ⟨rfl, h⟩
theorem g_nonS {i : Str} (h : Q (.bl false) H) : rIsN (.str i) .non H Q := ⟨rfl, h⟩
theorem g_nonB {i : Bool} (h : Q (.bl false) H) : rIsN (.bl i) .non H Q := ⟨rfl, h⟩
theorem g_nonR {i : Addr} (h : Q (.bl false) H) : rIsN (.ref i) .non H Q := ⟨rfl, h⟩
theorem g_isBB {i j : Bool} (h : Q (.bl (decide (i = j))) H) : rIsC (.bl i) (.bl j) H Q := ⟨j, rfl, by rw [show decide (V.bl i = V.bl j) = decide (i = j) from dec_bl.trans (by cases i <;> cases j <;> rfl)]; exact h⟩
theorem g_isBI {i : Int} {j : Bool} (h : Q (.bl false) H) : rIsC (.int i) (.bl j) H Q := ⟨j, rfl, h⟩
theorem g_isBS {i : Str} {j : Bool} (h : Q (.bl false) H) : rIsC (.str i) (.bl j) H Q := ⟨j, rfl, h⟩
theorem g_isBR {i : Addr} {j : Bool} (h : Q (.bl false) H) : rIsC (.ref i) (.bl j) H Q := ⟨j, rfl, h⟩
theorem g_isBN {j : Bool} (h : Q (.bl false) H) : rIsC .non (.bl j) H Q := ⟨j, rfl, h⟩
theorem g_lenL {p : Addr} {ys : List V} (s : SqL K H p ys) (h : Q (.int (ys.length : Nat)) H) : rLen2 K [.ref p] H Q := ⟨p, ys, rfl, .inl s, h⟩
theorem g_lenT {p : Addr} {ys : List V} (s : SqT K H p ys) (h : Q (.int (ys.length : Nat)) H) : rLen2 K [.ref p] H Q := ⟨p, ys, rfl, .inr s, h⟩
theorem g_abs {i : Int} (h : Q (.int (if i < 0 then -i else i)) H) : rAbs [.int i] H Q := ⟨i, rfl, h⟩
theorem g_int {i : Int} (h : Q (.int i) H) : rInt1 [.int i] H Q := .inl ⟨i, rfl, h⟩
theorem g_intB {k : Bool} (h : Q (.int (if k then 1 else 0)) H) : rInt1 [.bl k] H Q := .inr ⟨k, rfl, h⟩
theorem g_ixL {p : Addr} {xs : List V} {i : Int} {v : V} (s : SqL K H p xs) (e : atI xs i = some v) (h : Q v H) : rIxL K (.ref p) (.int i) H Q := ⟨p, xs, i, v, rfl, rfl, s, e, h⟩
theorem g_ixT {p : Addr} {xs : List V} {i : Int} {v : V} (s : SqT K H p xs) (e : atI xs i = some v) (h : Q v H) : rIxT K (.ref p) (.int i) H Q := ⟨p, xs, i, v, rfl, rfl, s, e, h⟩
theorem g_setL {p : Addr} {xs : List V} {i : Int} {v : V} {j : Nat} {QH : Hp → Prop} (s : H p = some (.lst xs)) (e : ixN xs.length i = some j) (h : QH (upd H p (.lst (xs.set j v)))) : rSetL (.ref p) (.int i) v H QH := ⟨p, xs, i, j, rfl, rfl, s, e, h⟩
theorem g_app {p : Addr} {xs : List V} {v : V} (s : H p = some (.lst xs)) (l : xs.length < sizeLine) (h : Q .non (upd H p (.lst (xs ++ [v])))) : rAppend (.ref p) [v] H Q := ⟨p, xs, v, rfl, rfl, s, l, h⟩
theorem g_bm {T : String} {r : V → List V → Hp → VK → Prop} {to : TE} (h : to σ H fun x H1 => tyV K T x H1 ∧ ar σ H1 fun xs H2 => r x xs H2 Q) : tBM K T r to ar σ H Q := h
theorem g_listL {p : Addr} {ys : List V} (s : SqL K H p ys) (h : ∀ l, H l = none → Q (.ref l) (upd H l (.lst ys))) : rListOf K [.ref p] H Q := ⟨p, ys, rfl, .inl s, h⟩
theorem g_listT {p : Addr} {ys : List V} (s : SqT K H p ys) (h : ∀ l, H l = none → Q (.ref l) (upd H l (.lst ys))) : rListOf K [.ref p] H Q := ⟨p, ys, rfl, .inr s, h⟩
theorem g_tupL {p : Addr} {ys : List V} (s : SqL K H p ys) (h : ∀ l, H l = none → Q (.ref l) (upd H l (.tup ys))) : rTupOf K [.ref p] H Q := ⟨p, ys, rfl, .inl ⟨s, h⟩⟩
theorem g_tupT {p : Addr} {ys : List V} (s : SqT K H p ys) (h : Q (.ref p) H) : rTupOf K [.ref p] H Q := ⟨p, ys, rfl, .inr ⟨s, h⟩⟩
theorem g_rng1 {j : Int} (h : ∀ p, H p = none → Q (.ref p) (upd H p (.rng 0 j))) : rRange1 [.int j] H Q := ⟨j, rfl, h⟩
theorem g_rng2 {i j : Int} (h : ∀ p, H p = none → Q (.ref p) (upd H p (.rng i j))) : rRange2 [.int i, .int j] H Q := ⟨i, j, rfl, h⟩
theorem g_notInR {i lo hi : Int} {a : Addr} (s : H a = some (.rng lo hi)) (h : Q (.bl (!decide (lo ≤ i ∧ i < hi))) H) : rNotInR (.int i) (.ref a) H Q := ⟨i, a, lo, hi, rfl, rfl, s, h⟩
theorem g_inR {i lo hi : Int} {a : Addr} (s : H a = some (.rng lo hi)) (h : Q (.bl (decide (lo ≤ i ∧ i < hi))) H) : rInR (.int i) (.ref a) H Q := ⟨i, a, lo, hi, rfl, rfl, s, h⟩
theorem g_cat {a b : Addr} {xs ys : List V} (s : SqT K H a xs) (s' : SqT K H b ys) (l : xs.length + ys.length ≤ sizeLine) (h1 : xs = [] → Q (.ref b) H) (h2 : xs ≠ [] → ys = [] → Q (.ref a) H)
    (h3 : xs ≠ [] → ys ≠ [] → ∀ p, H p = none → Q (.ref p) (upd H p (.tup (xs ++ ys)))) : rCatA K (.ref a) (.ref b) H Q := ⟨a, b, xs, ys, rfl, rfl, s, s', l, h1, h2, h3⟩
theorem g_name {i : Nat} {v : V} {QS : St → Hp → Prop} (h : QS (σ.set i (some v)) H) : gName i v σ H QS := h
theorem g_gtup {n : Nat} {t : TGs} {a : Addr} {xs : List V} {QS : St → Hp → Prop} (s : SqT K H a xs) (l : xs.length = n) (h : t xs σ H QS) : gTup K n t (.ref a) σ H QS := ⟨a, xs, rfl, s, l, h⟩
theorem g_gcons {t : TG} {u : TGs} {v : V} {r : List V} {QS : St → Hp → Prop} (h : t v σ H fun σ' H' => u r σ' H' QS) : gCons t u (v :: r) σ H QS := ⟨v, r, rfl, h⟩
theorem g_gnil {QS : St → Hp → Prop} (h : QS σ H) : gNil [] σ H QS := ⟨rfl, h⟩
theorem g_gsub {to ti : TE} {t : TSet} {v : V} {QS : St → Hp → Prop} (h : to σ H fun o H1 => ti σ H1 fun i H2 => t o i v H2 fun H3 => QS σ H3) : gSub to ti t v σ H QS := h
theorem g_for {wi : TI} {g : TG} {tb : TS} (h : wi σ H fun J H1 => ∃ W : Nat → Nat → St → Hp → Prop, (∃ m, W 0 m σ H1) ∧ ∀ i m σ H, W i m σ H →
    (J.stop i H ∧ D.nx σ H) ∨ (J.go i H ∧ ∃ N : St → Hp → Prop, (∀ σ' H', N σ' H' → ∃ m', m' < m ∧ W (i + 1) m' σ' H') ∧ ∀ x H', J.yld i H x H' → g x σ H' fun σ2 H2 => tb { D with nx := N, ct := N, bk := D.nx } σ2 H2)) : tFor wi g tb D σ H := h
theorem g_iList {R : It → Hp → Prop} (h : ta σ H fun x H1 => ∃ a, x = .ref a ∧ (∃ xs, SqL K H1 a xs) ∧ R (Itl K a) H1) : iList K ta σ H R := h
theorem g_iTup {R : It → Hp → Prop} (h : ta σ H fun x H1 => ∃ a, x = .ref a ∧ (∃ xs, SqT K H1 a xs) ∧ R (Itt K a) H1) : iTup K ta σ H R := h
theorem g_atL {R : Addr → Prop} {a : Addr} {xs : List V} (s : SqL K H a xs) (h : R a) : ∃ b, V.ref a = .ref b ∧ (∃ xs, SqL K H b xs) ∧ R b := ⟨a, rfl, ⟨xs, s⟩, h⟩
theorem g_atT {R : Addr → Prop} {a : Addr} {xs : List V} (s : SqT K H a xs) (h : R a) : ∃ b, V.ref a = .ref b ∧ (∃ xs, SqT K H b xs) ∧ R b := ⟨a, rfl, ⟨xs, s⟩, h⟩
theorem g_iR1 {R : It → Hp → Prop} (h : ar σ H fun vs H1 => ∃ j : Int, vs = [.int j] ∧ -(2 ^ 62) ≤ j ∧ j < 2 ^ 62 ∧ R (Itr 0 j.toNat) H1) : iRng1 ar σ H R := h
theorem g_R1 {R : Int → Prop} {j : Int} (h0 : -(2 ^ 62) ≤ j) (h1 : j < 2 ^ 62) (h : R j) : ∃ i : Int, [V.int j] = [.int i] ∧ -(2 ^ 62) ≤ i ∧ i < 2 ^ 62 ∧ R i := ⟨j, rfl, h0, h1, h⟩
theorem g_iEnum {R : It → Hp → Prop} (h : ar σ H fun vs H1 => ∃ a xs, vs = [.ref a] ∧ SqT K H1 a xs ∧ R (ItTe K a) H1) : iEnumT K ar σ H R := h
theorem g_enum {R : Addr → Prop} {a : Addr} {xs : List V} (s : SqT K H a xs) (h : R a) : ∃ b ys, [V.ref a] = [.ref b] ∧ SqT K H b ys ∧ R b := ⟨a, xs, rfl, s, h⟩
theorem g_lc {wi : TI} {g : TG} {tt : TT} {vs : List Nat} (h : wi σ H fun J H1 => ∀ D, H1 D = none → ∃ W : Nat → Nat → Hp → Prop, (∃ m, W 0 m (upd H1 D (.lst []))) ∧ ∀ i m H, W i m H →
    (J.stop i H ∧ Q (.ref D) H) ∨ (J.go i H ∧ ∃ Nx : Hp → Prop, (∀ H', Nx H' → ∃ m', m' < m ∧ W (i + 1) m' H') ∧ ∀ x H', J.yld i H x H' → g x (wipe σ vs) H' fun σ2 H2 => wipe σ2 vs = wipe σ vs ∧ tt σ2 H2 fun b H3 =>
      if b = true then te σ2 H3 fun y H4 => ∃ acc, H4 D = some (.lst acc) ∧ acc.length < sizeLine ∧ Nx (upd H4 D (.lst (acc ++ [y]))) else Nx H3)) : tLc wi g tt te vs σ H Q := h
theorem g_yes (h : QT true H) : tYes σ H QT := h
theorem g_ite {p : Prop} [Decidable p] {A B : Prop} (h1 : p → A) (h2 : ¬ p → B) : if decide p = true then A else B := by
  by_cases h : p
  · rw [if_pos (by simp [h])]; exact h1 h
  · rw [if_neg (by simp [h])]; exact h2 h
theorem g_iteN {p : Prop} [Decidable p] {A B : Prop} (h1 : ¬ p → A) (h2 : p → B) : if (!decide p) = true then A else B := by
  by_cases h : p
  · rw [if_neg (by simp [h])]; exact h2 h
  · rw [if_pos (by simp [h])]; exact h1 h
theorem g_iteB {b : Bool} {A B : Prop} (h1 : b = true → A) (h2 : b = false → B) : if b = true then A else B := by
  cases b
  · exact h2 rfl
  · exact h1 rfl
theorem g_iteNT {A B : Prop} (h : B) : if (!true) = true then A else B := h
theorem g_iteNF {A B : Prop} (h : A) : if (!false) = true then A else B := h
theorem g_tyL {p : Addr} {xs : List V} {R : Prop} (s : SqL K H p xs) (h : R) : tyV K "list" (.ref p) H ∧ R := ⟨.inl ⟨rfl, _, s⟩, h⟩
theorem g_tyS {z : Str} {R : Prop} (h : R) : tyV K "str" (.str z) H ∧ R := ⟨rfl, h⟩
theorem g_part {R : Option Int → Hp → Prop} (h : te σ H fun x H1 => ∃ i, x = .int i ∧ R (some i) H1) : tPart te σ H R := h
theorem g_nopart {R : Option Int → Hp → Prop} (h : R none H) : tNoPart σ H R := h
theorem g_exi {i : Int} {R : Int → Prop} (h : R i) : ∃ k, V.int i = .int k ∧ R k := ⟨i, rfl, h⟩
theorem g_slN {a : Addr} {xs ys : List V} {lo hi : Option Int} (s : SqT K H a xs) (n : ¬ (HT.sIx xs.length 0 lo = 0 ∧ HT.sIx xs.length xs.length hi = xs.length)) (e : cutV xs lo hi = ys) (h : ∀ p, H p = none → Q (.ref p) (upd H p (.tup ys))) : rSlA K (.ref a) lo hi H Q :=
  ⟨a, xs, rfl, s, fun z => absurd z n, fun _ p hp => by rw [e]; exact h p hp⟩
theorem g_minT {a : Addr} {ns : List Int} (s : SqT K H a (ns.map V.int)) (l : 0 < ns.length) (h : ∀ m, m ∈ ns → (∀ y, y ∈ ns → m ≤ y) → Q (.int m) H) : rMinT K [.ref a] H Q := ⟨a, ns, rfl, s, l, h⟩
theorem g_maxT {a : Addr} {ns : List Int} (s : SqT K H a (ns.map V.int)) (l : 0 < ns.length) (h : ∀ m, m ∈ ns → (∀ y, y ∈ ns → y ≤ m) → Q (.int m) H) : rMaxT K [.ref a] H Q := ⟨a, ns, rfl, s, l, h⟩
theorem g_raise {C : Addr} {fl : Str} {W : WX} (h : ar σ H fun vs H1 => ∃ v, vs = [v] ∧ ∀ d, H1 d = none → W (.ref C) (some d) σ (upd H1 d (.xd [(fl, v)]))) : tRaiseErr C fl W ar D σ H := h
theorem g_exv {x : V} {R : V → Prop} (h : R x) : ∃ v, [x] = [v] ∧ R v := ⟨x, rfl, h⟩
theorem g_xf {a C : Addr} {f : Str} {cls : Value} {od : Option Addr} (h : te σ H fun x H1 => x = .ref a ∧ cls = .ref C ∧ ∃ (dd : Addr) (fs : List (Str × V)) (v : V), od = some dd ∧ H1 dd = some (.xd fs) ∧ fs.lookup f = some v ∧ Q v H1) : tXf a cls od C f te σ H Q := h
theorem g_hit {Wout : WX} {cls c : Value} {oi : Option Nat} {ts : Addr → Value → Option Addr → TS} {r : List ClauseT} {d : Option Addr} (m : PySem.W.exmOne K cls c = some true) (h : ∀ a, H a = none → ts a cls d (endsAs oi D) (setAs oi σ a) H) : wAll K Wout D ((c, oi, ts) :: r) cls d σ H := ⟨true, m, fun _ => h, fun z => absurd z (by decide)⟩
theorem g_miss {Wout : WX} {cls c : Value} {oi : Option Nat} {ts : Addr → Value → Option Addr → TS} {r : List ClauseT} {d : Option Addr} (m : PySem.W.exmOne K cls c = some false) (h : wAll K Wout D r cls d σ H) : wAll K Wout D ((c, oi, ts) :: r) cls d σ H := ⟨false, m, fun z => absurd z (by decide), fun _ => h⟩
theorem g_xfe {a C d : Addr} {f : Str} {fs : List (Str × V)} {v : V} {R : V → Prop} (e : H d = some (.xd fs)) (l : fs.lookup f = some v) (h : R v) :
    V.ref a = .ref a ∧ Value.ref C = .ref C ∧ ∃ (dd : Addr) (fs : List (Str × V)) (v : V), some d = some dd ∧ H dd = some (.xd fs) ∧ fs.lookup f = some v ∧ R v := ⟨rfl, rfl, d, fs, v, rfl, e, l, h⟩
theorem g_isX {a E dd : Addr} {fs : List (Str × V)} {c : V} {u : Value} {b : Bool} (x : ExcC K E) (e : H dd = some (.xd fs)) (cu : ClsV c u) (k : PySem.W.kitOne K (.ref E) u = some b) (h : Q (.bl b) H) : rIsX K a (.ref E) (some dd) [.ref a, c] H Q := ⟨E, dd, fs, c, u, b, rfl, rfl, x, rfl, e, cu, k, h⟩
theorem g_isXT {a E dd tp : Addr} {fs : List (Str × V)} {cs : List V} {us : List Value} {b : Bool} (x : ExcC K E) (e : H dd = some (.xd fs)) (t : H tp = some (.tup cs)) (cu : Paired ClsV cs us) (k : PySem.W.kitAny K (.ref E) us = some b) (h : Q (.bl b) H) : rIsXT K a (.ref E) (some dd) [.ref a, .ref tp] H Q := ⟨E, dd, fs, tp, cs, us, b, rfl, rfl, x, rfl, e, t, cu, k, h⟩
theorem g_iteY {p : Prop} [Decidable p] {A B : Prop} (hp : p) (h : A) : if decide p = true then A else B := by
  rw [if_pos (by simp [hp])]
  exact h
theorem g_iteX {p : Prop} [Decidable p] {A B : Prop} (hp : ¬ p) (h : B) : if decide p = true then A else B := by
  rw [if_neg (by simp [hp])]
  exact h
theorem g_iteNY {p : Prop} [Decidable p] {A B : Prop} (hp : ¬ p) (h : A) : if (!decide p) = true then A else B := by
  rw [if_pos (by simp [hp])]
  exact h
theorem g_iteNX {p : Prop} [Decidable p] {A B : Prop} (hp : p) (h : B) : if (!decide p) = true then A else B := by
  rw [if_neg (by simp [hp])]
  exact h
theorem g_iteT {A B : Prop} (h : A) : if true = true then A else B := h
theorem g_iteF {A B : Prop} (h : B) : if false = true then A else B := h
theorem g_keep {f b c' : St → Hp → Prop} {r : VK} (I : St → Hp → Prop) (k : ∀ σ H, I σ H → f σ H) (h : ∀ f' : St → Hp → Prop, (∀ σ H, I σ H → f' σ H) → tIfS c t u ⟨f', r, b, c'⟩ σ H) : tIfS c t u ⟨f, r, b, c'⟩ σ H := h f k
theorem g_slc {r : V → Option Int → Option Int → Hp → VK → Prop} {tl th : TO} (h : te σ H fun x H1 => tl σ H1 fun l H2 => th σ H2 fun u H3 => r x l u H3 Q) : tSl r te tl th σ H Q := h
theorem g_isi {x c : V} {t u : Value} {b : Bool} (hc : ClsV c u) (hx : TyX K H x t) (e : PySem.W.kitOne K t u = some b) (h : Q (.bl b) H) : rIsi K [x, c] H Q := ⟨x, c, t, u, b, rfl, hc, hx, e, h⟩
end
theorem atI_pos {α : Type} {xs : List α} {i : Int} (h0 : 0 ≤ i) : atI xs i = xs[i.toNat]? := by
  unfold atI ixN
  rw [if_pos h0]
  by_cases h : i < xs.length
  · rw [if_pos h]; rfl
  · rw [if_neg h]
    exact (List.getElem?_eq_none (by omega)).symm
theorem atI_neg {α : Type} {xs : List α} {i : Int} (h0 : i < 0) (h1 : -(xs.length : Int) ≤ i) : atI xs i = xs[(i + xs.length).toNat]? := by
  unfold atI ixN
  rw [if_neg (by omega), if_pos h1]
  rfl
theorem ixN_pos {n : Nat} {i : Int} (h0 : 0 ≤ i) (h1 : i < n) : ixN n i = some i.toNat := by
  unfold ixN
  rw [if_pos h0, if_pos h1]
end L2
namespace L2
open PySem PySem.Spec PyProof.Rows
section
variable {K : PySem.W.Frag} {H : Hp} {Q : VK}
theorem kit_int_int : PySem.W.kitOne K (.type "int") (.type "int") = some true := by kernel_rfl
theorem g_is_int_int {i : Int} (h : Q (.bl true) H) : rIsi K [.int i, .ty "int"] H Q := g_isi (.ty _) (.base (.int _)) kit_int_int h
theorem kit_int_bool : PySem.W.kitOne K (.type "int") (.type "bool") = some false := by kernel_rfl
theorem g_is_int_bool {i : Int} (h : Q (.bl false) H) : rIsi K [.int i, .ty "bool"] H Q := g_isi (.ty _) (.base (.int _)) kit_int_bool h
theorem kit_int_str : PySem.W.kitOne K (.type "int") (.type "str") = some false := by kernel_rfl
theorem g_is_int_str {i : Int} (h : Q (.bl false) H) : rIsi K [.int i, .ty "str"] H Q := g_isi (.ty _) (.base (.int _)) kit_int_str h
theorem kit_int_dict : PySem.W.kitOne K (.type "int") (.type "dict") = some false := by kernel_rfl
theorem g_is_int_dict {i : Int} (h : Q (.bl false) H) : rIsi K [.int i, .ty "dict"] H Q := g_isi (.ty _) (.base (.int _)) kit_int_dict h
theorem kit_int_list : PySem.W.kitOne K (.type "int") (.type "list") = some false := by kernel_rfl
theorem g_is_int_list {i : Int} (h : Q (.bl false) H) : rIsi K [.int i, .ty "list"] H Q := g_isi (.ty _) (.base (.int _)) kit_int_list h
theorem kit_int_tuple : PySem.W.kitOne K (.type "int") (.type "tuple") = some false := by kernel_rfl
theorem g_is_int_tuple {i : Int} (h : Q (.bl false) H) : rIsi K [.int i, .ty "tuple"] H Q := g_isi (.ty _) (.base (.int _)) kit_int_tuple h
theorem kit_bool_bool : PySem.W.kitOne K (.type "bool") (.type "bool") = some true := by kernel_rfl
theorem g_is_bool_bool {i : Bool} (h : Q (.bl true) H) : rIsi K [.bl i, .ty "bool"] H Q := g_isi (.ty _) (.base (.bl _)) kit_bool_bool h
theorem kit_bool_int : PySem.W.kitOne K (.type "bool") (.type "int") = some true := by kernel_rfl
theorem g_is_bool_int {i : Bool} (h : Q (.bl true) H) : rIsi K [.bl i, .ty "int"] H Q := g_isi (.ty _) (.base (.bl _)) kit_bool_int h
theorem kit_str_int : PySem.W.kitOne K (.type "str") (.type "int") = some false := by kernel_rfl
theorem g_is_str_int {i : Str} (h : Q (.bl false) H) : rIsi K [.str i, .ty "int"] H Q := g_isi (.ty _) (.base (.str _)) kit_str_int h
theorem kit_str_str : PySem.W.kitOne K (.type "str") (.type "str") = some true := by kernel_rfl
theorem g_is_str_str {i : Str} (h : Q (.bl true) H) : rIsi K [.str i, .ty "str"] H Q := g_isi (.ty _) (.base (.str _)) kit_str_str h
theorem kit_str_dict : PySem.W.kitOne K (.type "str") (.type "dict") = some false := by kernel_rfl
theorem g_is_str_dict {i : Str} (h : Q (.bl false) H) : rIsi K [.str i, .ty "dict"] H Q := g_isi (.ty _) (.base (.str _)) kit_str_dict h
theorem kit_str_list : PySem.W.kitOne K (.type "str") (.type "list") = some false := by kernel_rfl
theorem g_is_str_list {i : Str} (h : Q (.bl false) H) : rIsi K [.str i, .ty "list"] H Q := g_isi (.ty _) (.base (.str _)) kit_str_list h
theorem kit_str_tuple : PySem.W.kitOne K (.type "str") (.type "tuple") = some false := by kernel_rfl
theorem g_is_str_tuple {i : Str} (h : Q (.bl false) H) : rIsi K [.str i, .ty "tuple"] H Q := g_isi (.ty _) (.base (.str _)) kit_str_tuple h
theorem kit_list_int : PySem.W.kitOne K (.type "list") (.type "int") = some false := by kernel_rfl
theorem g_is_list_int {a : Addr} {xs : List V} (s : H a = some (.lst xs)) (h : Q (.bl false) H) : rIsi K [.ref a, .ty "int"] H Q := g_isi (.ty _) (.base (.lst s)) kit_list_int h
theorem kit_list_str : PySem.W.kitOne K (.type "list") (.type "str") = some false := by kernel_rfl
theorem g_is_list_str {a : Addr} {xs : List V} (s : H a = some (.lst xs)) (h : Q (.bl false) H) : rIsi K [.ref a, .ty "str"] H Q := g_isi (.ty _) (.base (.lst s)) kit_list_str h
theorem kit_list_dict : PySem.W.kitOne K (.type "list") (.type "dict") = some false := by kernel_rfl
theorem g_is_list_dict {a : Addr} {xs : List V} (s : H a = some (.lst xs)) (h : Q (.bl false) H) : rIsi K [.ref a, .ty "dict"] H Q := g_isi (.ty _) (.base (.lst s)) kit_list_dict h
theorem kit_list_list : PySem.W.kitOne K (.type "list") (.type "list") = some true := by kernel_rfl
theorem g_is_list_list {a : Addr} {xs : List V} (s : H a = some (.lst xs)) (h : Q (.bl true) H) : rIsi K [.ref a, .ty "list"] H Q := g_isi (.ty _) (.base (.lst s)) kit_list_list h
theorem kit_list_tuple : PySem.W.kitOne K (.type "list") (.type "tuple") = some false := by kernel_rfl
theorem g_is_list_tuple {a : Addr} {xs : List V} (s : H a = some (.lst xs)) (h : Q (.bl false) H) : rIsi K [.ref a, .ty "tuple"] H Q := g_isi (.ty _) (.base (.lst s)) kit_list_tuple h
theorem kit_tuple_int : PySem.W.kitOne K (.type "tuple") (.type "int") = some false := by kernel_rfl
theorem g_is_tuple_int {a : Addr} {xs : List V} (s : H a = some (.tup xs)) (h : Q (.bl false) H) : rIsi K [.ref a, .ty "int"] H Q := g_isi (.ty _) (.base (.tup s)) kit_tuple_int h
theorem kit_tuple_str : PySem.W.kitOne K (.type "tuple") (.type "str") = some false := by kernel_rfl
theorem g_is_tuple_str {a : Addr} {xs : List V} (s : H a = some (.tup xs)) (h : Q (.bl false) H) : rIsi K [.ref a, .ty "str"] H Q := g_isi (.ty _) (.base (.tup s)) kit_tuple_str h
theorem kit_tuple_dict : PySem.W.kitOne K (.type "tuple") (.type "dict") = some false := by kernel_rfl
theorem g_is_tuple_dict {a : Addr} {xs : List V} (s : H a = some (.tup xs)) (h : Q (.bl false) H) : rIsi K [.ref a, .ty "dict"] H Q := g_isi (.ty _) (.base (.tup s)) kit_tuple_dict h
theorem kit_tuple_list : PySem.W.kitOne K (.type "tuple") (.type "list") = some false := by kernel_rfl
theorem g_is_tuple_list {a : Addr} {xs : List V} (s : H a = some (.tup xs)) (h : Q (.bl false) H) : rIsi K [.ref a, .ty "list"] H Q := g_isi (.ty _) (.base (.tup s)) kit_tuple_list h
theorem kit_tuple_tuple : PySem.W.kitOne K (.type "tuple") (.type "tuple") = some true := by kernel_rfl
theorem g_is_tuple_tuple {a : Addr} {xs : List V} (s : H a = some (.tup xs)) (h : Q (.bl true) H) : rIsi K [.ref a, .ty "tuple"] H Q := g_isi (.ty _) (.base (.tup s)) kit_tuple_tuple h
theorem g_ixSL {p : Addr} {xs : List V} {i : Int} {v : V} (s : SqL K H p xs) (e : atI xs i = some v) (h : Q v H) : rIx K (.ref p) (.int i) H Q := .inl (g_ixL s e h)
theorem g_ixST {p : Addr} {xs : List V} {i : Int} {v : V} (s : SqT K H p xs) (e : atI xs i = some v) (h : Q v H) : rIx K (.ref p) (.int i) H Q := .inr (.inl (g_ixT s e h))
end
theorem atI_zero {α : Type} {xs : List α} {x : α} (h : xs.head? = some x) : atI xs 0 = some x := by
  cases xs with
  | nil => cases h
  | cons y r =>
    cases h
    exact atI_nat (j := 0) rfl
theorem q_of {Q : VK} {H : Hp} {a b : V} (q : Q a H) (e : b = a) : Q b H := by rw [e]; exact q
theorem atI_ints {ns : List Int} {i : Int} (h0 : 0 ≤ i) (h1 : i < ((ns.map V.int).length : Nat)) : ∃ c, atI (ns.map V.int) i = some (.int c) := by
  rw [List.length_map] at h1
  refine ⟨ns[i.toNat]'(by omega), ?_⟩
  rw [atI_pos h0]
  simp [List.getElem?_map, List.getElem?_eq_getElem (show i.toNat < ns.length by omega)]
/-! ### the same data -/
theorem DS.non {H : Hp} {n : Nat} : DS H (n + 1) .non .non := .inl ⟨rfl, rfl⟩
theorem DS.bl {H : Hp} {n : Nat} {b : Bool} : DS H (n + 1) (.bl b) (.bl b) := .inr (.inl ⟨b, rfl, rfl⟩)
theorem DS.int {H : Hp} {n : Nat} {b : Int} : DS H (n + 1) (.int b) (.int b) := .inr (.inr (.inl ⟨b, rfl, rfl⟩))
theorem DS.str {H : Hp} {n : Nat} {b : Str} : DS H (n + 1) (.str b) (.str b) := .inr (.inr (.inr (.inl ⟨b, rfl, rfl⟩)))
theorem DS.tup {H : Hp} {n : Nat} {a b : Addr} {xs ys : List V} (h1 : H a = some (.tup xs)) (h2 : H b = some (.tup ys)) (l : xs.length = ys.length) (z : xs.length ≤ 100000) (k : ∀ (i : Nat) (u v : V), xs[i]? = some u → ys[i]? = some v → DS H n u v) : DS H (n + 1) (.ref a) (.ref b) :=
  .inr (.inr (.inr (.inr ⟨a, b, xs, ys, rfl, rfl, .inr ⟨h1, h2⟩, l, z, k⟩)))
theorem DS.lst {H : Hp} {n : Nat} {a b : Addr} {xs ys : List V} (h1 : H a = some (.lst xs)) (h2 : H b = some (.lst ys)) (l : xs.length = ys.length) (z : xs.length ≤ 100000) (k : ∀ (i : Nat) (u v : V), xs[i]? = some u → ys[i]? = some v → DS H n u v) : DS H (n + 1) (.ref a) (.ref b) :=
  .inr (.inr (.inr (.inr ⟨a, b, xs, ys, rfl, rfl, .inl ⟨h1, h2⟩, l, z, k⟩)))
theorem DS.of_bl {H : Hp} {a b : Addr} {bs : List Bool} (h1 : H a = some (.lst (bs.map V.bl))) (h2 : H b = some (.lst (bs.map V.bl))) (l : bs.length ≤ 100000) : DS H 4 (.ref a) (.ref b) := by
  refine .lst h1 h2 rfl (by rw [List.length_map]; exact l) fun i u v hu hv => ?_
  rw [hu] at hv
  cases hv
  rw [List.getElem?_map] at hu
  obtain ⟨x, _, rfl⟩ := Option.map_eq_some_iff.mp hu
  exact .bl
theorem Same.setNew {H H' : Hp} {l : Addr} {x : HO} (e : Same H H') (n : H l = none) : Same H (upd H' l x) := fun a o h => at_set (ne_of_free n h) (e _ _ h)
end L2
set_option maxHeartbeats 4000000
/-! A def that may raise, called where it does not. -/
namespace L2
open PySem PySem.Spec PyProof.Rows
theorem FnOk.calm {P : Program} {w : World} {K : PySem.W.Frag} {mg : Str → Option Value} {base : Heap} {k : Nat} {f : Addr} {fd : FuncData} {ps : List Str} {sp sp0 : Sp} (F : FnOk P w K mg base (L2.CX P w) k f fd ps sp)
    (h : ∀ vs H Q E, sp0 vs H Q E → sp vs H Q fun _ _ _ => False) : FnOk P w K mg base CX0 k f fd ps sp0 :=
  ⟨fun vs H Q E q => F.len _ _ _ _ (h _ _ _ _ q), fun A outer s H args us vs Q E hr he hb hv hs => codeAny_mono (F.run A outer s H args us vs Q _ hr he hb hv (h _ _ _ _ hs)) fun res s' hres => by
    cases res with
    | error e =>
      obtain ⟨_, _, _, _, _, _, _, _, _, _, _, _, z⟩ := hres
      exact z.elim
    | ok fl =>
      cases fl with
      | ret u => exact hres
      | next => exact hres
      | brk => exact hres
      | cont => exact hres⟩
/-- o[i] op= v at a list: what is read -/
theorem get_list {X : Cx} : PGet X (rIxL X.K) := by
  intro pins s σ H x y v u Q I rx ry h
  obtain ⟨p, xs, i, z, rfl, rfl, hq, he, q⟩ := h
  cases rx
  obtain ⟨t, rfl⟩ := ry
  obtain ⟨its, r, pl, hz⟩ := I.list hq
  obtain ⟨j, h1, h2, h3, h4, h5⟩ := atI_get he
  obtain ⟨w, ew, rw'⟩ := r.get h2
  have hl := r.length
  have hn := line63
  have fin : EP X pins σ Q w s := ⟨z, H, I, rw', q⟩
  by_cases h0 : 0 ≤ i
  · have hj : i.toNat = j := by
      rw [seqIndex_of h0 h5] at h1
      exact Option.some.inj h1
    exact wpAny_getItem_list pl.isList h0 (by omega) (by rw [hj]; simpa using ew) fin
  · have hj : (i + (its.toArray.size : Int)).toNat = j := by
      rw [seqIndex_neg (by omega) h4] at h1
      rw [List.size_toArray, ← hl]
      exact Option.some.inj h1
    exact wpAny_getItem_list_neg pl.isList (by omega) (by rw [List.size_toArray] <;> omega) (by omega) (by rw [hj]; simpa using ew) fin
section
variable {σ : St} {H : Hp} {Q : VK} {D : Ends} {to ti te : TE} {K : PySem.W.Frag}
theorem g_augS {tget : V → V → Hp → VK → Prop} {tip : TIp} {tset : TSet} (h : to σ H fun o H1 => ti σ H1 fun i H2 => tget o i H2 fun x H3 => te σ H3 fun y H4 => tip x y H4 fun z H5 => tset o i z H5 fun H6 => D.nx σ H6) : tAugS to ti te tget tip tset D σ H := h
theorem g_ipI {f : Int → Int → Int} {i j : Int} (h : Q (.int (f i j)) H) : ipI f (.int i) (.int j) H Q := ⟨i, j, rfl, rfl, h⟩
end
end L2
set_option maxHeartbeats 4000000
/-! == and != of lists of ints. -/
namespace L2
open PySem PySem.Spec PyProof.Rows
def dI (xs : List Int) : PyData := .list (xs.map PyData.int)
theorem dpI {K : PySem.W.Frag} {H : Hp} : ∀ xs : List Int, DpAll K H (xs.map V.int) (xs.map PyData.int)
  | [] => .nil
  | x :: r => .cons (.int x) (dpI r)
theorem eqvI : ∀ xs ys : List Int, PyData.eqvAll (xs.map PyData.int) (ys.map PyData.int) = decide (xs = ys)
  | [], [] => by rw [List.map_nil, PyData.eqvAll]; rfl
  | [], y :: s => by rw [List.map_nil, List.map_cons, PyData.eqvAll]; simp
  | x :: r, [] => by rw [List.map_nil, List.map_cons, PyData.eqvAll]; simp
  | x :: r, y :: s => by
    rw [List.map_cons, List.map_cons, PyData.eqvAll, PyData.eqv, eqvI r s]
    by_cases h : x = y <;> by_cases h2 : r = s <;> simp [h, h2]
theorem layI : ∀ xs : List Int, PyData.canLayAll0 (xs.map PyData.int) = true
  | [] => by rw [List.map_nil, PyData.canLayAll0]
  | x :: r => by rw [List.map_cons, PyData.canLayAll0, layI r, PyData.canLay0]; rfl
theorem depI : ∀ xs : List Int, PyData.depthAll (xs.map PyData.int) = 0
  | [] => by rw [List.map_nil, PyData.depthAll]
  | x :: r => by rw [List.map_cons, PyData.depthAll, depI r, PyData.depth]; rfl
theorem shapedI (xs : List Int) : SeqAt.shaped (dI xs) = true := by
  unfold SeqAt.shaped dI
  rw [PyData.canLay0, layI, PyData.depth, depI]
  rfl
section
variable {H : Hp} {Q : VK} {K : PySem.W.Frag} {a b : Addr} {xs ys : List Int}
theorem g_eqL (ha : SqL K H a (xs.map V.int)) (hb : SqL K H b (ys.map V.int)) (h : Q (.bl (decide (xs = ys))) H) : rEqD K (.ref a) (.ref b) H Q :=
  ⟨dI xs, dI ys, .lst ha (dpI xs), .lst hb (dpI ys), shapedI xs, shapedI ys, by unfold dI; rw [PyData.eqv, eqvI]; exact h⟩
theorem g_neL (ha : SqL K H a (xs.map V.int)) (hb : SqL K H b (ys.map V.int)) (h : Q (.bl (!decide (xs = ys))) H) : rNeD K (.ref a) (.ref b) H Q :=
  ⟨dI xs, dI ys, .lst ha (dpI xs), .lst hb (dpI ys), shapedI xs, shapedI ys, by unfold dI; rw [PyData.eqv, eqvI]; exact h⟩
end
/-! ### + and * of tuples and lists, in one step -/
theorem g_cat2 {K : PySem.W.Frag} {H : Hp} {Q : VK} {a b : Addr} {xs ys : List V} (ha : H a = some (.tup xs)) (hb : H b = some (.tup ys)) (l : xs.length + ys.length ≤ sizeLine) (h : ∀ p H', Same H H' → H' p = some (.tup (xs ++ ys)) → Q (.ref p) H') : rCatA K (.ref a) (.ref b) H Q :=
  g_cat (.of ha) (.of hb) l (fun e => h b H (.refl H) (by rw [hb, e]; rfl)) (fun _ e => h a H (.refl H) (by rw [ha, e, List.append_nil])) fun _ _ p hp => h p _ (.new hp) upd_same
theorem g_rep2 {K : PySem.W.Frag} {H : Hp} {Q : VK} {a : Addr} {x : V} {k : Int} (ha : H a = some (.tup [x])) (k0 : -(2 ^ 62) ≤ k) (k1 : k.toNat ≤ 1000000) (h : ∀ p H', Same H H' → H' p = some (.tup (List.replicate k.toNat x)) → Q (.ref p) H') : rRepF K (.ref a) (.int k) H Q := by
  refine ⟨a, k, [x], rfl, rfl, .of ha, by simp, k0, by simpa using k1, fun e => ?_, fun ne p hp => ?_⟩
  · subst e
    exact h a H (.refl H) ha
  · refine h p _ (.new hp) ?_
    rw [upd_same, List.flatten_replicate_singleton]
theorem g_repL {H : Hp} {Q : VK} {l : Addr} {x : V} {k : Int} (hl : H l = some (.lst [x])) (k0 : -(2 ^ 62) ≤ k) (k1 : k ≤ 1000000) (h : ∀ p, H p = none → Q (.ref p) (upd H p (.lst (List.replicate k.toNat x)))) : rRep (.ref l) (.int k) H Q := by
  refine ⟨l, k, [x], rfl, rfl, hl, by omega, by omega, by simp [sizeLine_eq]; omega, fun p hp => ?_⟩
  rw [List.flatten_replicate_singleton]
  exact h p hp
theorem g_nnR {H : Hp} {Q : VK} {a : Addr} (h : Q (.bl true) H) : rIsNotN (.ref a) .non H Q := ⟨rfl, h⟩
theorem g_nnN {H : Hp} {Q : VK} (h : Q (.bl false) H) : rIsNotN .non .non H Q := ⟨rfl, h⟩
theorem g_nnI {H : Hp} {Q : VK} {a : Int} (h : Q (.bl true) H) : rIsNotN (.int a) .non H Q := ⟨rfl, h⟩
theorem g_catL {H : Hp} {Q : VK} {a b : Addr} {xs ys : List V} (ha : H a = some (.lst xs)) (hb : H b = some (.lst ys)) (l : xs.length + ys.length ≤ sizeLine) (h : ∀ p, H p = none → Q (.ref p) (upd H p (.lst (xs ++ ys)))) : rCat (.ref a) (.ref b) H Q := ⟨a, b, xs, ys, rfl, rfl, ha, hb, l, h⟩
theorem g_slL {K : PySem.W.Frag} {H : Hp} {Q : VK} {a : Addr} {xs : List V} {lo hi : Option Int} (s : SqL K H a xs) (h : ∀ p, H p = none → Q (.ref p) (upd H p (.lst (cutV xs lo hi)))) : rSlL K (.ref a) lo hi H Q := ⟨a, xs, rfl, s, h⟩
end L2
set_option maxHeartbeats 4000000
/-! Circuits as the laws pass them: (free, gates, outputs); what they compute. -/
namespace FabC
open PySem PySem.Spec PyProof.Rows L2 FabH He
abbrev Gate : Type := Int × Int × Int
structure Circ where
  free : Int
  gates : List Gate
  ends : List Int
def wireOk (x w : Int) : Bool := decide (-1 ≤ x ∧ x < w)
def gateOk (g : Gate) (w : Int) : Bool := decide (0 ≤ g.1 ∧ g.1 ≤ 15) && (wireOk g.2.1 w && wireOk g.2.2 w)
theorem gateOk_iff {g : Gate} {w : Int} : gateOk g w = true ↔ (0 ≤ g.1 ∧ g.1 ≤ 15) ∧ (-1 ≤ g.2.1 ∧ g.2.1 < w) ∧ (-1 ≤ g.2.2 ∧ g.2.2 < w) := by
  simp only [gateOk, wireOk, Bool.and_eq_true, decide_eq_true_eq]
theorem wireOk_iff {x w : Int} : wireOk x w = true ↔ (-1 ≤ x ∧ x < w) := by
  simp only [wireOk, decide_eq_true_eq]
theorem gateOk.mono {g : Gate} {w w' : Int} (h : gateOk g w = true) (l : w ≤ w') : gateOk g w' = true := by
  have := gateOk_iff.mp h
  exact gateOk_iff.mpr (by omega)
theorem wireOk.mono {x w w' : Int} (h : wireOk x w = true) (l : w ≤ w') : wireOk x w' = true := by
  have := wireOk_iff.mp h
  exact wireOk_iff.mpr (by omega)
/-- each gate and output reads wires that are there -/
structure Wf (c : Circ) : Prop where
  f0 : 0 ≤ c.free
  g : ∀ (i : Nat) (g : Gate), c.gates[i]? = some g → gateOk g (c.free + (i : Nat)) = true
  e : ∀ (i : Nat) (z : Int), c.ends[i]? = some z → wireOk z (c.free + (c.gates.length : Nat)) = true
/-- sizes that the model's lists can bear -/
structure Fit (c : Circ) : Prop where
  f : c.free ≤ 100000
  g : c.gates.length ≤ 100000
  e : c.ends.length ≤ 100000
/-! ### data on the heap -/
def gV (H : Hp) (v : V) (g : Gate) : Prop := ∃ a, v = .ref a ∧ H a = some (.tup [.int g.1, .int g.2.1, .int g.2.2])
def gsV (H : Hp) (vs : List V) (gs : List Gate) : Prop := vs.length = gs.length ∧ ∀ (i : Nat) (v : V) (g : Gate), vs[i]? = some v → gs[i]? = some g → gV H v g
def cV (H : Hp) (v : V) (c : Circ) : Prop := ∃ (a g e : Addr) (vs : List V), v = .ref a ∧ H a = some (.tup [.int c.free, .ref g, .ref e]) ∧ H g = some (.tup vs) ∧ gsV H vs c.gates ∧ H e = some (.tup (c.ends.map V.int))
def poolsV (H : Hp) (v : V) : Prop := ∃ (l : Addr) (ps : List Addr), v = .ref l ∧ H l = some (.lst (ps.map V.ref)) ∧ ps ≠ [] ∧ ∀ p ∈ ps, IsPool H p
/-- a list or tuple of ints -/
def seqV (H : Hp) (v : V) (xs : List Int) : Prop := ∃ a, v = .ref a ∧ (H a = some (.lst (xs.map V.int)) ∨ H a = some (.tup (xs.map V.int)))
variable {H H' : Hp} {v : V} {l : Addr} {xs : List V} {x : HO}
theorem gV.same {g : Gate} (e : Same H H') (h : gV H v g) : gV H' v g := h.imp fun _ ⟨a, b⟩ => ⟨a, e _ _ b⟩
theorem gV.set {g : Gate} (hl : H l = some (.lst xs)) (h : gV H v g) : gV (upd H l x) v g := h.imp fun _ ⟨a, b⟩ => ⟨a, at_lst hl b tup_ne_lst⟩
theorem gsV.same {vs : List V} {gs : List Gate} (e : Same H H') (h : gsV H vs gs) : gsV H' vs gs := ⟨h.1, fun i v g a b => (h.2 i v g a b).same e⟩
theorem gsV.set {vs : List V} {gs : List Gate} (hl : H l = some (.lst xs)) (h : gsV H vs gs) : gsV (upd H l x) vs gs := ⟨h.1, fun i v g a b => (h.2 i v g a b).set hl⟩
theorem gsV.nil : gsV H [] [] := ⟨rfl, fun i v g a _ => by cases a⟩
theorem gsV.snoc {vs : List V} {gs : List Gate} {g : Gate} (h : gsV H vs gs) (hg : gV H v g) : gsV H (vs ++ [v]) (gs ++ [g]) := by
  refine ⟨by simp [h.1], fun i u k a b => ?_⟩
  by_cases hi : i < vs.length
  · rw [List.getElem?_append_left hi] at a
    rw [List.getElem?_append_left (by rw [← h.1]; exact hi)] at b
    exact h.2 i u k a b
  · have e : i = vs.length := by
      have := (List.getElem?_eq_some_iff.mp a).1
      simp at this
      omega
    subst e
    rw [List.getElem?_append_right (Nat.le_refl _), Nat.sub_self] at a
    rw [h.1, List.getElem?_append_right (Nat.le_refl _), Nat.sub_self] at b
    cases a
    cases b
    exact hg
theorem gsV.put {vs : List V} {gs : List Gate} {k : Nat} {g : Gate} (h : gsV H vs gs) (hg : gV H v g) : gsV H (vs.set k v) (gs.set k g) := by
  refine ⟨by rw [List.length_set, List.length_set]; exact h.1, fun i u x a b => ?_⟩
  by_cases e : i = k
  · subst e
    have hl := (List.getElem?_eq_some_iff.mp a).1
    rw [List.length_set] at hl
    rw [List.getElem?_set_self hl] at a
    rw [List.getElem?_set_self (by rw [← h.1]; exact hl)] at b
    cases a
    cases b
    exact hg
  · rw [List.getElem?_set_ne (Ne.symm e)] at a b
    exact h.2 i u x a b
theorem cV.same {c : Circ} (e : Same H H') (h : cV H v c) : cV H' v c := by
  obtain ⟨a, g, k, vs, rfl, h1, h2, h3, h4⟩ := h
  exact ⟨a, g, k, vs, rfl, e _ _ h1, e _ _ h2, h3.same e, e _ _ h4⟩
theorem cV.mk {a g k : Addr} {vs : List V} {c : Circ} (h1 : H a = some (.tup [.int c.free, .ref g, .ref k])) (h2 : H g = some (.tup vs)) (h3 : gsV H vs c.gates) (h4 : H k = some (.tup (c.ends.map V.int))) : cV H (.ref a) c := ⟨a, g, k, vs, rfl, h1, h2, h3, h4⟩
theorem poolsV.same (e : Same H H') (h : poolsV H v) : poolsV H' v := by
  obtain ⟨l, ps, rfl, h1, h2, h3⟩ := h
  exact ⟨l, ps, rfl, e _ _ h1, h2, fun p z => e _ _ (h3 p z)⟩
theorem seqV.same {ys : List Int} (e : Same H H') (h : seqV H v ys) : seqV H' v ys := by
  obtain ⟨a, rfl, h | h⟩ := h
  · exact ⟨a, rfl, .inl (e _ _ h)⟩
  · exact ⟨a, rfl, .inr (e _ _ h)⟩
theorem snoc_get {α : Type} {xs : List α} {x y : α} {k : Nat} (h : (xs ++ [x])[k]? = some y) : xs[k]? = some y ∨ (k = xs.length ∧ x = y) := by
  by_cases hi : k < xs.length
  · rw [List.getElem?_append_left hi] at h
    exact .inl h
  · have e : k = xs.length := by
      have := (List.getElem?_eq_some_iff.mp h).1
      simp at this
      omega
    subst e
    rw [List.getElem?_append_right (Nat.le_refl _), Nat.sub_self] at h
    exact .inr ⟨rfl, Option.some.inj h⟩
/-! ### what a circuit computes -/
def Bits (vs : List Int) : Prop := ∀ v ∈ vs, v = 0 ∨ v = 1
def lk (t x y : Int) : Int := Builtin.bitAnd (t / 2 ^ (2 * x + y).toNat) 1
theorem band1 (i : Int) : Builtin.bitAnd i 1 = i % 2 := by
  exact PySem.W.kbt_mask i 1
theorem lk_bit (t x y : Int) : lk t x y = 0 ∨ lk t x y = 1 := by
  unfold lk
  rw [band1]
  omega
def valOf (vs : List Int) (w : Int) : Int := if w = -1 then 0 else vs.getD w.toNat 0
theorem valOf_bit {vs : List Int} (h : Bits vs) (w : Int) : valOf vs w = 0 ∨ valOf vs w = 1 := by
  unfold valOf
  split
  · exact .inl rfl
  · rw [List.getD_eq_getElem?_getD]
    cases e : vs[w.toNat]? with
    | none => exact .inl rfl
    | some z => exact h z (List.mem_of_getElem? e)
def worths : List Gate → List Int → List Int
  | [], vs => vs
  | g :: r, vs => worths r (vs ++ [lk g.1 (valOf vs g.2.1) (valOf vs g.2.2)])
theorem worths_length : ∀ (gs : List Gate) (vs : List Int), (worths gs vs).length = vs.length + gs.length
  | [], vs => rfl
  | g :: r, vs => by
    unfold worths
    rw [worths_length r]
    simp
    omega
theorem Bits.snoc {vs : List Int} {b : Int} (h : Bits vs) (hb : b = 0 ∨ b = 1) : Bits (vs ++ [b]) := fun v hv => by
  rcases List.mem_append.mp hv with z | z
  · exact h v z
  · have e : v = b := by simpa using z
    rw [e]
    exact hb
theorem worths_bits : ∀ {gs : List Gate} {vs : List Int}, Bits vs → Bits (worths gs vs)
  | [], _, h => h
  | g :: r, vs, h => by
    unfold worths
    exact worths_bits (h.snoc (lk_bit _ _ _))
/-- gate by gate -/
theorem worths_snoc : ∀ (gs : List Gate) (g : Gate) (vs : List Int), worths (gs ++ [g]) vs = worths gs vs ++ [lk g.1 (valOf (worths gs vs) g.2.1) (valOf (worths gs vs) g.2.2)]
  | [], g, vs => rfl
  | k :: r, g, vs => by
    show worths (r ++ [g]) (vs ++ [lk k.1 (valOf vs k.2.1) (valOf vs k.2.2)]) = _
    rw [worths_snoc r g]
    rfl
theorem worths_take {gs : List Gate} {vs : List Int} {i : Nat} {g : Gate} (h : gs[i]? = some g) : worths (gs.take (i + 1)) vs = worths (gs.take i) vs ++ [lk g.1 (valOf (worths (gs.take i) vs) g.2.1) (valOf (worths (gs.take i) vs) g.2.2)] := by
  rw [List.take_add_one, h]
  exact worths_snoc _ _ _
def shown (c : Circ) (vs : List Int) : List Int := c.ends.map (valOf (worths c.gates vs))
theorem valOf_at {vs : List Int} {w : Int} (h0 : 0 ≤ w) (h1 : w < (vs.length : Nat)) : atI (vs.map V.int) w = some (.int (valOf vs w)) := by
  rw [atI_pos h0, List.getElem?_map]
  have hl : w.toNat < vs.length := by omega
  unfold valOf
  rw [if_neg (by omega), List.getD_eq_getElem?_getD, List.getElem?_eq_getElem hl]
  rfl
theorem valOf_out {vs : List Int} : valOf vs (-1) = 0 := rfl
/-! ### the promises of the common helpers -/
def sp__law_wire : Sp := fun vs H Q _ => ∃ (v : V) (w : Int), vs = [v, .int w] ∧ poolsV H v ∧ 0 ≤ w ∧ w < 1000000 ∧ ∀ r, wireOk r w = true → Q (.int r) H
def sp__law_drawn : Sp := fun vs H Q _ => ∃ (v : V) (f n m : Int), vs = [v, .int f, .int n, .int m] ∧ poolsV H v ∧ 0 ≤ f ∧ f ≤ 100000 ∧ 0 ≤ n ∧ n ≤ 100000 ∧ 0 ≤ m ∧ m ≤ 100000 ∧
  ∀ u c H', Same H H' → cV H' u c → Wf c → c.free = f → c.gates.length = n.toNat → c.ends.length = m.toNat → Q u H'
end FabC
set_option maxHeartbeats 4000000
namespace K19
open PySem PySem.Spec PyProof.Rows L2 FabH He
def topS (i : Nat) : Stmt := PySem.Challenge.pw_gatesofcloth_k19_worths_and_truth_tables.main.body.getD i (.Pass ⟨0, 0, 0, 0⟩)
abbrev theFile : Str := "/claim/cut.py"
abbrev s_to_bits : Stmt := topS 8
abbrev s_lookup : Stmt := topS 10
abbrev s_value_of : Stmt := topS 12
abbrev s_wire_values : Stmt := topS 13
abbrev s_evaluate : Stmt := topS 14
abbrev s_reader_counts : Stmt := topS 15
abbrev s_truth_table : Stmt := topS 18
abbrev s_difference : Stmt := topS 19
abbrev s__law_pool : Stmt := topS 21
abbrev s__law_draw : Stmt := topS 22
abbrev s__law_take : Stmt := topS 23
abbrev s__law_same : Stmt := topS 24
abbrev s__law_bits : Stmt := topS 25
abbrev s__law_worths : Stmt := topS 26
abbrev s__law_shown : Stmt := topS 27
abbrev s__law_readers : Stmt := topS 28
abbrev s__law_wire : Stmt := topS 29
abbrev s__law_drawn : Stmt := topS 30
abbrev s__law_chain : Stmt := topS 31
abbrev s__law_second : Stmt := topS 32
abbrev s__law_values_right : Stmt := topS 33
abbrev s__law_counts_right : Stmt := topS 34
abbrev s__law_table_right : Stmt := topS 35
abbrev s__law_parted : Stmt := topS 36
abbrev s__law_difference_right : Stmt := topS 37
abbrev s__law_told_values : Stmt := topS 38
abbrev s__law_told_outputs : Stmt := topS 39
abbrev s__law_told_table : Stmt := topS 40
abbrev s__law_told_difference : Stmt := topS 41
abbrev s__law_by_base : Stmt := topS 42
abbrev s__law_values_refused : Stmt := topS 43
abbrev s__law_sizes_refused : Stmt := topS 44
abbrev s__law_wide_refused : Stmt := topS 45
abbrev s_law : Stmt := topS 46
def er_SizeError : ErrD := { x := "SizeError", fl := "size", msg := "size out of range", qual := "SizeError.__init__", p1 := ⟨6, 17, 6, 21⟩, p2 := ⟨6, 23, 6, 27⟩, q0 := ⟨7, 8, 7, 13⟩, q1 := ⟨7, 8, 7, 15⟩, q2 := ⟨7, 8, 7, 24⟩, q3 := ⟨7, 25, 7, 44⟩, q4 := ⟨7, 8, 7, 45⟩, q5 := ⟨7, 8, 7, 45⟩, q6 := ⟨8, 8, 8, 12⟩, q7 := ⟨8, 8, 8, 17⟩, q8 := ⟨8, 20, 8, 24⟩, q9 := ⟨8, 8, 8, 24⟩ }
theorem er_SizeError_good : er_SizeError.Good := ⟨by decide +kernel, by decide +kernel, fun _ _ _ _ _ _ _ _ => rfl⟩
def er_BitsError : ErrD := { x := "BitsError", fl := "index", msg := "invalid bits", qual := "BitsError.__init__", p1 := ⟨11, 17, 11, 21⟩, p2 := ⟨11, 23, 11, 28⟩, q0 := ⟨12, 8, 12, 13⟩, q1 := ⟨12, 8, 12, 15⟩, q2 := ⟨12, 8, 12, 24⟩, q3 := ⟨12, 25, 12, 39⟩, q4 := ⟨12, 8, 12, 40⟩, q5 := ⟨12, 8, 12, 40⟩, q6 := ⟨13, 8, 13, 12⟩, q7 := ⟨13, 8, 13, 18⟩, q8 := ⟨13, 21, 13, 26⟩, q9 := ⟨13, 8, 13, 26⟩ }
theorem er_BitsError_good : er_BitsError.Good := ⟨by decide +kernel, by decide +kernel, fun _ _ _ _ _ _ _ _ => rfl⟩
def er_MachineError : ErrD := { x := "MachineError", fl := "rule", msg := "invalid machine", qual := "MachineError.__init__", p1 := ⟨16, 17, 16, 21⟩, p2 := ⟨16, 23, 16, 27⟩, q0 := ⟨17, 8, 17, 13⟩, q1 := ⟨17, 8, 17, 15⟩, q2 := ⟨17, 8, 17, 24⟩, q3 := ⟨17, 25, 17, 42⟩, q4 := ⟨17, 8, 17, 43⟩, q5 := ⟨17, 8, 17, 43⟩, q6 := ⟨18, 8, 18, 12⟩, q7 := ⟨18, 8, 18, 17⟩, q8 := ⟨18, 20, 18, 24⟩, q9 := ⟨18, 8, 18, 24⟩ }
theorem er_MachineError_good : er_MachineError.Good := ⟨by decide +kernel, by decide +kernel, fun _ _ _ _ _ _ _ _ => rfl⟩
def er_CircuitError : ErrD := { x := "CircuitError", fl := "index", msg := "invalid gate or output", qual := "CircuitError.__init__", p1 := ⟨21, 17, 21, 21⟩, p2 := ⟨21, 23, 21, 28⟩, q0 := ⟨22, 8, 22, 13⟩, q1 := ⟨22, 8, 22, 15⟩, q2 := ⟨22, 8, 22, 24⟩, q3 := ⟨22, 25, 22, 49⟩, q4 := ⟨22, 8, 22, 50⟩, q5 := ⟨22, 8, 22, 50⟩, q6 := ⟨23, 8, 23, 12⟩, q7 := ⟨23, 8, 23, 18⟩, q8 := ⟨23, 21, 23, 26⟩, q9 := ⟨23, 8, 23, 26⟩ }
theorem er_CircuitError_good : er_CircuitError.Good := ⟨by decide +kernel, by decide +kernel, fun _ _ _ _ _ _ _ _ => rfl⟩
def er_FanoutError : ErrD := { x := "FanoutError", fl := "wire", msg := "wire with more than two readers", qual := "FanoutError.__init__", p1 := ⟨26, 17, 26, 21⟩, p2 := ⟨26, 23, 26, 27⟩, q0 := ⟨27, 8, 27, 13⟩, q1 := ⟨27, 8, 27, 15⟩, q2 := ⟨27, 8, 27, 24⟩, q3 := ⟨27, 25, 27, 58⟩, q4 := ⟨27, 8, 27, 59⟩, q5 := ⟨27, 8, 27, 59⟩, q6 := ⟨28, 8, 28, 12⟩, q7 := ⟨28, 8, 28, 17⟩, q8 := ⟨28, 20, 28, 24⟩, q9 := ⟨28, 8, 28, 24⟩ }
theorem er_FanoutError_good : er_FanoutError.Good := ⟨by decide +kernel, by decide +kernel, fun _ _ _ _ _ _ _ _ => rfl⟩
/-- what stands behind the top, by names -/
structure Txt (P : Program) (K : PySem.W.Frag) (mg : Str → Option Value) : Prop where
  pf : FileOk P theFile
  f_to_bits : GF K mg "to_bits" s_to_bits
  f_lookup : GF K mg "lookup" s_lookup
  f_value_of : GF K mg "value_of" s_value_of
  f_wire_values : GF K mg "wire_values" s_wire_values
  f_evaluate : GF K mg "evaluate" s_evaluate
  f_reader_counts : GF K mg "reader_counts" s_reader_counts
  f_truth_table : GF K mg "truth_table" s_truth_table
  f_difference : GF K mg "difference" s_difference
  f__law_pool : GF K mg "_law_pool" s__law_pool
  f__law_draw : GF K mg "_law_draw" s__law_draw
  f__law_take : GF K mg "_law_take" s__law_take
  f__law_same : GF K mg "_law_same" s__law_same
  f__law_bits : GF K mg "_law_bits" s__law_bits
  f__law_worths : GF K mg "_law_worths" s__law_worths
  f__law_shown : GF K mg "_law_shown" s__law_shown
  f__law_readers : GF K mg "_law_readers" s__law_readers
  f__law_wire : GF K mg "_law_wire" s__law_wire
  f__law_drawn : GF K mg "_law_drawn" s__law_drawn
  f__law_chain : GF K mg "_law_chain" s__law_chain
  f__law_second : GF K mg "_law_second" s__law_second
  f__law_values_right : GF K mg "_law_values_right" s__law_values_right
  f__law_counts_right : GF K mg "_law_counts_right" s__law_counts_right
  f__law_table_right : GF K mg "_law_table_right" s__law_table_right
  f__law_parted : GF K mg "_law_parted" s__law_parted
  f__law_difference_right : GF K mg "_law_difference_right" s__law_difference_right
  f__law_told_values : GF K mg "_law_told_values" s__law_told_values
  f__law_told_outputs : GF K mg "_law_told_outputs" s__law_told_outputs
  f__law_told_table : GF K mg "_law_told_table" s__law_told_table
  f__law_told_difference : GF K mg "_law_told_difference" s__law_told_difference
  f__law_by_base : GF K mg "_law_by_base" s__law_by_base
  f__law_values_refused : GF K mg "_law_values_refused" s__law_values_refused
  f__law_sizes_refused : GF K mg "_law_sizes_refused" s__law_sizes_refused
  f__law_wide_refused : GF K mg "_law_wide_refused" s__law_wide_refused
  f_law : GF K mg "law" s_law
  g_FabricError : mg "FabricError" = some (.ref (ga K "FabricError"))
  g_SizeError : mg "SizeError" = some (.ref (ga K "SizeError"))
  g_BitsError : mg "BitsError" = some (.ref (ga K "BitsError"))
  g_MachineError : mg "MachineError" = some (.ref (ga K "MachineError"))
  g_CircuitError : mg "CircuitError" = some (.ref (ga K "CircuitError"))
  g_FanoutError : mg "FanoutError" = some (.ref (ga K "FanoutError"))
  e_SizeError : PySem.FabX.ErrTxt K theFile "size" (ga K "SizeError") (initOf K "SizeError") (ccOf K "SizeError") (cdaOf K "SizeError")
  x_SizeError : ExcC K (ga K "SizeError") ∧ XfC K (ga K "SizeError")
  e_BitsError : PySem.FabX.ErrTxt K theFile "index" (ga K "BitsError") (initOf K "BitsError") (ccOf K "BitsError") (cdaOf K "BitsError")
  x_BitsError : ExcC K (ga K "BitsError") ∧ XfC K (ga K "BitsError")
  e_MachineError : PySem.FabX.ErrTxt K theFile "rule" (ga K "MachineError") (initOf K "MachineError") (ccOf K "MachineError") (cdaOf K "MachineError")
  x_MachineError : ExcC K (ga K "MachineError") ∧ XfC K (ga K "MachineError")
  e_CircuitError : PySem.FabX.ErrTxt K theFile "index" (ga K "CircuitError") (initOf K "CircuitError") (ccOf K "CircuitError") (cdaOf K "CircuitError")
  x_CircuitError : ExcC K (ga K "CircuitError") ∧ XfC K (ga K "CircuitError")
  e_FanoutError : PySem.FabX.ErrTxt K theFile "wire" (ga K "FanoutError") (initOf K "FanoutError") (ccOf K "FanoutError") (cdaOf K "FanoutError")
  x_FanoutError : ExcC K (ga K "FanoutError") ∧ XfC K (ga K "FanoutError")
  n_ValueError : mg "ValueError" = none
  n_abs : mg "abs" = none
  n_bool : mg "bool" = none
  n_dict : mg "dict" = none
  n_int : mg "int" = none
  n_isinstance : mg "isinstance" = none
  n_len : mg "len" = none
  n_list : mg "list" = none
  n_max : mg "max" = none
  n_range : mg "range" = none
  n_str : mg "str" = none
  n_super : mg "super" = none
  n_tuple : mg "tuple" = none
  c_MOST_TABLE_INPUTS : ∃ t, mg "MOST_TABLE_INPUTS" = some (.int 8 t)
  k_SizeError_ValueError : PySem.W.kitOne K (.ref (ga K "SizeError")) (.type "ValueError") = some true
  k_SizeError_SizeError : PySem.W.kitOne K (.ref (ga K "SizeError")) (.ref (ga K "SizeError")) = some true
  k_SizeError_BitsError : PySem.W.kitOne K (.ref (ga K "SizeError")) (.ref (ga K "BitsError")) = some false
  k_SizeError_CircuitError : PySem.W.kitOne K (.ref (ga K "SizeError")) (.ref (ga K "CircuitError")) = some false
  k_SizeError_FanoutError : PySem.W.kitOne K (.ref (ga K "SizeError")) (.ref (ga K "FanoutError")) = some false
  k_SizeError_MachineError : PySem.W.kitOne K (.ref (ga K "SizeError")) (.ref (ga K "MachineError")) = some false
  m_SizeError_SizeError : PySem.W.exmOne K (.ref (ga K "SizeError")) (.ref (ga K "SizeError")) = some true
  m_SizeError_FabricError : PySem.W.exmOne K (.ref (ga K "SizeError")) (.ref (ga K "FabricError")) = some true
def fa : List Fa := [.glo "to_bits",
  .glo "lookup",
  .glo "value_of",
  .glo "wire_values",
  .glo "evaluate",
  .glo "reader_counts",
  .glo "truth_table",
  .glo "difference",
  .glo "_law_pool",
  .glo "_law_draw",
  .glo "_law_take",
  .glo "_law_same",
  .glo "_law_bits",
  .glo "_law_worths",
  .glo "_law_shown",
  .glo "_law_readers",
  .glo "_law_wire",
  .glo "_law_drawn",
  .glo "_law_chain",
  .glo "_law_second",
  .glo "_law_values_right",
  .glo "_law_counts_right",
  .glo "_law_table_right",
  .glo "_law_parted",
  .glo "_law_difference_right",
  .glo "_law_told_values",
  .glo "_law_told_outputs",
  .glo "_law_told_table",
  .glo "_law_told_difference",
  .glo "_law_by_base",
  .glo "_law_values_refused",
  .glo "_law_sizes_refused",
  .glo "_law_wide_refused",
  .glo "law",
  .glo "FabricError",
  .glo "SizeError",
  .glo "BitsError",
  .glo "MachineError",
  .glo "CircuitError",
  .glo "FanoutError",
  .free "ValueError",
  .free "abs",
  .free "bool",
  .free "dict",
  .free "int",
  .free "isinstance",
  .free "len",
  .free "list",
  .free "max",
  .free "range",
  .free "str",
  .free "super",
  .free "tuple",
  .int "MOST_TABLE_INPUTS" 8,
  .exm "SizeError" "SizeError" true,
  .exm "SizeError" "FabricError" true]
def fn : List DefD := [dOf "to_bits" s_to_bits, dOf "lookup" s_lookup, dOf "value_of" s_value_of, dOf "wire_values" s_wire_values, dOf "evaluate" s_evaluate, dOf "reader_counts" s_reader_counts, dOf "truth_table" s_truth_table, dOf "difference" s_difference, dOf "_law_pool" s__law_pool, dOf "_law_draw" s__law_draw, dOf "_law_take" s__law_take, dOf "_law_same" s__law_same, dOf "_law_bits" s__law_bits, dOf "_law_worths" s__law_worths, dOf "_law_shown" s__law_shown, dOf "_law_readers" s__law_readers, dOf "_law_wire" s__law_wire, dOf "_law_drawn" s__law_drawn, dOf "_law_chain" s__law_chain, dOf "_law_second" s__law_second, dOf "_law_values_right" s__law_values_right, dOf "_law_counts_right" s__law_counts_right, dOf "_law_table_right" s__law_table_right, dOf "_law_parted" s__law_parted, dOf "_law_difference_right" s__law_difference_right, dOf "_law_told_values" s__law_told_values, dOf "_law_told_outputs" s__law_told_outputs, dOf "_law_told_table" s__law_told_table, dOf "_law_told_difference" s__law_told_difference, dOf "_law_by_base" s__law_by_base, dOf "_law_values_refused" s__law_values_refused, dOf "_law_sizes_refused" s__law_sizes_refused, dOf "_law_wide_refused" s__law_wide_refused, dOf "law" s_law]
def er : List ErrD := [er_SizeError, er_BitsError, er_MachineError, er_CircuitError, er_FanoutError]
def ex (K : PySem.W.Frag) : Bool := suiteB K "SizeError" && (suiteB K "BitsError" && (suiteB K "MachineError" && (suiteB K "CircuitError" && (suiteB K "FanoutError" && (oB (PySem.W.kitOne K (.ref (ga K "SizeError")) (.type "ValueError")) true && (oB (PySem.W.kitOne K (.ref (ga K "SizeError")) (.ref (ga K "SizeError"))) true && (oB (PySem.W.kitOne K (.ref (ga K "SizeError")) (.ref (ga K "BitsError"))) false && (oB (PySem.W.kitOne K (.ref (ga K "SizeError")) (.ref (ga K "CircuitError"))) false && (oB (PySem.W.kitOne K (.ref (ga K "SizeError")) (.ref (ga K "FanoutError"))) false && (oB (PySem.W.kitOne K (.ref (ga K "SizeError")) (.ref (ga K "MachineError"))) false && (true)))))))))))
theorem txt_of {P : Program} {K : PySem.W.Frag} {h : Heap} {mg : Str → Option Value} (pf : FileOk P theFile) (X : K.In h) (G : h.Ns mainGlobals mg) (c : SaysF fa fn theFile er ex K) : Txt P K mg := by
  have z := c.bools.2.2.2
  obtain ⟨z0, z⟩ := ba z
  obtain ⟨z1, z⟩ := ba z
  obtain ⟨z2, z⟩ := ba z
  obtain ⟨z3, z⟩ := ba z
  obtain ⟨z4, z⟩ := ba z
  obtain ⟨z5, z⟩ := ba z
  obtain ⟨z6, z⟩ := ba z
  obtain ⟨z7, z⟩ := ba z
  obtain ⟨z8, z⟩ := ba z
  obtain ⟨z9, z⟩ := ba z
  obtain ⟨z10, z⟩ := ba z
  exact {
    pf := pf
    f_to_bits := c.gf X G 0 0 rfl rfl
    f_lookup := c.gf X G 1 1 rfl rfl
    f_value_of := c.gf X G 2 2 rfl rfl
    f_wire_values := c.gf X G 3 3 rfl rfl
    f_evaluate := c.gf X G 4 4 rfl rfl
    f_reader_counts := c.gf X G 5 5 rfl rfl
    f_truth_table := c.gf X G 6 6 rfl rfl
    f_difference := c.gf X G 7 7 rfl rfl
    f__law_pool := c.gf X G 8 8 rfl rfl
    f__law_draw := c.gf X G 9 9 rfl rfl
    f__law_take := c.gf X G 10 10 rfl rfl
    f__law_same := c.gf X G 11 11 rfl rfl
    f__law_bits := c.gf X G 12 12 rfl rfl
    f__law_worths := c.gf X G 13 13 rfl rfl
    f__law_shown := c.gf X G 14 14 rfl rfl
    f__law_readers := c.gf X G 15 15 rfl rfl
    f__law_wire := c.gf X G 16 16 rfl rfl
    f__law_drawn := c.gf X G 17 17 rfl rfl
    f__law_chain := c.gf X G 18 18 rfl rfl
    f__law_second := c.gf X G 19 19 rfl rfl
    f__law_values_right := c.gf X G 20 20 rfl rfl
    f__law_counts_right := c.gf X G 21 21 rfl rfl
    f__law_table_right := c.gf X G 22 22 rfl rfl
    f__law_parted := c.gf X G 23 23 rfl rfl
    f__law_difference_right := c.gf X G 24 24 rfl rfl
    f__law_told_values := c.gf X G 25 25 rfl rfl
    f__law_told_outputs := c.gf X G 26 26 rfl rfl
    f__law_told_table := c.gf X G 27 27 rfl rfl
    f__law_told_difference := c.gf X G 28 28 rfl rfl
    f__law_by_base := c.gf X G 29 29 rfl rfl
    f__law_values_refused := c.gf X G 30 30 rfl rfl
    f__law_sizes_refused := c.gf X G 31 31 rfl rfl
    f__law_wide_refused := c.gf X G 32 32 rfl rfl
    f_law := c.gf X G 33 33 rfl rfl
    g_FabricError := glo_ok X G (c.fact 34 rfl)
    g_SizeError := glo_ok X G (c.fact 35 rfl)
    g_BitsError := glo_ok X G (c.fact 36 rfl)
    g_MachineError := glo_ok X G (c.fact 37 rfl)
    g_CircuitError := glo_ok X G (c.fact 38 rfl)
    g_FanoutError := glo_ok X G (c.fact 39 rfl)
    e_SizeError := c.err 0 rfl er_SizeError_good
    x_SizeError := suiteB_ok z0
    e_BitsError := c.err 1 rfl er_BitsError_good
    x_BitsError := suiteB_ok z1
    e_MachineError := c.err 2 rfl er_MachineError_good
    x_MachineError := suiteB_ok z2
    e_CircuitError := c.err 3 rfl er_CircuitError_good
    x_CircuitError := suiteB_ok z3
    e_FanoutError := c.err 4 rfl er_FanoutError_good
    x_FanoutError := suiteB_ok z4
    n_ValueError := free_ok X G (c.fact 40 rfl)
    n_abs := free_ok X G (c.fact 41 rfl)
    n_bool := free_ok X G (c.fact 42 rfl)
    n_dict := free_ok X G (c.fact 43 rfl)
    n_int := free_ok X G (c.fact 44 rfl)
    n_isinstance := free_ok X G (c.fact 45 rfl)
    n_len := free_ok X G (c.fact 46 rfl)
    n_list := free_ok X G (c.fact 47 rfl)
    n_max := free_ok X G (c.fact 48 rfl)
    n_range := free_ok X G (c.fact 49 rfl)
    n_str := free_ok X G (c.fact 50 rfl)
    n_super := free_ok X G (c.fact 51 rfl)
    n_tuple := free_ok X G (c.fact 52 rfl)
    c_MOST_TABLE_INPUTS := int_ok X G (c.fact 53 rfl)
    k_SizeError_ValueError := of_decide_eq_true z5
    k_SizeError_SizeError := of_decide_eq_true z6
    k_SizeError_BitsError := of_decide_eq_true z7
    k_SizeError_CircuitError := of_decide_eq_true z8
    k_SizeError_FanoutError := of_decide_eq_true z9
    k_SizeError_MachineError := of_decide_eq_true z10
    m_SizeError_SizeError := exm_ok (c.fact 54 rfl)
    m_SizeError_FabricError := exm_ok (c.fact 55 rfl) }
end K19
set_option maxHeartbeats 0
namespace K19
open PySem PySem.W PySem.Calls PyProof.Rows
def names0 : List PySem.Str := ["FabricError", "SizeError", "BitsError", "MachineError", "CircuitError", "FanoutError", "to_bits", "lookup", "value_of", "wire_values", "evaluate", "reader_counts", "MOST_TABLE_INPUTS", "truth_table", "difference", "_law_pool", "_law_draw", "_law_take", "_law_same", "_law_bits", "_law_worths", "_law_shown", "_law_readers", "_law_wire", "_law_drawn", "_law_chain", "_law_second", "_law_values_right", "_law_counts_right", "_law_table_right"]
def names1 : List PySem.Str := ["_law_parted", "_law_difference_right", "_law_told_values", "_law_told_outputs", "_law_told_table", "_law_told_difference", "_law_by_base", "_law_values_refused", "_law_sizes_refused", "_law_wide_refused"]
def names : List PySem.Str := names0 ++ names1
abbrev R : OpenRow := OpenLaw.row PySem.Challenge.rw_gatesofcloth_k19_worths_and_truth_tables
abbrev hk : Hook := FabH.hookF 6 fa fn theFile er ex
def ob (s : SharedT) : FabH.AlF := FabH.obsFG 6 fa fn theFile er ex (HandSHeadRun.getT s)
theorem ob_eq (s : SharedT) : ob s = hk.obs s.abs := FabH.obsFG_eq (HandSHeadRun.getT_eq s)
theorem run (w : World) : HandSHeadRun.RunEq R (view R.prog [46]) hk ob 12000 names w := by
  intro os
  kernel_rfl
end K19
set_option maxHeartbeats 4000000
/-! k19: the mirror and the promises. -/
namespace K19
open PySem PySem.Spec PyProof.Rows L2 FabH He FabC
/-- the bits of v from the lowest on -/
def bitsOf (v : Int) (n : Nat) : List Int := (List.range n).map fun (k : Nat) => v / 2 ^ k % 2
def rowsOf (n : Nat) : List (List Int) := (List.range (2 ^ n)).map fun (r : Nat) => bitsOf (r : Int) n
def tableOf (c : Circ) (rows : List (List Int)) : List (List Int) := rows.map (shown c)
/-- the first row for which the two show unlike bits -/
def parted (c d : Circ) : List (List Int) → Option (List Int)
  | [] => none
  | r :: rs => if shown c r = shown d r then parted c d rs else some r
/-- how often each wire is read -/
def incr (cs : List Int) (w : Int) : List Int := if w = -1 then cs else cs.set w.toNat (cs.getD w.toNat 0 + 1)
def readers (c : Circ) : List Int := (c.ends).foldl incr ((c.gates).foldl (fun cs g => incr (incr cs g.2.1) g.2.2) (List.replicate (c.free + (c.gates.length : Nat)).toNat 0))
/-! ### data -/
/-- a fresh list of lists of ints -/
def tabV (H : Hp) (v : V) (ls : List (List Int)) : Prop := ∃ (l : Addr) (rs : List Addr), v = .ref l ∧ H l = some (.lst (rs.map V.ref)) ∧ rs.length = ls.length ∧ ∀ (i : Nat) (r : Addr) (x : List Int), rs[i]? = some r → ls[i]? = some x → H r = some (.lst (x.map V.int))
def lstV (H : Hp) (v : V) (xs : List Int) : Prop := ∃ l, v = .ref l ∧ H l = some (.lst (xs.map V.int))
/-- a list that was not there -/
def newV (H H' : Hp) (v : V) (xs : List Int) : Prop := ∃ l, v = .ref l ∧ H l = none ∧ H' l = some (.lst (xs.map V.int))
def newT (H H' : Hp) (v : V) (ls : List (List Int)) : Prop := ∃ (l : Addr) (rs : List Addr), v = .ref l ∧ H l = none ∧ H' l = some (.lst (rs.map V.ref)) ∧ rs.length = ls.length ∧ (∀ r ∈ rs, H r = none ∧ r ≠ l) ∧ ∀ (i : Nat) (r : Addr) (x : List Int), rs[i]? = some r → ls[i]? = some x → H' r = some (.lst (x.map V.int))
def tagV (H : Hp) (v : V) (n : Int) : Prop := ∃ a, v = .ref a ∧ H a = some (.tup [.str "size", .int n])
/-- rows that fit a circuit -/
def RowsOk (c : Circ) (ls : List (List Int)) : Prop := ∀ x ∈ ls, Bits x ∧ (x.length : Int) = c.free
structure Good (c : Circ) : Prop where
  wf : Wf c
  f : c.free ≤ 3000
  g : c.gates.length ≤ 2000
  e : c.ends.length ≤ 2000
section
variable (K : PySem.W.Frag)
def sizeE (H : Hp) (E : XK) (n : Int) : Prop := ∀ d H', Same H H' → H' d = some (.xd [(("size" : Str), .int n)]) → E (.ref (ga K "SizeError")) (some d) H'
def sp_to_bits : Sp := fun vs H Q _ => ∃ (v n : Int), vs = [.int v, .int n] ∧ 0 ≤ n ∧ n ≤ 48 ∧ 0 ≤ v ∧ v < 2 ^ n.toNat ∧ ∀ u H', Same H H' → newV H H' u (bitsOf v n.toNat) → Q u H'
def sp_lookup : Sp := fun vs H Q _ => ∃ (t x y : Int), vs = [.int t, .int x, .int y] ∧ (x = 0 ∨ x = 1) ∧ (y = 0 ∨ y = 1) ∧ Q (.int (lk t x y)) H
def sp_value_of : Sp := fun vs H Q _ => ∃ (v : V) (xs : List Int) (w : Int), vs = [v, .int w] ∧ lstV H v xs ∧ -1 ≤ w ∧ w < (xs.length : Nat) ∧ Q (.int (valOf xs w)) H
def sp_wire_values : Sp := fun vs H Q E => ∃ (u v : V) (c : Circ) (xs : List Int), vs = [u, v] ∧ cV H u c ∧ Good c ∧ seqV H v xs ∧ Bits xs ∧ xs.length ≤ 10000 ∧ ((xs.length : Int) = c.free → ∀ w H', Same H H' → newV H H' w (worths c.gates xs) → Q w H') ∧ ((xs.length : Int) ≠ c.free → sizeE K H E (xs.length : Nat))
def sp0_wire_values : Sp := fun vs H Q _ => ∃ (u v : V) (c : Circ) (xs : List Int), vs = [u, v] ∧ cV H u c ∧ Good c ∧ seqV H v xs ∧ Bits xs ∧ xs.length ≤ 10000 ∧ (xs.length : Int) = c.free ∧ ∀ w H', Same H H' → newV H H' w (worths c.gates xs) → Q w H'
def sp_evaluate : Sp := fun vs H Q E => ∃ (u v : V) (c : Circ) (xs : List Int), vs = [u, v] ∧ cV H u c ∧ Good c ∧ seqV H v xs ∧ Bits xs ∧ xs.length ≤ 10000 ∧ ((xs.length : Int) = c.free → ∀ w H', Same H H' → newV H H' w (shown c xs) → Q w H') ∧ ((xs.length : Int) ≠ c.free → sizeE K H E (xs.length : Nat))
def sp0_evaluate : Sp := fun vs H Q _ => ∃ (u v : V) (c : Circ) (xs : List Int), vs = [u, v] ∧ cV H u c ∧ Good c ∧ seqV H v xs ∧ Bits xs ∧ xs.length ≤ 10000 ∧ (xs.length : Int) = c.free ∧ ∀ w H', Same H H' → newV H H' w (shown c xs) → Q w H'
def sp_reader_counts : Sp := fun vs H Q _ => ∃ (u : V) (c : Circ), vs = [u] ∧ cV H u c ∧ Good c ∧ ∀ w H', Same H H' → newV H H' w (readers c) → Q w H'
def sp_truth_table : Sp := fun vs H Q E => ∃ (u : V) (c : Circ), vs = [u] ∧ cV H u c ∧ Good c ∧ (c.free ≤ 8 → ∀ w H', Same H H' → newT H H' w (tableOf c (rowsOf c.free.toNat)) → Q w H') ∧ (8 < c.free → sizeE K H E c.free)
def sp0_truth_table : Sp := fun vs H Q _ => ∃ (u : V) (c : Circ), vs = [u] ∧ cV H u c ∧ Good c ∧ c.free ≤ 8 ∧ ∀ w H', Same H H' → newT H H' w (tableOf c (rowsOf c.free.toNat)) → Q w H'
/-- the told difference: none, or a fresh list -/
def optV (H H' : Hp) (v : V) : Option (List Int) → Prop
  | none => v = .non
  | some xs => newV H H' v xs
def sp_difference : Sp := fun vs H Q E => ∃ (u v : V) (c d : Circ), vs = [u, v] ∧ cV H u c ∧ Good c ∧ cV H v d ∧ Good d ∧
  (c.free ≤ 8 → d.free = c.free → d.ends.length = c.ends.length → ∀ w H', Same H H' → optV H H' w (parted c d (rowsOf c.free.toNat)) → Q w H') ∧
  (8 < c.free → sizeE K H E c.free) ∧ (c.free ≤ 8 → d.free ≠ c.free → sizeE K H E d.free) ∧ (c.free ≤ 8 → d.free = c.free → d.ends.length ≠ c.ends.length → sizeE K H E (d.ends.length : Nat))
def sp0_difference : Sp := fun vs H Q _ => ∃ (u v : V) (c d : Circ), vs = [u, v] ∧ cV H u c ∧ Good c ∧ cV H v d ∧ Good d ∧ c.free ≤ 8 ∧ d.free = c.free ∧ d.ends.length = c.ends.length ∧
  ∀ w H', Same H H' → optV H H' w (parted c d (rowsOf c.free.toNat)) → Q w H'
/-! ### the law's own defs -/
def sp__law_bits : Sp := fun vs H Q _ => ∃ (v n : Int), vs = [.int v, .int n] ∧ 0 ≤ n ∧ n ≤ 100 ∧ ∀ u H', Same H H' → newV H H' u (bitsOf v n.toNat) → Q u H'
def sp__law_worths : Sp := fun vs H Q _ => ∃ (u v : V) (c : Circ) (xs : List Int), vs = [u, v] ∧ cV H u c ∧ Good c ∧ lstV H v xs ∧ Bits xs ∧ (xs.length : Int) = c.free ∧ ∀ w H', Same H H' → newV H H' w (worths c.gates xs) → Q w H'
def sp__law_shown : Sp := fun vs H Q _ => ∃ (u v : V) (c : Circ) (xs : List Int), vs = [u, v] ∧ cV H u c ∧ Good c ∧ lstV H v xs ∧ Bits xs ∧ (xs.length : Int) = c.free ∧ ∀ w H', Same H H' → newV H H' w (shown c xs) → Q w H'
def sp__law_readers : Sp := fun vs H Q _ => ∃ (u : V) (c : Circ), vs = [u] ∧ cV H u c ∧ Good c ∧ ∀ w H', Same H H' → newV H H' w (readers c) → Q w H'
def sp__law_chain : Sp := fun vs H Q _ => ∃ (p : Addr), vs = [.ref p] ∧ IsPool H p ∧ ∀ u c H', Same H H' → cV H' u c → Good c → c.free = 2 → c.ends.length = 2 → Q u H'
def sp__law_second : Sp := fun vs H Q _ => ∃ (v : V) (p : Addr) (u : V) (c : Circ), vs = [v, .ref p, u] ∧ poolsV H v ∧ IsPool H p ∧ cV H u c ∧ Good c ∧ ∀ w d H', Same H H' → cV H' w d → Good d → d.free = c.free → d.ends.length = c.ends.length → Q w H'
def sp__law_values_right : Sp := fun vs H Q _ => ∃ (u r : V) (c : Circ) (ls : List (List Int)), vs = [u, r] ∧ cV H u c ∧ Good c ∧ tabV H r ls ∧ RowsOk c ls ∧ ls.length ≤ 10000 ∧ ∀ H', Same H H' → Q (.bl true) H'
def sp__law_counts_right : Sp := fun vs H Q _ => ∃ (u : V) (c : Circ), vs = [u] ∧ cV H u c ∧ Good c ∧ ∀ H', Same H H' → Q (.bl true) H'
def sp__law_table_right : Sp := fun vs H Q _ => ∃ (u r : V) (c : Circ), vs = [u, r] ∧ cV H u c ∧ Good c ∧ c.free ≤ 8 ∧ tabV H r (rowsOf c.free.toNat) ∧ ∀ H', Same H H' → Q (.bl true) H'
def sp__law_parted : Sp := fun vs H Q _ => ∃ (u v r : V) (c d : Circ) (ls : List (List Int)), vs = [u, v, r] ∧ cV H u c ∧ Good c ∧ cV H v d ∧ Good d ∧ tabV H r ls ∧ RowsOk c ls ∧ d.free = c.free ∧ ls.length ≤ 10000 ∧ ∀ w H', Same H H' → optV H H' w (parted c d ls) → Q w H'
def sp__law_difference_right : Sp := fun vs H Q _ => ∃ (u v r : V) (c d : Circ), vs = [u, v, r] ∧ cV H u c ∧ Good c ∧ cV H v d ∧ Good d ∧ c.free ≤ 8 ∧ d.free = c.free ∧ d.ends.length = c.ends.length ∧ tabV H r (rowsOf c.free.toNat) ∧ ∀ H', Same H H' → Q (.bl true) H'
/-- told: the size that is refused -/
def sp__law_told_values : Sp := fun vs H Q _ => ∃ (u v : V) (c : Circ) (xs : List Int), vs = [u, v] ∧ cV H u c ∧ Good c ∧ seqV H v xs ∧ Bits xs ∧ xs.length ≤ 10000 ∧ (xs.length : Int) ≠ c.free ∧ ∀ w H', Same H H' → tagV H' w (xs.length : Nat) → Q w H'
def sp__law_told_outputs : Sp := sp__law_told_values
def sp__law_told_table : Sp := fun vs H Q _ => ∃ (u : V) (c : Circ), vs = [u] ∧ cV H u c ∧ Good c ∧ 8 < c.free ∧ ∀ w H', Same H H' → tagV H' w c.free → Q w H'
/-- what difference refuses -/
def unlikeOf (c d : Circ) : Option Int := if 8 < c.free then some c.free else if d.free ≠ c.free then some d.free else if d.ends.length ≠ c.ends.length then some (d.ends.length : Nat) else none
def sp__law_told_difference : Sp := fun vs H Q _ => ∃ (u v : V) (c d : Circ) (n : Int), vs = [u, v] ∧ cV H u c ∧ Good c ∧ cV H v d ∧ Good d ∧ unlikeOf c d = some n ∧ ∀ w H', Same H H' → tagV H' w n → Q w H'
def sp__law_by_base : Sp := fun vs H Q _ => ∃ (u v : V) (c : Circ) (xs : List Int), vs = [u, v] ∧ cV H u c ∧ Good c ∧ seqV H v xs ∧ Bits xs ∧ xs.length ≤ 10000 ∧ (xs.length : Int) ≠ c.free ∧ ∀ H', Same H H' → Q (.bl true) H'
def sp__law_values_refused : Sp := fun vs H Q _ => ∃ (u v : V) (c : Circ) (bs : List Int), vs = [u, v] ∧ cV H u c ∧ Good c ∧ lstV H v bs ∧ Bits bs ∧ bs ≠ [] ∧ bs.length ≤ 100 ∧ ∀ H', Same H H' → Q (.bl true) H'
def sp__law_sizes_refused : Sp := fun vs H Q _ => ∃ (u f v : V) (c far d : Circ), vs = [u, f, v] ∧ cV H u c ∧ Good c ∧ cV H f far ∧ Good far ∧ cV H v d ∧ Good d ∧ c.free ≤ 8 ∧ 8 < far.free ∧ d.free ≠ c.free ∧ c.ends.length ≤ 1000 ∧ ∀ H', Same H H' → Q (.bl true) H'
def sp__law_wide_refused : Sp := fun vs H Q _ => ∃ (u o v : V) (c e d : Circ), vs = [u, o, v] ∧ cV H u c ∧ Good c ∧ cV H o e ∧ Good e ∧ cV H v d ∧ Good d ∧ 8 < c.free ∧ d.free ≠ c.free ∧ ∀ H', Same H H' → Q (.bl true) H'
def sp_law : Sp := fun vs H Q _ => ∃ (a : Addr) (ns : List Int), vs = [.ref a] ∧ SqL K H a (ns.map V.int) ∧ ns.length ≤ 63 ∧ ∀ H', Q (.bl true) H'
end
end K19
set_option maxHeartbeats 4000000
namespace K19
open PySem PySem.Spec PyProof.Rows L2 FabH He
abbrev N_to_bits : List Str := ["value", "count", "bits", "rest", "_"]
theorem sc_to_bits : FnScope N_to_bits ["value", "count"] (defScope s_to_bits) := ⟨rfl, rfl, rfl, by decide +kernel, rfl, by decide +kernel, by decide +kernel⟩
noncomputable def d_to_bits {P : Program} {w : World} {K : PySem.W.Frag} {mg : Str → Option Value} {base : Heap} {f : Addr} {cdv : Value} {A : Around} {outer : List Env} {s : Shared} {H : Hp} {E : XK} (T : Txt P K mg)
    (hr : Room 2 (A.deeper (envOfC "to_bits" (defScope s_to_bits) s.heap.objs.size f cdv))) :
    { t : TS // PSs (cxOf CX0 P w K mg base N_to_bits "to_bits" (defScope s_to_bits) f cdv A outer s H E).nox (defBody s_to_bits) t } := ⟨_, by exact
    (pss_cons (ps_set (i := 2) sc_to_bits.nd rfl (Or.inl rfl) (pe_lst pa_nil))
    (pss_cons (ps_set (i := 3) sc_to_bits.nd rfl (Or.inl rfl) (pv 0))
    (pss_cons (ps_for PassesOwn.never rfl (pi_range1 rfl T.n_range (pa_cons (pv 1) pa_nil)) (pg_name (i := 4) sc_to_bits.nd rfl (Or.inl rfl)) (pss_cons (ps_expr (pe_bm PySem.F.plainAttrs_list PySem.F.slot_list_append PySem.F.type_list_append mt_append (pv 2) (pa_cons (pe_op op_mod (pv 3) (pe_int)) pa_nil)))
    (pss_one (ps_set (i := 3) sc_to_bits.nd rfl (Or.inl rfl) (pe_op op_fdivW (pv 3) (pe_int))))))
    (pss_cons (ps_if (pt_cmpR op_ne (pv 3) (pe_int) (nomark _)) pss_never pss_nil)
    (pss_one (ps_ret (pv 2)))))))⟩
abbrev N_lookup : List Str := ["table", "first", "second"]
theorem sc_lookup : FnScope N_lookup ["table", "first", "second"] (defScope s_lookup) := ⟨rfl, rfl, rfl, by decide +kernel, rfl, by decide +kernel, by decide +kernel⟩
noncomputable def d_lookup {P : Program} {w : World} {K : PySem.W.Frag} {mg : Str → Option Value} {base : Heap} {f : Addr} {cdv : Value} {A : Around} {outer : List Env} {s : Shared} {H : Hp} {E : XK} (T : Txt P K mg)
    (hr : Room 0 (A.deeper (envOfC "lookup" (defScope s_lookup) s.heap.objs.size f cdv))) :
    { t : TS // PSs (cxOf CX0 P w K mg base N_lookup "lookup" (defScope s_lookup) f cdv A outer s H E).nox (defBody s_lookup) t } := ⟨_, by exact
    (pss_one (ps_ret (pe_op op_and (pe_op op_shr (pv 0) (pe_op op_add (pe_op op_mul (pe_int) (pv 1)) (pv 2))) (pe_int))))⟩
abbrev N_value_of : List Str := ["values", "wire"]
theorem sc_value_of : FnScope N_value_of ["values", "wire"] (defScope s_value_of) := ⟨rfl, rfl, rfl, by decide +kernel, rfl, by decide +kernel, by decide +kernel⟩
noncomputable def d_value_of {P : Program} {w : World} {K : PySem.W.Frag} {mg : Str → Option Value} {base : Heap} {f : Addr} {cdv : Value} {A : Around} {outer : List Env} {s : Shared} {H : Hp} {E : XK} (T : Txt P K mg)
    (hr : Room 0 (A.deeper (envOfC "value_of" (defScope s_value_of) s.heap.objs.size f cdv))) :
    { t : TS // PSs (cxOf CX0 P w K mg base N_value_of "value_of" (defScope s_value_of) f cdv A outer s H E).nox (defBody s_value_of) t } := ⟨_, by exact
    (pss_cons (ps_if (pt_cmpR op_eq (pv 1) (pe_un un_neg (pe_int)) (nomark _)) (pss_one (ps_ret (pe_int))) pss_nil)
    (pss_one (ps_ret (pe_ix ix_list (pv 0) (pv 1) (fun _ _ => rfl)))))⟩
abbrev N_wire_values : List Str := ["circuit", "values", "inputs", "gates", "_", "found", "table", "first", "second", "bit"]
theorem sc_wire_values : FnScope N_wire_values ["circuit", "values"] (defScope s_wire_values) := ⟨rfl, rfl, rfl, by decide +kernel, rfl, by decide +kernel, by decide +kernel⟩
noncomputable def d_wire_values {P : Program} {w : World} {K : PySem.W.Frag} {mg : Str → Option Value} {base : Heap} {f : Addr} {cdv : Value} {A : Around} {outer : List Env} {s : Shared} {H : Hp} {E : XK} (T : Txt P K mg)
    (G_lookup : FnOk P w K mg base CX0 1 (ga K "lookup") (fdOf K "lookup") ["table", "first", "second"] (sp_lookup)) (b_lookup : Binds K (fdOf K "lookup") ["table", "first", "second"] [])
    (G_value_of : FnOk P w K mg base CX0 1 (ga K "value_of") (fdOf K "value_of") ["values", "wire"] (sp_value_of)) (b_value_of : Binds K (fdOf K "value_of") ["values", "wire"] [])
    (hr : Room 2 (A.deeper (envOfC "wire_values" (defScope s_wire_values) s.heap.objs.size f cdv))) :
    { t : TS // PSs (cxOf (L2.CX P w) P w K mg base N_wire_values "wire_values" (defScope s_wire_values) f cdv A outer s H E) (defBody s_wire_values) t } := ⟨_, by exact
    (pss_cons (ps_asg (pv 0) (pg_tup rfl (pgs_cons (pg_name (i := 2) sc_wire_values.nd rfl (Or.inl rfl)) (pgs_cons (pg_name (i := 3) sc_wire_values.nd rfl (Or.inl rfl)) (pgs_cons (pg_name (i := 4) sc_wire_values.nd rfl (Or.inl rfl)) pgs_nil)))))
    (pss_cons (ps_if (pt_cmpR op_ne (pe_callB cr_len rfl T.n_len (by first | decide +kernel | boot_by_name) (pa_cons (pv 1) pa_nil)) (pv 2) (nomark _)) (pss_one (ps_raiseErr rfl T.e_SizeError (by decide) T.g_SizeError T.n_super T.pf hr (takes_of rfl rfl rfl rfl) (by exact (pa_cons (pe_callB cr_len rfl T.n_len (by first | decide +kernel | boot_by_name) (pa_cons (pv 1) pa_nil)) pa_nil)))) pss_nil)
    (pss_cons (ps_set (i := 5) sc_wire_values.nd rfl (Or.inl rfl) (pe_callTy cr_listOf rfl T.n_list (by first | decide +kernel | boot_by_name) (pa_cons (pv 1) pa_nil)))
    (pss_cons (ps_for (passes_of rfl) rfl (pi_tup (pv 3)) (pg_tup rfl (pgs_cons (pg_name (i := 6) sc_wire_values.nd rfl (Or.inl rfl)) (pgs_cons (pg_name (i := 7) sc_wire_values.nd rfl (Or.inl rfl)) (pgs_cons (pg_name (i := 8) sc_wire_values.nd rfl (Or.inl rfl)) pgs_nil)))) (pss_cons (ps_set (i := 9) sc_wire_values.nd rfl (Or.inl rfl) (pe_call G_lookup (hr.mono (by omega)) rfl T.f_lookup.g T.f_lookup.f.kp b_lookup .nil pass0 (pa_cons (pv 6) (pa_cons (pe_call G_value_of (hr.mono (by omega)) rfl T.f_value_of.g T.f_value_of.f.kp b_value_of .nil pass0 (pa_cons (pv 5) (pa_cons (pv 7) pa_nil))) (pa_cons (pe_call G_value_of (hr.mono (by omega)) rfl T.f_value_of.g T.f_value_of.f.kp b_value_of .nil pass0 (pa_cons (pv 5) (pa_cons (pv 8) pa_nil))) pa_nil)))))
    (pss_one (ps_expr (pe_bm PySem.F.plainAttrs_list PySem.F.slot_list_append PySem.F.type_list_append mt_append (pv 5) (pa_cons (pv 9) pa_nil))))))
    (pss_one (ps_ret (pv 5)))))))⟩
abbrev N_evaluate : List Str := ["circuit", "values", "found", "wire"]
theorem sc_evaluate : FnScope N_evaluate ["circuit", "values"] (defScope s_evaluate) := ⟨rfl, rfl, rfl, by decide +kernel, rfl, by decide +kernel, by decide +kernel⟩
noncomputable def d_evaluate {P : Program} {w : World} {K : PySem.W.Frag} {mg : Str → Option Value} {base : Heap} {f : Addr} {cdv : Value} {A : Around} {outer : List Env} {s : Shared} {H : Hp} {E : XK} (T : Txt P K mg)
    (G_value_of : FnOk P w K mg base CX0 1 (ga K "value_of") (fdOf K "value_of") ["values", "wire"] (sp_value_of)) (b_value_of : Binds K (fdOf K "value_of") ["values", "wire"] [])
    (G_wire_values : FnOk P w K mg base (L2.CX P w) 3 (ga K "wire_values") (fdOf K "wire_values") ["circuit", "values"] (sp_wire_values K)) (b_wire_values : Binds K (fdOf K "wire_values") ["circuit", "values"] [])
    (hr : Room 3 (A.deeper (envOfC "evaluate" (defScope s_evaluate) s.heap.objs.size f cdv))) :
    { t : TS // PSs (cxOf (L2.CX P w) P w K mg base N_evaluate "evaluate" (defScope s_evaluate) f cdv A outer s H E) (defBody s_evaluate) t } := ⟨_, by exact
    (pss_cons (ps_set (i := 2) sc_evaluate.nd rfl (Or.inr rfl) (pe_call G_wire_values (hr.mono (by omega)) rfl T.f_wire_values.g T.f_wire_values.f.kp b_wire_values .nil (passes_call (takes_of rfl rfl rfl rfl) (fun _ _ _ _ h => h)) (pa_cons (pv 0) (pa_cons (pv 1) pa_nil))))
    (pss_one (ps_ret (pe_lc (own := [("wire", 3)]) rfl sc_evaluate.nd (pi_tup (pe_ix ix_tup (pv 0) (pe_int) (fun _ _ => rfl))) (blkOk_by (own := [("wire", 3)]) (N := N_evaluate) (sc := defScope s_evaluate) (by decide +kernel)) (fun _ _ _ _ _ => (pg_name (i := 3) sc_evaluate.nd rfl (Or.inl rfl))) (fun _ _ _ _ _ => pts_nil) (fun _ _ _ _ _ => (pe_call G_value_of (hr.mono (by omega)) rfl T.f_value_of.g T.f_value_of.f.kp b_value_of .nil pass0 (pa_cons (pv 2) (pa_cons (pv 3) pa_nil))))))))⟩
abbrev N_reader_counts : List Str := ["circuit", "inputs", "gates", "outputs", "counts", "_", "first", "second", "wire"]
theorem sc_reader_counts : FnScope N_reader_counts ["circuit"] (defScope s_reader_counts) := ⟨rfl, rfl, rfl, by decide +kernel, rfl, by decide +kernel, by decide +kernel⟩
noncomputable def d_reader_counts {P : Program} {w : World} {K : PySem.W.Frag} {mg : Str → Option Value} {base : Heap} {f : Addr} {cdv : Value} {A : Around} {outer : List Env} {s : Shared} {H : Hp} {E : XK} (T : Txt P K mg)
    (hr : Room 0 (A.deeper (envOfC "reader_counts" (defScope s_reader_counts) s.heap.objs.size f cdv))) :
    { t : TS // PSs (cxOf CX0 P w K mg base N_reader_counts "reader_counts" (defScope s_reader_counts) f cdv A outer s H E).nox (defBody s_reader_counts) t } := ⟨_, by exact
    (pss_cons (ps_asg (pv 0) (pg_tup rfl (pgs_cons (pg_name (i := 1) sc_reader_counts.nd rfl (Or.inl rfl)) (pgs_cons (pg_name (i := 2) sc_reader_counts.nd rfl (Or.inl rfl)) (pgs_cons (pg_name (i := 3) sc_reader_counts.nd rfl (Or.inl rfl)) pgs_nil)))))
    (pss_cons (ps_set (i := 4) sc_reader_counts.nd rfl (Or.inl rfl) (pe_op op_rep (pe_lst (pa_cons (pe_int) pa_nil)) (pe_op op_add (pv 1) (pe_callB cr_len rfl T.n_len (by first | decide +kernel | boot_by_name) (pa_cons (pv 2) pa_nil)))))
    (pss_cons (ps_for PassesOwn.never rfl (pi_tup (pv 2)) (pg_tup rfl (pgs_cons (pg_name (i := 5) sc_reader_counts.nd rfl (Or.inl rfl)) (pgs_cons (pg_name (i := 6) sc_reader_counts.nd rfl (Or.inl rfl)) (pgs_cons (pg_name (i := 7) sc_reader_counts.nd rfl (Or.inl rfl)) pgs_nil)))) (pss_one (ps_for PassesOwn.never rfl (pi_tup (pe_tup (pa_cons (pv 6) (pa_cons (pv 7) pa_nil)))) (pg_name (i := 8) sc_reader_counts.nd rfl (Or.inl rfl)) (pss_one (ps_if (pt_cmpR op_ne (pv 8) (pe_un un_neg (pe_int)) (nomark _)) (pss_one (ps_augS (pv 4) (pv 8) get_list (pe_int) ip_add set_list)) pss_nil)))))
    (pss_cons (ps_for PassesOwn.never rfl (pi_tup (pv 3)) (pg_name (i := 8) sc_reader_counts.nd rfl (Or.inl rfl)) (pss_one (ps_if (pt_cmpR op_ne (pv 8) (pe_un un_neg (pe_int)) (nomark _)) (pss_one (ps_augS (pv 4) (pv 8) get_list (pe_int) ip_add set_list)) pss_nil)))
    (pss_one (ps_ret (pv 4)))))))⟩
abbrev N_truth_table : List Str := ["circuit", "inputs", "row"]
theorem sc_truth_table : FnScope N_truth_table ["circuit"] (defScope s_truth_table) := ⟨rfl, rfl, rfl, by decide +kernel, rfl, by decide +kernel, by decide +kernel⟩
noncomputable def d_truth_table {P : Program} {w : World} {K : PySem.W.Frag} {mg : Str → Option Value} {base : Heap} {f : Addr} {cdv : Value} {A : Around} {outer : List Env} {s : Shared} {H : Hp} {E : XK} (T : Txt P K mg)
    (G_evaluate : FnOk P w K mg base CX0 4 (ga K "evaluate") (fdOf K "evaluate") ["circuit", "values"] (sp0_evaluate)) (b_evaluate : Binds K (fdOf K "evaluate") ["circuit", "values"] [])
    (G_to_bits : FnOk P w K mg base CX0 3 (ga K "to_bits") (fdOf K "to_bits") ["value", "count"] (sp_to_bits)) (b_to_bits : Binds K (fdOf K "to_bits") ["value", "count"] [])
    (hr : Room 4 (A.deeper (envOfC "truth_table" (defScope s_truth_table) s.heap.objs.size f cdv))) :
    { t : TS // PSs (cxOf (L2.CX P w) P w K mg base N_truth_table "truth_table" (defScope s_truth_table) f cdv A outer s H E) (defBody s_truth_table) t } := ⟨_, by exact
    (pss_cons (ps_set (i := 1) sc_truth_table.nd rfl (Or.inr rfl) (pe_ix ix_tup (pv 0) (pe_int) (fun _ _ => rfl)))
    (pss_cons (ps_if (pt_cmpR op_gt (pv 1) (pe_glob (v := .int 8) rfl T.c_MOST_TABLE_INPUTS.choose_spec ⟨_, rfl⟩) (nomark _)) (pss_one (ps_raiseErr rfl T.e_SizeError (by decide) T.g_SizeError T.n_super T.pf hr (takes_of rfl rfl rfl rfl) (by exact (pa_cons (pv 1) pa_nil)))) pss_nil)
    (pss_one (ps_ret (pe_lc (own := [("row", 2)]) rfl sc_truth_table.nd (pi_range1 rfl T.n_range (pa_cons (pe_op op_shl (pe_int) (pv 1)) pa_nil)) (blkOk_by (own := [("row", 2)]) (N := N_truth_table) (sc := defScope s_truth_table) (by decide +kernel)) (fun _ _ _ _ _ => (pg_name (i := 2) sc_truth_table.nd rfl (Or.inl rfl))) (fun _ _ _ _ _ => pts_nil) (fun _ _ _ _ _ => (pe_call G_evaluate (hr.mono (by omega)) rfl T.f_evaluate.g T.f_evaluate.f.kp b_evaluate .nil pass0 (pa_cons (pv 0) (pa_cons (pe_call G_to_bits (hr.mono (by omega)) rfl T.f_to_bits.g T.f_to_bits.f.kp b_to_bits .nil pass0 (pa_cons (pv 2) (pa_cons (pv 1) pa_nil))) pa_nil)))))))))⟩
abbrev N_difference : List Str := ["circuit", "other", "inputs", "row", "values"]
theorem sc_difference : FnScope N_difference ["circuit", "other"] (defScope s_difference) := ⟨rfl, rfl, rfl, by decide +kernel, rfl, by decide +kernel, by decide +kernel⟩
noncomputable def d_difference {P : Program} {w : World} {K : PySem.W.Frag} {mg : Str → Option Value} {base : Heap} {f : Addr} {cdv : Value} {A : Around} {outer : List Env} {s : Shared} {H : Hp} {E : XK} (T : Txt P K mg)
    (G_evaluate : FnOk P w K mg base CX0 4 (ga K "evaluate") (fdOf K "evaluate") ["circuit", "values"] (sp0_evaluate)) (b_evaluate : Binds K (fdOf K "evaluate") ["circuit", "values"] [])
    (G_to_bits : FnOk P w K mg base CX0 3 (ga K "to_bits") (fdOf K "to_bits") ["value", "count"] (sp_to_bits)) (b_to_bits : Binds K (fdOf K "to_bits") ["value", "count"] [])
    (hr : Room 4 (A.deeper (envOfC "difference" (defScope s_difference) s.heap.objs.size f cdv))) :
    { t : TS // PSs (cxOf (L2.CX P w) P w K mg base N_difference "difference" (defScope s_difference) f cdv A outer s H E) (defBody s_difference) t } := ⟨_, by exact
    (pss_cons (ps_set (i := 2) sc_difference.nd rfl (Or.inl rfl) (pe_ix ix_tup (pv 0) (pe_int) (fun _ _ => rfl)))
    (pss_cons (ps_if (pt_cmpR op_gt (pv 2) (pe_glob (v := .int 8) rfl T.c_MOST_TABLE_INPUTS.choose_spec ⟨_, rfl⟩) (nomark _)) (pss_one (ps_raiseErr rfl T.e_SizeError (by decide) T.g_SizeError T.n_super T.pf hr (takes_of rfl rfl rfl rfl) (by exact (pa_cons (pv 2) pa_nil)))) pss_nil)
    (pss_cons (ps_if (pt_cmpR op_ne (pe_ix ix_tup (pv 1) (pe_int) (fun _ _ => rfl)) (pv 2) (nomark _)) (pss_one (ps_raiseErr rfl T.e_SizeError (by decide) T.g_SizeError T.n_super T.pf hr (takes_of rfl rfl rfl rfl) (by exact (pa_cons (pe_ix ix_tup (pv 1) (pe_int) (fun _ _ => rfl)) pa_nil)))) pss_nil)
    (pss_cons (ps_if (pt_cmpR op_ne (pe_callB cr_len rfl T.n_len (by first | decide +kernel | boot_by_name) (pa_cons (pe_ix ix_tup (pv 1) (pe_int) (fun _ _ => rfl)) pa_nil)) (pe_callB cr_len rfl T.n_len (by first | decide +kernel | boot_by_name) (pa_cons (pe_ix ix_tup (pv 0) (pe_int) (fun _ _ => rfl)) pa_nil)) (nomark _)) (pss_one (ps_raiseErr rfl T.e_SizeError (by decide) T.g_SizeError T.n_super T.pf hr (takes_of rfl rfl rfl rfl) (by exact (pa_cons (pe_callB cr_len rfl T.n_len (by first | decide +kernel | boot_by_name) (pa_cons (pe_ix ix_tup (pv 1) (pe_int) (fun _ _ => rfl)) pa_nil)) pa_nil)))) pss_nil)
    (pss_cons (ps_for (passes_of rfl) rfl (pi_range1 rfl T.n_range (pa_cons (pe_op op_shl (pe_int) (pv 2)) pa_nil)) (pg_name (i := 3) sc_difference.nd rfl (Or.inl rfl)) (pss_cons (ps_set (i := 4) sc_difference.nd rfl (Or.inl rfl) (pe_call G_to_bits (hr.mono (by omega)) rfl T.f_to_bits.g T.f_to_bits.f.kp b_to_bits .nil pass0 (pa_cons (pv 3) (pa_cons (pv 2) pa_nil))))
    (pss_one (ps_if (pt_cmpR (op_neD hr.units) (pe_call G_evaluate (hr.mono (by omega)) rfl T.f_evaluate.g T.f_evaluate.f.kp b_evaluate .nil pass0 (pa_cons (pv 0) (pa_cons (pv 4) pa_nil))) (pe_call G_evaluate (hr.mono (by omega)) rfl T.f_evaluate.g T.f_evaluate.f.kp b_evaluate .nil pass0 (pa_cons (pv 1) (pa_cons (pv 4) pa_nil))) (nomark _)) (pss_one (ps_ret (pv 4))) pss_nil))))
    (pss_one (ps_ret (pe_non))))))))⟩
abbrev N__law_pool : List Str := ["script", "place", "cell"]
theorem sc__law_pool : FnScope N__law_pool ["script", "place"] (defScope s__law_pool) := ⟨rfl, rfl, rfl, by decide +kernel, rfl, by decide +kernel, by decide +kernel⟩
noncomputable def d__law_pool {P : Program} {w : World} {K : PySem.W.Frag} {mg : Str → Option Value} {base : Heap} {f : Addr} {cdv : Value} {A : Around} {outer : List Env} {s : Shared} {H : Hp} {E : XK} (T : Txt P K mg)
    (hr : Room 0 (A.deeper (envOfC "_law_pool" (defScope s__law_pool) s.heap.objs.size f cdv))) :
    { t : TS // PSs (cxOf CX0 P w K mg base N__law_pool "_law_pool" (defScope s__law_pool) f cdv A outer s H E).nox (defBody s__law_pool) t } := ⟨_, by exact
    (pss_cons (ps_if (pt_cmpR op_eq (pe_callB cr_len rfl T.n_len (by first | decide +kernel | boot_by_name) (pa_cons (pv 0) pa_nil)) (pe_int) (nomark _)) (pss_one (ps_ret (pe_lst (pa_cons (pe_int) (pa_cons (pe_int) (pa_cons (pe_int) (pa_cons (pe_int) pa_nil))))))) pss_nil)
    (pss_cons (ps_set (i := 2) sc__law_pool.nd rfl (Or.inl rfl) (pe_callB cr_abs rfl T.n_abs (by first | decide +kernel | boot_by_name) (pa_cons (pe_ix ix_list (pv 0) (pe_op op_mod (pe_callTy cr_int rfl T.n_int (by first | decide +kernel | boot_by_name) (pa_cons (pv 1) pa_nil)) (pe_callB cr_len rfl T.n_len (by first | decide +kernel | boot_by_name) (pa_cons (pv 0) pa_nil))) (fun _ _ => rfl)) pa_nil)))
    (pss_cons (ps_if (PW.pt (pw_and (pt_cmpR op_lt (pv 1) (pe_callB cr_len rfl T.n_len (by first | decide +kernel | boot_by_name) (pa_cons (pv 0) pa_nil)) (nomark _)) (pw_and1 (pt_cmpR op_ge (pv 2) (pe_op op_pow (pe_int) (pe_int)) (nomark _))))) (pss_one (ps_ret (pe_lst (pa_cons (pe_int) (pa_cons (pv 2) (pa_cons (pe_op op_mod (pe_callTy cr_int rfl T.n_int (by first | decide +kernel | boot_by_name) (pa_cons (pv 2) pa_nil)) (pe_int)) (pa_cons (pe_int) pa_nil))))))) pss_nil)
    (pss_one (ps_ret (pe_lst (pa_cons (pe_int) (pa_cons (pe_int) (pa_cons (pe_op op_mod (pe_callTy cr_int rfl T.n_int (by first | decide +kernel | boot_by_name) (pa_cons (pe_op op_add (pv 2) (pe_op op_mul (pe_int) (pv 1))) pa_nil)) (pe_int)) (pa_cons (pe_int) pa_nil))))))))))⟩
abbrev N__law_draw : List Str := ["pool", "many", "got", "x"]
theorem sc__law_draw : FnScope N__law_draw ["pool", "many"] (defScope s__law_draw) := ⟨rfl, rfl, rfl, by decide +kernel, rfl, by decide +kernel, by decide +kernel⟩
noncomputable def d__law_draw {P : Program} {w : World} {K : PySem.W.Frag} {mg : Str → Option Value} {base : Heap} {f : Addr} {cdv : Value} {A : Around} {outer : List Env} {s : Shared} {H : Hp} {E : XK} (T : Txt P K mg)
    (hr : Room 0 (A.deeper (envOfC "_law_draw" (defScope s__law_draw) s.heap.objs.size f cdv))) :
    { t : TS // PSs (cxOf CX0 P w K mg base N__law_draw "_law_draw" (defScope s__law_draw) f cdv A outer s H E).nox (defBody s__law_draw) t } := ⟨_, by exact
    (pss_cons (ps_asg (pe_op op_add (pe_ix ix_list (pv 0) (pe_int) (fun _ _ => rfl)) (pe_int)) (pg_sub (pv 0) (pe_int) set_list))
    (pss_cons (ps_if (pt_cmpR op_eq (pe_ix ix_list (pv 0) (pe_int) (fun _ _ => rfl)) (pe_int) (nomark _)) (pss_one (ps_ret (pe_int))) pss_nil)
    (pss_cons (ps_if (PW.pt (pw_and (pt_cmpR op_eq (pe_ix ix_list (pv 0) (pe_int) (fun _ _ => rfl)) (pe_int) (nomark _)) (pw_and (pt_cmpR op_le (pe_ix ix_list (pv 0) (pe_int) (fun _ _ => rfl)) (pe_int) (nomark _)) (pw_and1 (pt_cmpR op_gt (pe_ix ix_list (pv 0) (pe_int) (fun _ _ => rfl)) (pe_int) (nomark _)))))) (pss_cons (ps_set (i := 2) sc__law_draw.nd rfl (Or.inl rfl) (pe_op op_mod (pe_callTy cr_int rfl T.n_int (by first | decide +kernel | boot_by_name) (pa_cons (pe_ix ix_list (pv 0) (pe_int) (fun _ _ => rfl)) pa_nil)) (pv 1)))
    (pss_cons (ps_asg (pe_op op_fdivW (pe_ix ix_list (pv 0) (pe_int) (fun _ _ => rfl)) (pv 1)) (pg_sub (pv 0) (pe_int) set_list))
    (pss_one (ps_ret (pv 2))))) pss_nil)
    (pss_cons (ps_set (i := 3) sc__law_draw.nd rfl (Or.inl rfl) (pe_op op_mod (pe_callTy cr_int rfl T.n_int (by first | decide +kernel | boot_by_name) (pa_cons (pe_op op_add (pe_op op_add (pe_ix ix_list (pv 0) (pe_int) (fun _ _ => rfl)) (pe_op op_mul (pe_int) (pe_ix ix_list (pv 0) (pe_int) (fun _ _ => rfl)))) (pe_int)) pa_nil)) (pe_int)))
    (pss_cons (ps_set (i := 3) sc__law_draw.nd rfl (Or.inl rfl) (pe_op op_mod (pe_callTy cr_int rfl T.n_int (by first | decide +kernel | boot_by_name) (pa_cons (pe_op op_add (pe_op op_add (pe_op op_mul (pv 3) (pv 3)) (pe_op op_mul (pe_int) (pe_ix ix_list (pv 0) (pe_int) (fun _ _ => rfl)))) (pe_int)) pa_nil)) (pe_int)))
    (pss_cons (ps_set (i := 3) sc__law_draw.nd rfl (Or.inl rfl) (pe_op op_mod (pe_callTy cr_int rfl T.n_int (by first | decide +kernel | boot_by_name) (pa_cons (pe_op op_add (pe_op op_add (pe_op op_mul (pv 3) (pv 3)) (pe_int)) (pe_ix ix_list (pv 0) (pe_int) (fun _ _ => rfl))) pa_nil)) (pe_int)))
    (pss_one (ps_ret (pe_op op_mod (pe_callTy cr_int rfl T.n_int (by first | decide +kernel | boot_by_name) (pa_cons (pe_op op_fdivW (pv 3) (pe_int)) pa_nil)) (pv 1))))))))))⟩
abbrev N__law_take : List Str := ["pools", "many", "pool"]
theorem sc__law_take : FnScope N__law_take ["pools", "many"] (defScope s__law_take) := ⟨rfl, rfl, rfl, by decide +kernel, rfl, by decide +kernel, by decide +kernel⟩
noncomputable def d__law_take {P : Program} {w : World} {K : PySem.W.Frag} {mg : Str → Option Value} {base : Heap} {f : Addr} {cdv : Value} {A : Around} {outer : List Env} {s : Shared} {H : Hp} {E : XK} (T : Txt P K mg)
    (G__law_draw : FnOk P w K mg base CX0 1 (ga K "_law_draw") (fdOf K "_law_draw") ["pool", "many"] (sp_draw1)) (b__law_draw : Binds K (fdOf K "_law_draw") ["pool", "many"] [])
    (hr : Room 1 (A.deeper (envOfC "_law_take" (defScope s__law_take) s.heap.objs.size f cdv))) :
    { t : TS // PSs (cxOf CX0 P w K mg base N__law_take "_law_take" (defScope s__law_take) f cdv A outer s H E).nox (defBody s__law_take) t } := ⟨_, by exact
    (pss_cons (ps_for PassesOwn.never rfl (pi_list (pv 0)) (pg_name (i := 2) sc__law_take.nd rfl (Or.inl rfl)) (pss_one (ps_if (pt_cmpR op_lt (pe_ix ix_list (pv 2) (pe_int) (fun _ _ => rfl)) (pe_int) (nomark _)) (pss_one (ps_ret (pe_call G__law_draw (hr.mono (by omega)) rfl T.f__law_draw.g T.f__law_draw.f.kp b__law_draw .nil pass0 (pa_cons (pv 2) (pa_cons (pv 1) pa_nil))))) pss_nil)))
    (pss_one (ps_ret (pe_call G__law_draw (hr.mono (by omega)) rfl T.f__law_draw.g T.f__law_draw.f.kp b__law_draw .nil pass0 (pa_cons (pe_ix ix_list (pv 0) (pe_int) (fun _ _ => rfl)) (pa_cons (pv 1) pa_nil))))))⟩
abbrev N__law_same : List Str := ["told", "due", "name", "k"]
theorem sc__law_same : FnScope N__law_same ["told", "due"] (defScope s__law_same) := ⟨rfl, rfl, rfl, by decide +kernel, rfl, by decide +kernel, by decide +kernel⟩
noncomputable def d__law_same {P : Program} {w : World} {K : PySem.W.Frag} {mg : Str → Option Value} {base : Heap} {f : Addr} {cdv : Value} {A : Around} {outer : List Env} {s : Shared} {H : Hp} {E : XK} {n j : Nat} (T : Txt P K mg)
    (G__law_same : FnOk P w K mg base CX0 j (ga K "_law_same") (fdOf K "_law_same") ["told", "due"] (sp_same n)) (b__law_same : Binds K (fdOf K "_law_same") ["told", "due"] [])
    (hr : Room j (A.deeper (envOfC "_law_same" (defScope s__law_same) s.heap.objs.size f cdv))) :
    { t : TS // PSs (cxOf CX0 P w K mg base N__law_same "_law_same" (defScope s__law_same) f cdv A outer s H E).nox (defBody s__law_same) t } := ⟨_, by exact
    (pss_cons (ps_if (pt_cmpR or_isN (pv 1) (pe_non) (nomark _)) (pss_one (ps_ret (pe_cmpR or_isN (pv 0) (pe_non) (nomark _)))) pss_nil)
    (pss_cons (ps_if (pt_cmpR op_isB (pv 1) (pe_bl) (nomark _)) (pss_one (ps_ret (pe_cmpR op_isB (pv 0) (pe_bl) (nomark _)))) pss_nil)
    (pss_cons (ps_if (pt_cmpR op_isB (pv 1) (pe_bl) (nomark _)) (pss_one (ps_ret (pe_cmpR op_isB (pv 0) (pe_bl) (nomark _)))) pss_nil)
    (pss_cons (ps_if (pt_val (pe_callB call_isi rfl T.n_isinstance (by first | decide +kernel | boot_by_name) (pa_cons (pv 1) (pa_cons (pe_bltn (v := .ty "int") rfl T.n_int PyProof.Rows.Boot.«int» rfl) pa_nil)))) (pss_one (ps_ret (pe_and (pe_callB call_isi rfl T.n_isinstance (by first | decide +kernel | boot_by_name) (pa_cons (pv 0) (pa_cons (pe_bltn (v := .ty "int") rfl T.n_int PyProof.Rows.Boot.«int» rfl) pa_nil))) (pe_and (pe_not (pe_callB call_isi rfl T.n_isinstance (by first | decide +kernel | boot_by_name) (pa_cons (pv 0) (pa_cons (pe_bltn (v := .ty "bool") rfl T.n_bool PyProof.Rows.Boot.«bool» rfl) pa_nil)))) (pe_one (pe_cmpR op_eq (pv 0) (pv 1) (nomark _))))))) pss_nil)
    (pss_cons (ps_if (pt_val (pe_callB call_isi rfl T.n_isinstance (by first | decide +kernel | boot_by_name) (pa_cons (pv 1) (pa_cons (pe_bltn (v := .ty "str") rfl T.n_str PyProof.Rows.Boot.«str» rfl) pa_nil)))) (pss_one (ps_ret (pe_and (pe_callB call_isi rfl T.n_isinstance (by first | decide +kernel | boot_by_name) (pa_cons (pv 0) (pa_cons (pe_bltn (v := .ty "str") rfl T.n_str PyProof.Rows.Boot.«str» rfl) pa_nil))) (pe_one (pe_cmpR op_eq (pv 0) (pv 1) (nomark _)))))) pss_nil)
    (pss_cons (ps_if (pt_val (pe_callB call_isi rfl T.n_isinstance (by first | decide +kernel | boot_by_name) (pa_cons (pv 1) (pa_cons (pe_bltn (v := .ty "dict") rfl T.n_dict PyProof.Rows.Boot.«dict» rfl) pa_nil)))) pss_never pss_nil)
    (pss_cons (ps_if (PW.pt (pw_and (pt_val (pe_callB call_isi rfl T.n_isinstance (by first | decide +kernel | boot_by_name) (pa_cons (pv 1) (pa_cons (pe_bltn (v := .ty "list") rfl T.n_list PyProof.Rows.Boot.«list» rfl) pa_nil)))) (pw_and1 (pt_not (pt_val (pe_callB call_isi rfl T.n_isinstance (by first | decide +kernel | boot_by_name) (pa_cons (pv 0) (pa_cons (pe_bltn (v := .ty "list") rfl T.n_list PyProof.Rows.Boot.«list» rfl) pa_nil)))))))) (pss_one (ps_ret (pe_bl))) pss_nil)
    (pss_cons (ps_if (PW.pt (pw_and (pt_val (pe_callB call_isi rfl T.n_isinstance (by first | decide +kernel | boot_by_name) (pa_cons (pv 1) (pa_cons (pe_bltn (v := .ty "tuple") rfl T.n_tuple PyProof.Rows.Boot.«tuple» rfl) pa_nil)))) (pw_and1 (pt_not (pt_val (pe_callB call_isi rfl T.n_isinstance (by first | decide +kernel | boot_by_name) (pa_cons (pv 0) (pa_cons (pe_bltn (v := .ty "tuple") rfl T.n_tuple PyProof.Rows.Boot.«tuple» rfl) pa_nil)))))))) (pss_one (ps_ret (pe_bl))) pss_nil)
    (pss_cons (ps_if (pt_cmpR op_ne (pe_callB cr_len rfl T.n_len (by first | decide +kernel | boot_by_name) (pa_cons (pv 0) pa_nil)) (pe_callB cr_len rfl T.n_len (by first | decide +kernel | boot_by_name) (pa_cons (pv 1) pa_nil)) (nomark _)) (pss_one (ps_ret (pe_bl))) pss_nil)
    (pss_cons (ps_for PassesOwn.never rfl (pi_range1 rfl T.n_range (pa_cons (pe_callB cr_len rfl T.n_len (by first | decide +kernel | boot_by_name) (pa_cons (pv 1) pa_nil)) pa_nil)) (pg_name (i := 3) sc__law_same.nd rfl (Or.inl rfl)) (pss_one (ps_if (pt_not (pt_val (pe_call G__law_same hr rfl T.f__law_same.g T.f__law_same.f.kp b__law_same .nil pass0 (pa_cons (pe_ix ix_seq (pv 0) (pv 3) (fun _ _ => rfl)) (pa_cons (pe_ix ix_seq (pv 1) (pv 3) (fun _ _ => rfl)) pa_nil))))) (pss_one (ps_ret (pe_bl))) pss_nil)))
    (pss_one (ps_ret (pe_bl)))))))))))))⟩
abbrev N__law_bits : List Str := ["value", "count", "k"]
theorem sc__law_bits : FnScope N__law_bits ["value", "count"] (defScope s__law_bits) := ⟨rfl, rfl, rfl, by decide +kernel, rfl, by decide +kernel, by decide +kernel⟩
noncomputable def d__law_bits {P : Program} {w : World} {K : PySem.W.Frag} {mg : Str → Option Value} {base : Heap} {f : Addr} {cdv : Value} {A : Around} {outer : List Env} {s : Shared} {H : Hp} {E : XK} (T : Txt P K mg)
    (hr : Room 0 (A.deeper (envOfC "_law_bits" (defScope s__law_bits) s.heap.objs.size f cdv))) :
    { t : TS // PSs (cxOf CX0 P w K mg base N__law_bits "_law_bits" (defScope s__law_bits) f cdv A outer s H E).nox (defBody s__law_bits) t } := ⟨_, by exact
    (pss_one (ps_ret (pe_lc (own := [("k", 2)]) rfl sc__law_bits.nd (pi_range1 rfl T.n_range (pa_cons (pv 1) pa_nil)) (blkOk_by (own := [("k", 2)]) (N := N__law_bits) (sc := defScope s__law_bits) (by decide +kernel)) (fun _ _ _ _ _ => (pg_name (i := 2) sc__law_bits.nd rfl (Or.inl rfl))) (fun _ _ _ _ _ => pts_nil) (fun _ _ _ _ _ => (pe_op op_and (pe_op op_shr (pv 0) (pv 2)) (pe_int))))))⟩
abbrev N__law_worths : List Str := ["circuit", "values", "worths", "gate", "x", "y"]
theorem sc__law_worths : FnScope N__law_worths ["circuit", "values"] (defScope s__law_worths) := ⟨rfl, rfl, rfl, by decide +kernel, rfl, by decide +kernel, by decide +kernel⟩
noncomputable def d__law_worths {P : Program} {w : World} {K : PySem.W.Frag} {mg : Str → Option Value} {base : Heap} {f : Addr} {cdv : Value} {A : Around} {outer : List Env} {s : Shared} {H : Hp} {E : XK} (T : Txt P K mg)
    (hr : Room 0 (A.deeper (envOfC "_law_worths" (defScope s__law_worths) s.heap.objs.size f cdv))) :
    { t : TS // PSs (cxOf CX0 P w K mg base N__law_worths "_law_worths" (defScope s__law_worths) f cdv A outer s H E).nox (defBody s__law_worths) t } := ⟨_, by exact
    (pss_cons (ps_set (i := 2) sc__law_worths.nd rfl (Or.inl rfl) (pe_callTy cr_listOf rfl T.n_list (by first | decide +kernel | boot_by_name) (pa_cons (pv 1) pa_nil)))
    (pss_cons (ps_for PassesOwn.never rfl (pi_tup (pe_ix ix_tup (pv 0) (pe_int) (fun _ _ => rfl))) (pg_name (i := 3) sc__law_worths.nd rfl (Or.inl rfl)) (pss_cons (ps_set (i := 4) sc__law_worths.nd rfl (Or.inl rfl) (pe_int))
    (pss_cons (ps_set (i := 5) sc__law_worths.nd rfl (Or.inl rfl) (pe_int))
    (pss_cons (ps_if (pt_cmpR op_ge (pe_ix ix_tup (pv 3) (pe_int) (fun _ _ => rfl)) (pe_int) (nomark _)) (pss_one (ps_set (i := 4) sc__law_worths.nd rfl (Or.inl rfl) (pe_ix ix_list (pv 2) (pe_ix ix_tup (pv 3) (pe_int) (fun _ _ => rfl)) (fun _ _ => rfl)))) pss_nil)
    (pss_cons (ps_if (pt_cmpR op_ge (pe_ix ix_tup (pv 3) (pe_int) (fun _ _ => rfl)) (pe_int) (nomark _)) (pss_one (ps_set (i := 5) sc__law_worths.nd rfl (Or.inl rfl) (pe_ix ix_list (pv 2) (pe_ix ix_tup (pv 3) (pe_int) (fun _ _ => rfl)) (fun _ _ => rfl)))) pss_nil)
    (pss_one (ps_expr (pe_bm PySem.F.plainAttrs_list PySem.F.slot_list_append PySem.F.type_list_append mt_append (pv 2) (pa_cons (pe_op op_and (pe_op op_shr (pe_ix ix_tup (pv 3) (pe_int) (fun _ _ => rfl)) (pe_op op_add (pe_op op_mul (pe_int) (pv 4)) (pv 5))) (pe_int)) pa_nil)))))))))
    (pss_one (ps_ret (pv 2)))))⟩
abbrev N__law_shown : List Str := ["circuit", "values", "worths", "shown", "wire"]
theorem sc__law_shown : FnScope N__law_shown ["circuit", "values"] (defScope s__law_shown) := ⟨rfl, rfl, rfl, by decide +kernel, rfl, by decide +kernel, by decide +kernel⟩
noncomputable def d__law_shown {P : Program} {w : World} {K : PySem.W.Frag} {mg : Str → Option Value} {base : Heap} {f : Addr} {cdv : Value} {A : Around} {outer : List Env} {s : Shared} {H : Hp} {E : XK} (T : Txt P K mg)
    (G__law_worths : FnOk P w K mg base CX0 1 (ga K "_law_worths") (fdOf K "_law_worths") ["circuit", "values"] (sp__law_worths)) (b__law_worths : Binds K (fdOf K "_law_worths") ["circuit", "values"] [])
    (hr : Room 1 (A.deeper (envOfC "_law_shown" (defScope s__law_shown) s.heap.objs.size f cdv))) :
    { t : TS // PSs (cxOf CX0 P w K mg base N__law_shown "_law_shown" (defScope s__law_shown) f cdv A outer s H E).nox (defBody s__law_shown) t } := ⟨_, by exact
    (pss_cons (ps_set (i := 2) sc__law_shown.nd rfl (Or.inl rfl) (pe_call G__law_worths (hr.mono (by omega)) rfl T.f__law_worths.g T.f__law_worths.f.kp b__law_worths .nil pass0 (pa_cons (pv 0) (pa_cons (pv 1) pa_nil))))
    (pss_cons (ps_set (i := 3) sc__law_shown.nd rfl (Or.inl rfl) (pe_lst pa_nil))
    (pss_cons (ps_for PassesOwn.never rfl (pi_tup (pe_ix ix_tup (pv 0) (pe_int) (fun _ _ => rfl))) (pg_name (i := 4) sc__law_shown.nd rfl (Or.inl rfl)) (pss_one (ps_if (pt_cmpR op_ge (pv 4) (pe_int) (nomark _)) (pss_one (ps_expr (pe_bm PySem.F.plainAttrs_list PySem.F.slot_list_append PySem.F.type_list_append mt_append (pv 3) (pa_cons (pe_ix ix_list (pv 2) (pv 4) (fun _ _ => rfl)) pa_nil)))) (pss_one (ps_expr (pe_bm PySem.F.plainAttrs_list PySem.F.slot_list_append PySem.F.type_list_append mt_append (pv 3) (pa_cons (pe_int) pa_nil)))))))
    (pss_one (ps_ret (pv 3))))))⟩
abbrev N__law_readers : List Str := ["circuit", "counts", "gate", "wire"]
theorem sc__law_readers : FnScope N__law_readers ["circuit"] (defScope s__law_readers) := ⟨rfl, rfl, rfl, by decide +kernel, rfl, by decide +kernel, by decide +kernel⟩
noncomputable def d__law_readers {P : Program} {w : World} {K : PySem.W.Frag} {mg : Str → Option Value} {base : Heap} {f : Addr} {cdv : Value} {A : Around} {outer : List Env} {s : Shared} {H : Hp} {E : XK} (T : Txt P K mg)
    (hr : Room 0 (A.deeper (envOfC "_law_readers" (defScope s__law_readers) s.heap.objs.size f cdv))) :
    { t : TS // PSs (cxOf CX0 P w K mg base N__law_readers "_law_readers" (defScope s__law_readers) f cdv A outer s H E).nox (defBody s__law_readers) t } := ⟨_, by exact
    (pss_cons (ps_set (i := 1) sc__law_readers.nd rfl (Or.inl rfl) (pe_op op_rep (pe_lst (pa_cons (pe_int) pa_nil)) (pe_op op_add (pe_ix ix_tup (pv 0) (pe_int) (fun _ _ => rfl)) (pe_callB cr_len rfl T.n_len (by first | decide +kernel | boot_by_name) (pa_cons (pe_ix ix_tup (pv 0) (pe_int) (fun _ _ => rfl)) pa_nil)))))
    (pss_cons (ps_for PassesOwn.never rfl (pi_tup (pe_ix ix_tup (pv 0) (pe_int) (fun _ _ => rfl))) (pg_name (i := 2) sc__law_readers.nd rfl (Or.inl rfl)) (pss_one (ps_for PassesOwn.never rfl (pi_tup (pe_slice sl_tupA (pv 2) (po_some (pe_int)) po_none)) (pg_name (i := 3) sc__law_readers.nd rfl (Or.inl rfl)) (pss_one (ps_if (pt_cmpR op_ge (pv 3) (pe_int) (nomark _)) (pss_one (ps_asg (pe_op op_add (pe_ix ix_list (pv 1) (pv 3) (fun _ _ => rfl)) (pe_int)) (pg_sub (pv 1) (pv 3) set_list))) pss_nil)))))
    (pss_cons (ps_for PassesOwn.never rfl (pi_tup (pe_ix ix_tup (pv 0) (pe_int) (fun _ _ => rfl))) (pg_name (i := 3) sc__law_readers.nd rfl (Or.inl rfl)) (pss_one (ps_if (pt_cmpR op_ge (pv 3) (pe_int) (nomark _)) (pss_one (ps_asg (pe_op op_add (pe_ix ix_list (pv 1) (pv 3) (fun _ _ => rfl)) (pe_int)) (pg_sub (pv 1) (pv 3) set_list))) pss_nil)))
    (pss_one (ps_ret (pv 1))))))⟩
abbrev N__law_wire : List Str := ["pools", "wires"]
theorem sc__law_wire : FnScope N__law_wire ["pools", "wires"] (defScope s__law_wire) := ⟨rfl, rfl, rfl, by decide +kernel, rfl, by decide +kernel, by decide +kernel⟩
noncomputable def d__law_wire {P : Program} {w : World} {K : PySem.W.Frag} {mg : Str → Option Value} {base : Heap} {f : Addr} {cdv : Value} {A : Around} {outer : List Env} {s : Shared} {H : Hp} {E : XK} (T : Txt P K mg)
    (G__law_take : FnOk P w K mg base CX0 2 (ga K "_law_take") (fdOf K "_law_take") ["pools", "many"] (sp_take)) (b__law_take : Binds K (fdOf K "_law_take") ["pools", "many"] [])
    (hr : Room 2 (A.deeper (envOfC "_law_wire" (defScope s__law_wire) s.heap.objs.size f cdv))) :
    { t : TS // PSs (cxOf CX0 P w K mg base N__law_wire "_law_wire" (defScope s__law_wire) f cdv A outer s H E).nox (defBody s__law_wire) t } := ⟨_, by exact
    (pss_one (ps_ret (pe_op op_sub (pe_call G__law_take (hr.mono (by omega)) rfl T.f__law_take.g T.f__law_take.f.kp b__law_take .nil pass0 (pa_cons (pv 0) (pa_cons (pe_op op_add (pv 1) (pe_int)) pa_nil))) (pe_int))))⟩
abbrev N__law_drawn : List Str := ["pools", "free", "count", "many", "gatelist", "j", "table", "one", "ends"]
theorem sc__law_drawn : FnScope N__law_drawn ["pools", "free", "count", "many"] (defScope s__law_drawn) := ⟨rfl, rfl, rfl, by decide +kernel, rfl, by decide +kernel, by decide +kernel⟩
noncomputable def d__law_drawn {P : Program} {w : World} {K : PySem.W.Frag} {mg : Str → Option Value} {base : Heap} {f : Addr} {cdv : Value} {A : Around} {outer : List Env} {s : Shared} {H : Hp} {E : XK} (T : Txt P K mg)
    (G__law_take : FnOk P w K mg base CX0 2 (ga K "_law_take") (fdOf K "_law_take") ["pools", "many"] (sp_take)) (b__law_take : Binds K (fdOf K "_law_take") ["pools", "many"] [])
    (G__law_wire : FnOk P w K mg base CX0 3 (ga K "_law_wire") (fdOf K "_law_wire") ["pools", "wires"] (FabC.sp__law_wire)) (b__law_wire : Binds K (fdOf K "_law_wire") ["pools", "wires"] [])
    (hr : Room 3 (A.deeper (envOfC "_law_drawn" (defScope s__law_drawn) s.heap.objs.size f cdv))) :
    { t : TS // PSs (cxOf CX0 P w K mg base N__law_drawn "_law_drawn" (defScope s__law_drawn) f cdv A outer s H E).nox (defBody s__law_drawn) t } := ⟨_, by exact
    (pss_cons (ps_set (i := 4) sc__law_drawn.nd rfl (Or.inl rfl) (pe_lst pa_nil))
    (pss_cons (ps_for PassesOwn.never rfl (pi_range1 rfl T.n_range (pa_cons (pv 2) pa_nil)) (pg_name (i := 5) sc__law_drawn.nd rfl (Or.inl rfl)) (pss_cons (ps_set (i := 6) sc__law_drawn.nd rfl (Or.inl rfl) (pe_call G__law_take (hr.mono (by omega)) rfl T.f__law_take.g T.f__law_take.f.kp b__law_take .nil pass0 (pa_cons (pv 0) (pa_cons (pe_int) pa_nil))))
    (pss_cons (ps_set (i := 7) sc__law_drawn.nd rfl (Or.inl rfl) (pe_call G__law_wire (hr.mono (by omega)) rfl T.f__law_wire.g T.f__law_wire.f.kp b__law_wire .nil pass0 (pa_cons (pv 0) (pa_cons (pe_op op_add (pv 1) (pv 5)) pa_nil))))
    (pss_one (ps_expr (pe_bm PySem.F.plainAttrs_list PySem.F.slot_list_append PySem.F.type_list_append mt_append (pv 4) (pa_cons (pe_tup (pa_cons (pv 6) (pa_cons (pv 7) (pa_cons (pe_call G__law_wire (hr.mono (by omega)) rfl T.f__law_wire.g T.f__law_wire.f.kp b__law_wire .nil pass0 (pa_cons (pv 0) (pa_cons (pe_op op_add (pv 1) (pv 5)) pa_nil))) pa_nil)))) pa_nil)))))))
    (pss_cons (ps_setLc (i := 8) (own := [("j", 5)]) rfl sc__law_drawn.nd rfl rfl (sw_true rfl rfl rfl (by decide +kernel)) (pi_range1 rfl T.n_range (pa_cons (pv 3) pa_nil)) (blkOk_by (own := [("j", 5)]) (N := N__law_drawn) (sc := defScope s__law_drawn) (by decide +kernel)) (fun _ _ _ _ _ => (pg_name (i := 5) sc__law_drawn.nd rfl (Or.inl rfl))) (fun _ _ _ _ _ => pts_nil) (fun _ _ _ _ _ => (pe_call G__law_wire (hr.mono (by omega)) rfl T.f__law_wire.g T.f__law_wire.f.kp b__law_wire .nil pass0 (pa_cons (pv 0) (pa_cons (pe_op op_add (pv 1) (pv 2)) pa_nil)))))
    (pss_one (ps_ret (pe_tup (pa_cons (pv 1) (pa_cons (pe_callTy cr_tupOf rfl T.n_tuple (by first | decide +kernel | boot_by_name) (pa_cons (pv 4) pa_nil)) (pa_cons (pe_callTy cr_tupOf rfl T.n_tuple (by first | decide +kernel | boot_by_name) (pa_cons (pv 8) pa_nil)) pa_nil)))))))))⟩
abbrev N__law_chain : List Str := ["side", "count", "tables", "j"]
theorem sc__law_chain : FnScope N__law_chain ["side"] (defScope s__law_chain) := ⟨rfl, rfl, rfl, by decide +kernel, rfl, by decide +kernel, by decide +kernel⟩
noncomputable def d__law_chain {P : Program} {w : World} {K : PySem.W.Frag} {mg : Str → Option Value} {base : Heap} {f : Addr} {cdv : Value} {A : Around} {outer : List Env} {s : Shared} {H : Hp} {E : XK} (T : Txt P K mg)
    (G__law_draw : FnOk P w K mg base CX0 1 (ga K "_law_draw") (fdOf K "_law_draw") ["pool", "many"] (sp_draw)) (b__law_draw : Binds K (fdOf K "_law_draw") ["pool", "many"] [])
    (hr : Room 1 (A.deeper (envOfC "_law_chain" (defScope s__law_chain) s.heap.objs.size f cdv))) :
    { t : TS // PSs (cxOf CX0 P w K mg base N__law_chain "_law_chain" (defScope s__law_chain) f cdv A outer s H E).nox (defBody s__law_chain) t } := ⟨_, by exact
    (pss_cons (ps_set (i := 1) sc__law_chain.nd rfl (Or.inl rfl) (pe_op op_add (pe_int) (pe_call G__law_draw (hr.mono (by omega)) rfl T.f__law_draw.g T.f__law_draw.f.kp b__law_draw .nil pass0 (pa_cons (pv 0) (pa_cons (pe_int) pa_nil)))))
    (pss_cons (ps_set (i := 2) sc__law_chain.nd rfl (Or.inr rfl) (pe_lst (pa_cons (pe_call G__law_draw (hr.mono (by omega)) rfl T.f__law_draw.g T.f__law_draw.f.kp b__law_draw .nil pass0 (pa_cons (pv 0) (pa_cons (pe_int) pa_nil))) (pa_cons (pe_call G__law_draw (hr.mono (by omega)) rfl T.f__law_draw.g T.f__law_draw.f.kp b__law_draw .nil pass0 (pa_cons (pv 0) (pa_cons (pe_int) pa_nil))) (pa_cons (pe_int) pa_nil)))))
    (pss_one (ps_ret (pe_tup (pa_cons (pe_int) (pa_cons (pe_callTy cr_tupOf rfl T.n_tuple (by first | decide +kernel | boot_by_name) (pa_cons (pe_lc (own := [("j", 3)]) rfl sc__law_chain.nd (pi_range1 rfl T.n_range (pa_cons (pv 1) pa_nil)) (blkOk_by (own := [("j", 3)]) (N := N__law_chain) (sc := defScope s__law_chain) (by decide +kernel)) (fun _ _ _ _ _ => (pg_name (i := 3) sc__law_chain.nd rfl (Or.inl rfl))) (fun _ _ _ _ _ => pts_nil) (fun _ _ _ _ _ => (pe_tup (pa_cons (pe_ix (show IxR _ (rIxL K) from ix_list) (pv 2) (pe_op op_mod (pe_callTy cr_int rfl T.n_int (by first | decide +kernel | boot_by_name) (pa_cons (pv 3) pa_nil)) (pe_int)) (fun _ _ => rfl)) (pa_cons (pe_op op_add (pv 3) (pe_int)) (pa_cons (pe_op op_mod (pe_callTy cr_int rfl T.n_int (by first | decide +kernel | boot_by_name) (pa_cons (pv 3) pa_nil)) (pe_int)) pa_nil)))))) pa_nil)) (pa_cons (pe_tup (pa_cons (pe_op op_add (pv 1) (pe_int)) (pa_cons (pv 1) pa_nil))) pa_nil))))))))⟩
abbrev N__law_second : List Str := ["pools", "side", "circuit", "kind", "gatelist", "ends", "j", "turned", "g"]
theorem sc__law_second : FnScope N__law_second ["pools", "side", "circuit"] (defScope s__law_second) := ⟨rfl, rfl, rfl, by decide +kernel, rfl, by decide +kernel, by decide +kernel⟩
noncomputable def d__law_second {P : Program} {w : World} {K : PySem.W.Frag} {mg : Str → Option Value} {base : Heap} {f : Addr} {cdv : Value} {A : Around} {outer : List Env} {s : Shared} {H : Hp} {E : XK} (T : Txt P K mg)
    (G__law_draw : FnOk P w K mg base CX0 1 (ga K "_law_draw") (fdOf K "_law_draw") ["pool", "many"] (sp_draw)) (b__law_draw : Binds K (fdOf K "_law_draw") ["pool", "many"] [])
    (G__law_drawn : FnOk P w K mg base CX0 4 (ga K "_law_drawn") (fdOf K "_law_drawn") ["pools", "free", "count", "many"] (FabC.sp__law_drawn)) (b__law_drawn : Binds K (fdOf K "_law_drawn") ["pools", "free", "count", "many"] [])
    (G__law_wire : FnOk P w K mg base CX0 3 (ga K "_law_wire") (fdOf K "_law_wire") ["pools", "wires"] (FabC.sp__law_wire)) (b__law_wire : Binds K (fdOf K "_law_wire") ["pools", "wires"] [])
    (hr : Room 4 (A.deeper (envOfC "_law_second" (defScope s__law_second) s.heap.objs.size f cdv))) :
    { t : TS // PSs (cxOf CX0 P w K mg base N__law_second "_law_second" (defScope s__law_second) f cdv A outer s H E).nox (defBody s__law_second) t } := ⟨_, by exact
    (pss_cons (ps_set (i := 3) sc__law_second.nd rfl (Or.inl rfl) (pe_call G__law_draw (hr.mono (by omega)) rfl T.f__law_draw.g T.f__law_draw.f.kp b__law_draw .nil pass0 (pa_cons (pv 1) (pa_cons (pe_int) pa_nil))))
    (pss_cons (ps_set (i := 4) sc__law_second.nd rfl (Or.inl rfl) (pe_callTy cr_listOf rfl T.n_list (by first | decide +kernel | boot_by_name) (pa_cons (pe_ix ix_tup (pv 2) (pe_int) (fun _ _ => rfl)) pa_nil)))
    (pss_cons (ps_set (i := 5) sc__law_second.nd rfl (Or.inl rfl) (pe_callTy cr_listOf rfl T.n_list (by first | decide +kernel | boot_by_name) (pa_cons (pe_ix ix_tup (pv 2) (pe_int) (fun _ _ => rfl)) pa_nil)))
    (pss_cons (ps_set (i := 6) sc__law_second.nd rfl (Or.inl rfl) (pe_call G__law_draw (hr.mono (by omega)) rfl T.f__law_draw.g T.f__law_draw.f.kp b__law_draw .nil pass0 (pa_cons (pv 1) (pa_cons (pe_callB (call_max2 rfl) rfl T.n_max (by first | decide +kernel | boot_by_name) (pa_cons (pe_int) (pa_cons (pe_callB cr_len rfl T.n_len (by first | decide +kernel | boot_by_name) (pa_cons (pv 4) pa_nil)) pa_nil))) pa_nil))))
    (pss_cons (ps_if (PW.pt (pw_and (pt_cmpR op_eq (pv 3) (pe_int) (nomark _)) (pw_and1 (pt_cmpR op_gt (pe_callB cr_len rfl T.n_len (by first | decide +kernel | boot_by_name) (pa_cons (pv 4) pa_nil)) (pe_int) (nomark _))))) (pss_cons (ps_set (i := 7) sc__law_second.nd rfl (Or.inl rfl) (pe_op op_xor (pe_ix ix_tup (pe_ix ix_list (pv 4) (pv 6) (fun _ _ => rfl)) (pe_int) (fun _ _ => rfl)) (pe_op op_shl (pe_int) (pe_call G__law_draw (hr.mono (by omega)) rfl T.f__law_draw.g T.f__law_draw.f.kp b__law_draw .nil pass0 (pa_cons (pv 1) (pa_cons (pe_int) pa_nil))))))
    (pss_one (ps_asg (pe_tup (pa_cons (pv 7) (pa_cons (pe_ix ix_tup (pe_ix ix_list (pv 4) (pv 6) (fun _ _ => rfl)) (pe_int) (fun _ _ => rfl)) (pa_cons (pe_ix ix_tup (pe_ix ix_list (pv 4) (pv 6) (fun _ _ => rfl)) (pe_int) (fun _ _ => rfl)) pa_nil)))) (pg_sub (pv 4) (pv 6) set_list)))) (pss_one (ps_if (pt_cmpR op_eq (pv 3) (pe_int) (nomark _)) (pss_one (ps_setLc (i := 4) (own := [("g", 8)]) rfl sc__law_second.nd rfl rfl (sw_true rfl rfl rfl (by decide +kernel)) (pi_tup (pe_ix ix_tup (pv 2) (pe_int) (fun _ _ => rfl))) (blkOk_by (own := [("g", 8)]) (N := N__law_second) (sc := defScope s__law_second) (by decide +kernel)) (fun _ _ _ _ _ => (pg_name (i := 8) sc__law_second.nd rfl (Or.inl rfl))) (fun _ _ _ _ _ => pts_nil) (fun _ _ _ _ _ => (pe_tup (pa_cons (pe_op op_add (pe_op op_add (pe_op op_and (pe_ix (show IxR _ (rIxT K) from ix_tup) (pv 8) (pe_int) (fun _ _ => rfl)) (pe_int)) (pe_op op_shl (pe_op op_and (pe_ix (show IxR _ (rIxT K) from ix_tup) (pv 8) (pe_int) (fun _ _ => rfl)) (pe_int)) (pe_int))) (pe_op op_shr (pe_op op_and (pe_ix (show IxR _ (rIxT K) from ix_tup) (pv 8) (pe_int) (fun _ _ => rfl)) (pe_int)) (pe_int))) (pa_cons (pe_ix (show IxR _ (rIxT K) from ix_tup) (pv 8) (pe_int) (fun _ _ => rfl)) (pa_cons (pe_ix (show IxR _ (rIxT K) from ix_tup) (pv 8) (pe_int) (fun _ _ => rfl)) pa_nil))))))) (pss_one (ps_if (PW.pt (pw_and (pt_cmpR op_eq (pv 3) (pe_int) (nomark _)) (pw_and1 (pt_cmpR op_gt (pe_callB cr_len rfl T.n_len (by first | decide +kernel | boot_by_name) (pa_cons (pv 5) pa_nil)) (pe_int) (nomark _))))) (pss_cons (ps_set (i := 6) sc__law_second.nd rfl (Or.inl rfl) (pe_call G__law_draw (hr.mono (by omega)) rfl T.f__law_draw.g T.f__law_draw.f.kp b__law_draw .nil pass0 (pa_cons (pv 1) (pa_cons (pe_callB cr_len rfl T.n_len (by first | decide +kernel | boot_by_name) (pa_cons (pv 5) pa_nil)) pa_nil))))
    (pss_one (ps_asg (pe_call G__law_wire (hr.mono (by omega)) rfl T.f__law_wire.g T.f__law_wire.f.kp b__law_wire .nil pass0 (pa_cons (pv 0) (pa_cons (pe_op op_add (pe_ix ix_tup (pv 2) (pe_int) (fun _ _ => rfl)) (pe_callB cr_len rfl T.n_len (by first | decide +kernel | boot_by_name) (pa_cons (pv 4) pa_nil))) pa_nil))) (pg_sub (pv 5) (pv 6) set_list)))) (pss_one (ps_if (pt_cmpR op_eq (pv 3) (pe_int) (nomark _)) (pss_one (ps_ret (pe_call G__law_drawn (hr.mono (by omega)) rfl T.f__law_drawn.g T.f__law_drawn.f.kp b__law_drawn .nil pass0 (pa_cons (pv 0) (pa_cons (pe_ix ix_tup (pv 2) (pe_int) (fun _ _ => rfl)) (pa_cons (pe_call G__law_draw (hr.mono (by omega)) rfl T.f__law_draw.g T.f__law_draw.f.kp b__law_draw .nil pass0 (pa_cons (pv 1) (pa_cons (pe_int) pa_nil))) (pa_cons (pe_callB cr_len rfl T.n_len (by first | decide +kernel | boot_by_name) (pa_cons (pv 5) pa_nil)) pa_nil))))))) (pss_one (ps_if (PW.pt (pw_and (pt_cmpR op_eq (pv 3) (pe_int) (nomark _)) (pw_and1 (pt_cmpR op_gt (pe_callB cr_len rfl T.n_len (by first | decide +kernel | boot_by_name) (pa_cons (pv 4) pa_nil)) (pe_int) (nomark _))))) (pss_one (ps_asg (pe_tup (pa_cons (pe_ix ix_tup (pe_ix ix_list (pv 4) (pv 6) (fun _ _ => rfl)) (pe_int) (fun _ _ => rfl)) (pa_cons (pe_call G__law_wire (hr.mono (by omega)) rfl T.f__law_wire.g T.f__law_wire.f.kp b__law_wire .nil pass0 (pa_cons (pv 0) (pa_cons (pe_op op_add (pe_ix ix_tup (pv 2) (pe_int) (fun _ _ => rfl)) (pv 6)) pa_nil))) (pa_cons (pe_ix ix_tup (pe_ix ix_list (pv 4) (pv 6) (fun _ _ => rfl)) (pe_int) (fun _ _ => rfl)) pa_nil)))) (pg_sub (pv 4) (pv 6) set_list))) pss_nil)))))))))
    (pss_one (ps_ret (pe_tup (pa_cons (pe_ix ix_tup (pv 2) (pe_int) (fun _ _ => rfl)) (pa_cons (pe_callTy cr_tupOf rfl T.n_tuple (by first | decide +kernel | boot_by_name) (pa_cons (pv 4) pa_nil)) (pa_cons (pe_callTy cr_tupOf rfl T.n_tuple (by first | decide +kernel | boot_by_name) (pa_cons (pv 5) pa_nil)) pa_nil)))))))))))⟩
abbrev N__law_values_right : List Str := ["circuit", "rows", "values", "worths", "shown", "handed", "told", "ended"]
theorem sc__law_values_right : FnScope N__law_values_right ["circuit", "rows"] (defScope s__law_values_right) := ⟨rfl, rfl, rfl, by decide +kernel, rfl, by decide +kernel, by decide +kernel⟩
noncomputable def d__law_values_right {P : Program} {w : World} {K : PySem.W.Frag} {mg : Str → Option Value} {base : Heap} {f : Addr} {cdv : Value} {A : Around} {outer : List Env} {s : Shared} {H : Hp} {E : XK} (T : Txt P K mg)
    (G__law_same : FnOk P w K mg base CX0 6 (ga K "_law_same") (fdOf K "_law_same") ["told", "due"] (sp_same 4)) (b__law_same : Binds K (fdOf K "_law_same") ["told", "due"] [])
    (G__law_shown : FnOk P w K mg base CX0 2 (ga K "_law_shown") (fdOf K "_law_shown") ["circuit", "values"] (sp__law_shown)) (b__law_shown : Binds K (fdOf K "_law_shown") ["circuit", "values"] [])
    (G__law_worths : FnOk P w K mg base CX0 1 (ga K "_law_worths") (fdOf K "_law_worths") ["circuit", "values"] (sp__law_worths)) (b__law_worths : Binds K (fdOf K "_law_worths") ["circuit", "values"] [])
    (G_evaluate : FnOk P w K mg base CX0 4 (ga K "evaluate") (fdOf K "evaluate") ["circuit", "values"] (sp0_evaluate)) (b_evaluate : Binds K (fdOf K "evaluate") ["circuit", "values"] [])
    (G_wire_values : FnOk P w K mg base CX0 3 (ga K "wire_values") (fdOf K "wire_values") ["circuit", "values"] (sp0_wire_values)) (b_wire_values : Binds K (fdOf K "wire_values") ["circuit", "values"] [])
    (hr : Room 6 (A.deeper (envOfC "_law_values_right" (defScope s__law_values_right) s.heap.objs.size f cdv))) :
    { t : TS // PSs (cxOf CX0 P w K mg base N__law_values_right "_law_values_right" (defScope s__law_values_right) f cdv A outer s H E).nox (defBody s__law_values_right) t } := ⟨_, by exact
    (pss_cons (ps_for PassesOwn.never rfl (pi_list (pv 1)) (pg_name (i := 2) sc__law_values_right.nd rfl (Or.inl rfl)) (pss_cons (ps_set (i := 3) sc__law_values_right.nd rfl (Or.inl rfl) (pe_call G__law_worths (hr.mono (by omega)) rfl T.f__law_worths.g T.f__law_worths.f.kp b__law_worths .nil pass0 (pa_cons (pv 0) (pa_cons (pv 2) pa_nil))))
    (pss_cons (ps_set (i := 4) sc__law_values_right.nd rfl (Or.inl rfl) (pe_call G__law_shown (hr.mono (by omega)) rfl T.f__law_shown.g T.f__law_shown.f.kp b__law_shown .nil pass0 (pa_cons (pv 0) (pa_cons (pv 2) pa_nil))))
    (pss_cons (ps_set (i := 5) sc__law_values_right.nd rfl (Or.inl rfl) (pe_callTy cr_listOf rfl T.n_list (by first | decide +kernel | boot_by_name) (pa_cons (pv 2) pa_nil)))
    (pss_cons (ps_set (i := 6) sc__law_values_right.nd rfl (Or.inl rfl) (pe_call G_wire_values (hr.mono (by omega)) rfl T.f_wire_values.g T.f_wire_values.f.kp b_wire_values .nil pass0 (pa_cons (pv 0) (pa_cons (pv 5) pa_nil))))
    (pss_cons (ps_set (i := 7) sc__law_values_right.nd rfl (Or.inl rfl) (pe_call G_evaluate (hr.mono (by omega)) rfl T.f_evaluate.g T.f_evaluate.f.kp b_evaluate .nil pass0 (pa_cons (pv 0) (pa_cons (pv 5) pa_nil))))
    (pss_cons (ps_if (PW.pt (pw_or (pt_not (pt_val (pe_call G__law_same (hr.mono (by omega)) rfl T.f__law_same.g T.f__law_same.f.kp b__law_same .nil pass0 (pa_cons (pv 6) (pa_cons (pv 3) pa_nil))))) (pw_or (pt_not (pt_val (pe_call G__law_same (hr.mono (by omega)) rfl T.f__law_same.g T.f__law_same.f.kp b__law_same .nil pass0 (pa_cons (pv 7) (pa_cons (pv 4) pa_nil))))) (pw_or1 (pt_not (pt_val (pe_call G__law_same (hr.mono (by omega)) rfl T.f__law_same.g T.f__law_same.f.kp b__law_same .nil pass0 (pa_cons (pv 5) (pa_cons (pv 2) pa_nil))))))))) (pss_one (ps_ret (pe_bl))) pss_nil)
    (pss_cons (ps_expr (pe_bm PySem.F.plainAttrs_list PySem.F.slot_list_append PySem.F.type_list_append mt_append (pv 6) (pa_cons (pe_int) pa_nil)))
    (pss_cons (ps_expr (pe_bm PySem.F.plainAttrs_list PySem.F.slot_list_append PySem.F.type_list_append mt_append (pv 7) (pa_cons (pe_int) pa_nil)))
    (pss_cons (ps_if (PW.pt (pw_or (pt_not (pt_val (pe_call G__law_same (hr.mono (by omega)) rfl T.f__law_same.g T.f__law_same.f.kp b__law_same .nil pass0 (pa_cons (pv 5) (pa_cons (pv 2) pa_nil))))) (pw_or1 (pt_not (pt_val (pe_call G__law_same (hr.mono (by omega)) rfl T.f__law_same.g T.f__law_same.f.kp b__law_same .nil pass0 (pa_cons (pe_call G_wire_values (hr.mono (by omega)) rfl T.f_wire_values.g T.f_wire_values.f.kp b_wire_values .nil pass0 (pa_cons (pv 0) (pa_cons (pe_callTy cr_tupOf rfl T.n_tuple (by first | decide +kernel | boot_by_name) (pa_cons (pv 2) pa_nil)) pa_nil))) (pa_cons (pv 3) pa_nil)))))))) (pss_one (ps_ret (pe_bl))) pss_nil)
    (pss_one (ps_if (pt_not (pt_val (pe_call G__law_same (hr.mono (by omega)) rfl T.f__law_same.g T.f__law_same.f.kp b__law_same .nil pass0 (pa_cons (pe_call G_evaluate (hr.mono (by omega)) rfl T.f_evaluate.g T.f_evaluate.f.kp b_evaluate .nil pass0 (pa_cons (pv 0) (pa_cons (pe_callTy cr_tupOf rfl T.n_tuple (by first | decide +kernel | boot_by_name) (pa_cons (pv 2) pa_nil)) pa_nil))) (pa_cons (pv 4) pa_nil))))) (pss_one (ps_ret (pe_bl))) pss_nil))))))))))))
    (pss_one (ps_ret (pe_bl))))⟩
abbrev N__law_counts_right : List Str := ["circuit", "told"]
theorem sc__law_counts_right : FnScope N__law_counts_right ["circuit"] (defScope s__law_counts_right) := ⟨rfl, rfl, rfl, by decide +kernel, rfl, by decide +kernel, by decide +kernel⟩
noncomputable def d__law_counts_right {P : Program} {w : World} {K : PySem.W.Frag} {mg : Str → Option Value} {base : Heap} {f : Addr} {cdv : Value} {A : Around} {outer : List Env} {s : Shared} {H : Hp} {E : XK} (T : Txt P K mg)
    (G__law_readers : FnOk P w K mg base CX0 1 (ga K "_law_readers") (fdOf K "_law_readers") ["circuit"] (sp__law_readers)) (b__law_readers : Binds K (fdOf K "_law_readers") ["circuit"] [])
    (G__law_same : FnOk P w K mg base CX0 6 (ga K "_law_same") (fdOf K "_law_same") ["told", "due"] (sp_same 4)) (b__law_same : Binds K (fdOf K "_law_same") ["told", "due"] [])
    (G_reader_counts : FnOk P w K mg base CX0 1 (ga K "reader_counts") (fdOf K "reader_counts") ["circuit"] (sp_reader_counts)) (b_reader_counts : Binds K (fdOf K "reader_counts") ["circuit"] [])
    (hr : Room 6 (A.deeper (envOfC "_law_counts_right" (defScope s__law_counts_right) s.heap.objs.size f cdv))) :
    { t : TS // PSs (cxOf CX0 P w K mg base N__law_counts_right "_law_counts_right" (defScope s__law_counts_right) f cdv A outer s H E).nox (defBody s__law_counts_right) t } := ⟨_, by exact
    (pss_cons (ps_set (i := 1) sc__law_counts_right.nd rfl (Or.inl rfl) (pe_call G_reader_counts (hr.mono (by omega)) rfl T.f_reader_counts.g T.f_reader_counts.f.kp b_reader_counts .nil pass0 (pa_cons (pv 0) pa_nil)))
    (pss_cons (ps_if (pt_not (pt_val (pe_call G__law_same (hr.mono (by omega)) rfl T.f__law_same.g T.f__law_same.f.kp b__law_same .nil pass0 (pa_cons (pv 1) (pa_cons (pe_call G__law_readers (hr.mono (by omega)) rfl T.f__law_readers.g T.f__law_readers.f.kp b__law_readers .nil pass0 (pa_cons (pv 0) pa_nil)) pa_nil))))) (pss_one (ps_ret (pe_bl))) pss_nil)
    (pss_cons (ps_expr (pe_bm PySem.F.plainAttrs_list PySem.F.slot_list_append PySem.F.type_list_append mt_append (pv 1) (pa_cons (pe_int) pa_nil)))
    (pss_one (ps_ret (pe_call G__law_same (hr.mono (by omega)) rfl T.f__law_same.g T.f__law_same.f.kp b__law_same .nil pass0 (pa_cons (pe_call G_reader_counts (hr.mono (by omega)) rfl T.f_reader_counts.g T.f_reader_counts.f.kp b_reader_counts .nil pass0 (pa_cons (pv 0) pa_nil)) (pa_cons (pe_call G__law_readers (hr.mono (by omega)) rfl T.f__law_readers.g T.f__law_readers.f.kp b__law_readers .nil pass0 (pa_cons (pv 0) pa_nil)) pa_nil))))))))⟩
abbrev N__law_table_right : List Str := ["circuit", "rows", "due", "values", "told"]
theorem sc__law_table_right : FnScope N__law_table_right ["circuit", "rows"] (defScope s__law_table_right) := ⟨rfl, rfl, rfl, by decide +kernel, rfl, by decide +kernel, by decide +kernel⟩
noncomputable def d__law_table_right {P : Program} {w : World} {K : PySem.W.Frag} {mg : Str → Option Value} {base : Heap} {f : Addr} {cdv : Value} {A : Around} {outer : List Env} {s : Shared} {H : Hp} {E : XK} (T : Txt P K mg)
    (G__law_same : FnOk P w K mg base CX0 6 (ga K "_law_same") (fdOf K "_law_same") ["told", "due"] (sp_same 4)) (b__law_same : Binds K (fdOf K "_law_same") ["told", "due"] [])
    (G__law_shown : FnOk P w K mg base CX0 2 (ga K "_law_shown") (fdOf K "_law_shown") ["circuit", "values"] (sp__law_shown)) (b__law_shown : Binds K (fdOf K "_law_shown") ["circuit", "values"] [])
    (G_truth_table : FnOk P w K mg base CX0 5 (ga K "truth_table") (fdOf K "truth_table") ["circuit"] (sp0_truth_table)) (b_truth_table : Binds K (fdOf K "truth_table") ["circuit"] [])
    (hr : Room 6 (A.deeper (envOfC "_law_table_right" (defScope s__law_table_right) s.heap.objs.size f cdv))) :
    { t : TS // PSs (cxOf CX0 P w K mg base N__law_table_right "_law_table_right" (defScope s__law_table_right) f cdv A outer s H E).nox (defBody s__law_table_right) t } := ⟨_, by exact
    (pss_cons (ps_setLc (i := 2) (own := [("values", 3)]) rfl sc__law_table_right.nd rfl rfl (sw_true rfl rfl rfl (by decide +kernel)) (pi_list (pv 1)) (blkOk_by (own := [("values", 3)]) (N := N__law_table_right) (sc := defScope s__law_table_right) (by decide +kernel)) (fun _ _ _ _ _ => (pg_name (i := 3) sc__law_table_right.nd rfl (Or.inl rfl))) (fun _ _ _ _ _ => pts_nil) (fun _ _ _ _ _ => (pe_call G__law_shown (hr.mono (by omega)) rfl T.f__law_shown.g T.f__law_shown.f.kp b__law_shown .nil pass0 (pa_cons (pv 0) (pa_cons (pv 3) pa_nil)))))
    (pss_cons (ps_set (i := 4) sc__law_table_right.nd rfl (Or.inl rfl) (pe_call G_truth_table (hr.mono (by omega)) rfl T.f_truth_table.g T.f_truth_table.f.kp b_truth_table .nil pass0 (pa_cons (pv 0) pa_nil)))
    (pss_cons (ps_if (pt_not (pt_val (pe_call G__law_same (hr.mono (by omega)) rfl T.f__law_same.g T.f__law_same.f.kp b__law_same .nil pass0 (pa_cons (pv 4) (pa_cons (pv 2) pa_nil))))) (pss_one (ps_ret (pe_bl))) pss_nil)
    (pss_cons (ps_expr (pe_bm PySem.F.plainAttrs_list PySem.F.slot_list_append PySem.F.type_list_append mt_append (pe_ix ix_list (pv 4) (pe_int) (fun _ _ => rfl)) (pa_cons (pe_int) pa_nil)))
    (pss_cons (ps_expr (pe_bm PySem.F.plainAttrs_list PySem.F.slot_list_append PySem.F.type_list_append mt_append (pv 4) (pa_cons (pe_lst (pa_cons (pe_int) pa_nil)) pa_nil)))
    (pss_one (ps_ret (pe_call G__law_same (hr.mono (by omega)) rfl T.f__law_same.g T.f__law_same.f.kp b__law_same .nil pass0 (pa_cons (pe_call G_truth_table (hr.mono (by omega)) rfl T.f_truth_table.g T.f_truth_table.f.kp b_truth_table .nil pass0 (pa_cons (pv 0) pa_nil)) (pa_cons (pv 2) pa_nil))))))))))⟩
abbrev N__law_parted : List Str := ["one", "two", "rows", "values"]
theorem sc__law_parted : FnScope N__law_parted ["one", "two", "rows"] (defScope s__law_parted) := ⟨rfl, rfl, rfl, by decide +kernel, rfl, by decide +kernel, by decide +kernel⟩
noncomputable def d__law_parted {P : Program} {w : World} {K : PySem.W.Frag} {mg : Str → Option Value} {base : Heap} {f : Addr} {cdv : Value} {A : Around} {outer : List Env} {s : Shared} {H : Hp} {E : XK} (T : Txt P K mg)
    (G__law_shown : FnOk P w K mg base CX0 2 (ga K "_law_shown") (fdOf K "_law_shown") ["circuit", "values"] (sp__law_shown)) (b__law_shown : Binds K (fdOf K "_law_shown") ["circuit", "values"] [])
    (hr : Room 2 (A.deeper (envOfC "_law_parted" (defScope s__law_parted) s.heap.objs.size f cdv))) :
    { t : TS // PSs (cxOf CX0 P w K mg base N__law_parted "_law_parted" (defScope s__law_parted) f cdv A outer s H E).nox (defBody s__law_parted) t } := ⟨_, by exact
    (pss_cons (ps_for PassesOwn.never rfl (pi_list (pv 2)) (pg_name (i := 3) sc__law_parted.nd rfl (Or.inl rfl)) (pss_one (ps_if (pt_cmpR (op_neD hr.units) (pe_call G__law_shown (hr.mono (by omega)) rfl T.f__law_shown.g T.f__law_shown.f.kp b__law_shown .nil pass0 (pa_cons (pv 0) (pa_cons (pv 3) pa_nil))) (pe_call G__law_shown (hr.mono (by omega)) rfl T.f__law_shown.g T.f__law_shown.f.kp b__law_shown .nil pass0 (pa_cons (pv 1) (pa_cons (pv 3) pa_nil))) (nomark _)) (pss_one (ps_ret (pe_callTy cr_listOf rfl T.n_list (by first | decide +kernel | boot_by_name) (pa_cons (pv 3) pa_nil)))) pss_nil)))
    (pss_one (ps_ret (pe_non))))⟩
abbrev N__law_difference_right : List Str := ["one", "two", "rows", "due", "pair", "told"]
theorem sc__law_difference_right : FnScope N__law_difference_right ["one", "two", "rows"] (defScope s__law_difference_right) := ⟨rfl, rfl, rfl, by decide +kernel, rfl, by decide +kernel, by decide +kernel⟩
noncomputable def d__law_difference_right {P : Program} {w : World} {K : PySem.W.Frag} {mg : Str → Option Value} {base : Heap} {f : Addr} {cdv : Value} {A : Around} {outer : List Env} {s : Shared} {H : Hp} {E : XK} (T : Txt P K mg)
    (G__law_parted : FnOk P w K mg base CX0 3 (ga K "_law_parted") (fdOf K "_law_parted") ["one", "two", "rows"] (sp__law_parted)) (b__law_parted : Binds K (fdOf K "_law_parted") ["one", "two", "rows"] [])
    (G__law_same : FnOk P w K mg base CX0 6 (ga K "_law_same") (fdOf K "_law_same") ["told", "due"] (sp_same 4)) (b__law_same : Binds K (fdOf K "_law_same") ["told", "due"] [])
    (G_difference : FnOk P w K mg base CX0 5 (ga K "difference") (fdOf K "difference") ["circuit", "other"] (sp0_difference)) (b_difference : Binds K (fdOf K "difference") ["circuit", "other"] [])
    (hr : Room 6 (A.deeper (envOfC "_law_difference_right" (defScope s__law_difference_right) s.heap.objs.size f cdv))) :
    { t : TS // PSs (cxOf CX0 P w K mg base N__law_difference_right "_law_difference_right" (defScope s__law_difference_right) f cdv A outer s H E).nox (defBody s__law_difference_right) t } := ⟨_, by exact
    (pss_cons (ps_set (i := 3) sc__law_difference_right.nd rfl (Or.inl rfl) (pe_call G__law_parted (hr.mono (by omega)) rfl T.f__law_parted.g T.f__law_parted.f.kp b__law_parted .nil pass0 (pa_cons (pv 0) (pa_cons (pv 1) (pa_cons (pv 2) pa_nil)))))
    (pss_cons (ps_for PassesOwn.never rfl (pi_list (pe_lst (pa_cons (pe_tup (pa_cons (pv 0) (pa_cons (pv 1) pa_nil))) (pa_cons (pe_tup (pa_cons (pv 1) (pa_cons (pv 0) pa_nil))) (pa_cons (pe_tup (pa_cons (pv 0) (pa_cons (pv 1) pa_nil))) pa_nil))))) (pg_name (i := 4) sc__law_difference_right.nd rfl (Or.inl rfl)) (pss_cons (ps_set (i := 5) sc__law_difference_right.nd rfl (Or.inl rfl) (pe_call G_difference (hr.mono (by omega)) rfl T.f_difference.g T.f_difference.f.kp b_difference .nil pass0 (pa_cons (pe_ix ix_tup (pv 4) (pe_int) (fun _ _ => rfl)) (pa_cons (pe_ix ix_tup (pv 4) (pe_int) (fun _ _ => rfl)) pa_nil))))
    (pss_cons (ps_if (pt_not (pt_val (pe_call G__law_same (hr.mono (by omega)) rfl T.f__law_same.g T.f__law_same.f.kp b__law_same .nil pass0 (pa_cons (pv 5) (pa_cons (pv 3) pa_nil))))) (pss_one (ps_ret (pe_bl))) pss_nil)
    (pss_one (ps_if (pt_cmpR or_isNotN (pv 3) (pe_non) (nomark _)) (pss_one (ps_expr (pe_bm PySem.F.plainAttrs_list PySem.F.slot_list_append PySem.F.type_list_append mt_append (pv 5) (pa_cons (pe_int) pa_nil)))) pss_nil)))))
    (pss_one (ps_ret (pe_cmpR or_isN (pe_call G_difference (hr.mono (by omega)) rfl T.f_difference.g T.f_difference.f.kp b_difference .nil pass0 (pa_cons (pv 0) (pa_cons (pv 0) pa_nil))) (pe_non) (nomark _))))))⟩
abbrev N__law_told_values : List Str := ["circuit", "values", "got", "e"]
theorem sc__law_told_values : FnScope N__law_told_values ["circuit", "values"] (defScope s__law_told_values) := ⟨rfl, rfl, rfl, by decide +kernel, rfl, by decide +kernel, by decide +kernel⟩
noncomputable def d__law_told_values {P : Program} {w : World} {K : PySem.W.Frag} {mg : Str → Option Value} {base : Heap} {f : Addr} {cdv : Value} {A : Around} {outer : List Env} {s : Shared} {H : Hp} {E : XK} (T : Txt P K mg)
    (G_wire_values : FnOk P w K mg base (L2.CX P w) 3 (ga K "wire_values") (fdOf K "wire_values") ["circuit", "values"] (sp_wire_values K)) (b_wire_values : Binds K (fdOf K "wire_values") ["circuit", "values"] [])
    (hr : Room 3 (A.deeper (envOfC "_law_told_values" (defScope s__law_told_values) s.heap.objs.size f cdv))) :
    { t : TS // PSs (cxOf CX0 P w K mg base N__law_told_values "_law_told_values" (defScope s__law_told_values) f cdv A outer s H E).nox (defBody s__law_told_values) t } := ⟨_, by exact
    (pss_cons (ps_set (i := 2) sc__law_told_values.nd rfl (Or.inl rfl) (pe_tup (pa_cons (pe_str) (pa_cons (pe_int) pa_nil))))
    (pss_cons (ps_try_all (Wout := fun _ _ _ _ => False) rfl rfl sc__law_told_values.nd takes0 (fun W pn xe tk xo => (pss_one (ps_set (i := 2) sc__law_told_values.nd rfl (Or.inl rfl) (pe_tup (pa_cons (pe_str) (pa_cons (pe_callS G_wire_values (hr.mono (by omega)) rfl T.f_wire_values.g T.f_wire_values.f.kp b_wire_values (fun σ => passAt tk σ) (pa_cons (pv 0) (pa_cons (pv 1) pa_nil))) pa_nil)))))) (HdsA.as (i := 3) rfl rfl ⟨rfl, by decide, Or.inl T.g_SizeError⟩ (fun a oe cls d pn hz hf => (pss_one (ps_set (i := 2) sc__law_told_values.nd rfl (Or.inl rfl) (pe_tup (pa_cons (pe_str) (pa_cons (pe_xf T.x_SizeError.2 T.e_SizeError.noN hz hf (pv 3)) pa_nil)))))) HdsA.nil))
    (pss_one (ps_ret (pv 2)))))⟩
abbrev N__law_told_outputs : List Str := ["circuit", "values", "got", "e"]
theorem sc__law_told_outputs : FnScope N__law_told_outputs ["circuit", "values"] (defScope s__law_told_outputs) := ⟨rfl, rfl, rfl, by decide +kernel, rfl, by decide +kernel, by decide +kernel⟩
noncomputable def d__law_told_outputs {P : Program} {w : World} {K : PySem.W.Frag} {mg : Str → Option Value} {base : Heap} {f : Addr} {cdv : Value} {A : Around} {outer : List Env} {s : Shared} {H : Hp} {E : XK} (T : Txt P K mg)
    (G_evaluate : FnOk P w K mg base (L2.CX P w) 4 (ga K "evaluate") (fdOf K "evaluate") ["circuit", "values"] (sp_evaluate K)) (b_evaluate : Binds K (fdOf K "evaluate") ["circuit", "values"] [])
    (hr : Room 4 (A.deeper (envOfC "_law_told_outputs" (defScope s__law_told_outputs) s.heap.objs.size f cdv))) :
    { t : TS // PSs (cxOf CX0 P w K mg base N__law_told_outputs "_law_told_outputs" (defScope s__law_told_outputs) f cdv A outer s H E).nox (defBody s__law_told_outputs) t } := ⟨_, by exact
    (pss_cons (ps_set (i := 2) sc__law_told_outputs.nd rfl (Or.inl rfl) (pe_tup (pa_cons (pe_str) (pa_cons (pe_int) pa_nil))))
    (pss_cons (ps_try_all (Wout := fun _ _ _ _ => False) rfl rfl sc__law_told_outputs.nd takes0 (fun W pn xe tk xo => (pss_one (ps_set (i := 2) sc__law_told_outputs.nd rfl (Or.inl rfl) (pe_tup (pa_cons (pe_str) (pa_cons (pe_callS G_evaluate (hr.mono (by omega)) rfl T.f_evaluate.g T.f_evaluate.f.kp b_evaluate (fun σ => passAt tk σ) (pa_cons (pv 0) (pa_cons (pv 1) pa_nil))) pa_nil)))))) (HdsA.as (i := 3) rfl rfl ⟨rfl, by decide, Or.inl T.g_SizeError⟩ (fun a oe cls d pn hz hf => (pss_one (ps_set (i := 2) sc__law_told_outputs.nd rfl (Or.inl rfl) (pe_tup (pa_cons (pe_str) (pa_cons (pe_xf T.x_SizeError.2 T.e_SizeError.noN hz hf (pv 3)) pa_nil)))))) HdsA.nil))
    (pss_one (ps_ret (pv 2)))))⟩
abbrev N__law_told_table : List Str := ["circuit", "got", "e"]
theorem sc__law_told_table : FnScope N__law_told_table ["circuit"] (defScope s__law_told_table) := ⟨rfl, rfl, rfl, by decide +kernel, rfl, by decide +kernel, by decide +kernel⟩
noncomputable def d__law_told_table {P : Program} {w : World} {K : PySem.W.Frag} {mg : Str → Option Value} {base : Heap} {f : Addr} {cdv : Value} {A : Around} {outer : List Env} {s : Shared} {H : Hp} {E : XK} (T : Txt P K mg)
    (G_truth_table : FnOk P w K mg base (L2.CX P w) 5 (ga K "truth_table") (fdOf K "truth_table") ["circuit"] (sp_truth_table K)) (b_truth_table : Binds K (fdOf K "truth_table") ["circuit"] [])
    (hr : Room 5 (A.deeper (envOfC "_law_told_table" (defScope s__law_told_table) s.heap.objs.size f cdv))) :
    { t : TS // PSs (cxOf CX0 P w K mg base N__law_told_table "_law_told_table" (defScope s__law_told_table) f cdv A outer s H E).nox (defBody s__law_told_table) t } := ⟨_, by exact
    (pss_cons (ps_set (i := 1) sc__law_told_table.nd rfl (Or.inl rfl) (pe_tup (pa_cons (pe_str) (pa_cons (pe_int) pa_nil))))
    (pss_cons (ps_try_all (Wout := fun _ _ _ _ => False) rfl rfl sc__law_told_table.nd takes0 (fun W pn xe tk xo => (pss_one (ps_set (i := 1) sc__law_told_table.nd rfl (Or.inl rfl) (pe_tup (pa_cons (pe_str) (pa_cons (pe_callS G_truth_table (hr.mono (by omega)) rfl T.f_truth_table.g T.f_truth_table.f.kp b_truth_table (fun σ => passAt tk σ) (pa_cons (pv 0) pa_nil)) pa_nil)))))) (HdsA.as (i := 2) rfl rfl ⟨rfl, by decide, Or.inl T.g_SizeError⟩ (fun a oe cls d pn hz hf => (pss_one (ps_set (i := 1) sc__law_told_table.nd rfl (Or.inl rfl) (pe_tup (pa_cons (pe_str) (pa_cons (pe_xf T.x_SizeError.2 T.e_SizeError.noN hz hf (pv 2)) pa_nil)))))) HdsA.nil))
    (pss_one (ps_ret (pv 1)))))⟩
abbrev N__law_told_difference : List Str := ["one", "two", "got", "e"]
theorem sc__law_told_difference : FnScope N__law_told_difference ["one", "two"] (defScope s__law_told_difference) := ⟨rfl, rfl, rfl, by decide +kernel, rfl, by decide +kernel, by decide +kernel⟩
noncomputable def d__law_told_difference {P : Program} {w : World} {K : PySem.W.Frag} {mg : Str → Option Value} {base : Heap} {f : Addr} {cdv : Value} {A : Around} {outer : List Env} {s : Shared} {H : Hp} {E : XK} (T : Txt P K mg)
    (G_difference : FnOk P w K mg base (L2.CX P w) 5 (ga K "difference") (fdOf K "difference") ["circuit", "other"] (sp_difference K)) (b_difference : Binds K (fdOf K "difference") ["circuit", "other"] [])
    (hr : Room 5 (A.deeper (envOfC "_law_told_difference" (defScope s__law_told_difference) s.heap.objs.size f cdv))) :
    { t : TS // PSs (cxOf CX0 P w K mg base N__law_told_difference "_law_told_difference" (defScope s__law_told_difference) f cdv A outer s H E).nox (defBody s__law_told_difference) t } := ⟨_, by exact
    (pss_cons (ps_set (i := 2) sc__law_told_difference.nd rfl (Or.inl rfl) (pe_tup (pa_cons (pe_str) (pa_cons (pe_int) pa_nil))))
    (pss_cons (ps_try_all (Wout := fun _ _ _ _ => False) rfl rfl sc__law_told_difference.nd takes0 (fun W pn xe tk xo => (pss_one (ps_set (i := 2) sc__law_told_difference.nd rfl (Or.inl rfl) (pe_tup (pa_cons (pe_str) (pa_cons (pe_callS G_difference (hr.mono (by omega)) rfl T.f_difference.g T.f_difference.f.kp b_difference (fun σ => passAt tk σ) (pa_cons (pv 0) (pa_cons (pv 1) pa_nil))) pa_nil)))))) (HdsA.as (i := 3) rfl rfl ⟨rfl, by decide, Or.inl T.g_SizeError⟩ (fun a oe cls d pn hz hf => (pss_one (ps_set (i := 2) sc__law_told_difference.nd rfl (Or.inl rfl) (pe_tup (pa_cons (pe_str) (pa_cons (pe_xf T.x_SizeError.2 T.e_SizeError.noN hz hf (pv 3)) pa_nil)))))) HdsA.nil))
    (pss_one (ps_ret (pv 2)))))⟩
abbrev N__law_by_base : List Str := ["circuit", "values", "fine", "e", "others"]
theorem sc__law_by_base : FnScope N__law_by_base ["circuit", "values"] (defScope s__law_by_base) := ⟨rfl, rfl, rfl, by decide +kernel, rfl, by decide +kernel, by decide +kernel⟩
noncomputable def d__law_by_base {P : Program} {w : World} {K : PySem.W.Frag} {mg : Str → Option Value} {base : Heap} {f : Addr} {cdv : Value} {A : Around} {outer : List Env} {s : Shared} {H : Hp} {E : XK} (T : Txt P K mg)
    (G_evaluate : FnOk P w K mg base (L2.CX P w) 4 (ga K "evaluate") (fdOf K "evaluate") ["circuit", "values"] (sp_evaluate K)) (b_evaluate : Binds K (fdOf K "evaluate") ["circuit", "values"] [])
    (hr : Room 4 (A.deeper (envOfC "_law_by_base" (defScope s__law_by_base) s.heap.objs.size f cdv))) :
    { t : TS // PSs (cxOf CX0 P w K mg base N__law_by_base "_law_by_base" (defScope s__law_by_base) f cdv A outer s H E).nox (defBody s__law_by_base) t } := ⟨_, by exact
    (pss_cons (ps_set (i := 2) sc__law_by_base.nd rfl (Or.inl rfl) (pe_bl))
    (pss_cons (ps_try_all (Wout := fun _ _ _ _ => False) rfl rfl sc__law_by_base.nd takes0 (fun W pn xe tk xo => (pss_one (ps_expr (pe_callS G_evaluate (hr.mono (by omega)) rfl T.f_evaluate.g T.f_evaluate.f.kp b_evaluate (fun σ => passAt tk σ) (pa_cons (pv 0) (pa_cons (pv 1) pa_nil)))))) (HdsA.as (i := 3) rfl rfl ⟨rfl, by decide, Or.inl T.g_FabricError⟩ (fun a oe cls d pn hz hf => (pss_cons (ps_set (i := 4) sc__law_by_base.nd rfl (Or.inl rfl) (pe_callB (call_isXT hz hf) rfl T.n_isinstance (by first | decide +kernel | boot_by_name) (pa_cons (pv 3) (pa_cons (pe_tup (pa_cons (pe_glob (v := .ref (ga K "BitsError")) rfl T.g_BitsError rfl) (pa_cons (pe_glob (v := .ref (ga K "CircuitError")) rfl T.g_CircuitError rfl) (pa_cons (pe_glob (v := .ref (ga K "FanoutError")) rfl T.g_FanoutError rfl) (pa_cons (pe_glob (v := .ref (ga K "MachineError")) rfl T.g_MachineError rfl) pa_nil))))) pa_nil))))
    (pss_one (ps_set (i := 2) sc__law_by_base.nd rfl (Or.inl rfl) (pe_and (pe_callB (call_isX hz hf) rfl T.n_isinstance (by first | decide +kernel | boot_by_name) (pa_cons (pv 3) (pa_cons (pe_bltn (v := .ty "ValueError") rfl T.n_ValueError PyProof.Rows.Boot.«ValueError» rfl) pa_nil))) (pe_and (pe_callB (call_isX hz hf) rfl T.n_isinstance (by first | decide +kernel | boot_by_name) (pa_cons (pv 3) (pa_cons (pe_glob (v := .ref (ga K "SizeError")) rfl T.g_SizeError rfl) pa_nil))) (pe_one (pe_not (pv 4))))))))) HdsA.nil))
    (pss_one (ps_ret (pv 2)))))⟩
abbrev N__law_values_refused : List Str := ["circuit", "bits", "free", "wrong", "values", "due"]
theorem sc__law_values_refused : FnScope N__law_values_refused ["circuit", "bits"] (defScope s__law_values_refused) := ⟨rfl, rfl, rfl, by decide +kernel, rfl, by decide +kernel, by decide +kernel⟩
noncomputable def d__law_values_refused {P : Program} {w : World} {K : PySem.W.Frag} {mg : Str → Option Value} {base : Heap} {f : Addr} {cdv : Value} {A : Around} {outer : List Env} {s : Shared} {H : Hp} {E : XK} (T : Txt P K mg)
    (G__law_by_base : FnOk P w K mg base CX0 5 (ga K "_law_by_base") (fdOf K "_law_by_base") ["circuit", "values"] (sp__law_by_base)) (b__law_by_base : Binds K (fdOf K "_law_by_base") ["circuit", "values"] [])
    (G__law_same : FnOk P w K mg base CX0 6 (ga K "_law_same") (fdOf K "_law_same") ["told", "due"] (sp_same 4)) (b__law_same : Binds K (fdOf K "_law_same") ["told", "due"] [])
    (G__law_told_outputs : FnOk P w K mg base CX0 5 (ga K "_law_told_outputs") (fdOf K "_law_told_outputs") ["circuit", "values"] (sp__law_told_outputs)) (b__law_told_outputs : Binds K (fdOf K "_law_told_outputs") ["circuit", "values"] [])
    (G__law_told_values : FnOk P w K mg base CX0 4 (ga K "_law_told_values") (fdOf K "_law_told_values") ["circuit", "values"] (sp__law_told_values)) (b__law_told_values : Binds K (fdOf K "_law_told_values") ["circuit", "values"] [])
    (hr : Room 6 (A.deeper (envOfC "_law_values_refused" (defScope s__law_values_refused) s.heap.objs.size f cdv))) :
    { t : TS // PSs (cxOf CX0 P w K mg base N__law_values_refused "_law_values_refused" (defScope s__law_values_refused) f cdv A outer s H E).nox (defBody s__law_values_refused) t } := ⟨_, by exact
    (pss_cons (ps_set (i := 2) sc__law_values_refused.nd rfl (Or.inl rfl) (pe_ix ix_tup (pv 0) (pe_int) (fun _ _ => rfl)))
    (pss_cons (ps_set (i := 3) sc__law_values_refused.nd rfl (Or.inl rfl) (pe_lst (pa_cons (pe_op op_cat (pe_op op_rep (pe_lst (pa_cons (pe_int) pa_nil)) (pv 2)) (pv 1)) pa_nil)))
    (pss_cons (ps_if (pt_cmpR op_gt (pv 2) (pe_int) (nomark _)) (pss_one (ps_expr (pe_bm PySem.F.plainAttrs_list PySem.F.slot_list_append PySem.F.type_list_append mt_append (pv 3) (pa_cons (pe_op op_rep (pe_slice sl_list (pv 1) po_none (po_some (pe_int))) (pe_op op_sub (pv 2) (pe_int))) pa_nil)))) pss_nil)
    (pss_cons (ps_for PassesOwn.never rfl (pi_list (pv 3)) (pg_name (i := 4) sc__law_values_refused.nd rfl (Or.inl rfl)) (pss_cons (ps_set (i := 5) sc__law_values_refused.nd rfl (Or.inl rfl) (pe_tup (pa_cons (pe_str) (pa_cons (pe_callB cr_len rfl T.n_len (by first | decide +kernel | boot_by_name) (pa_cons (pv 4) pa_nil)) pa_nil))))
    (pss_cons (ps_if (pt_not (pt_val (pe_call G__law_same (hr.mono (by omega)) rfl T.f__law_same.g T.f__law_same.f.kp b__law_same .nil pass0 (pa_cons (pe_call G__law_told_values (hr.mono (by omega)) rfl T.f__law_told_values.g T.f__law_told_values.f.kp b__law_told_values .nil pass0 (pa_cons (pv 0) (pa_cons (pe_callTy cr_listOf rfl T.n_list (by first | decide +kernel | boot_by_name) (pa_cons (pv 4) pa_nil)) pa_nil))) (pa_cons (pv 5) pa_nil))))) (pss_one (ps_ret (pe_bl))) pss_nil)
    (pss_one (ps_if (PW.pt (pw_or (pt_not (pt_val (pe_call G__law_same (hr.mono (by omega)) rfl T.f__law_same.g T.f__law_same.f.kp b__law_same .nil pass0 (pa_cons (pe_call G__law_told_outputs (hr.mono (by omega)) rfl T.f__law_told_outputs.g T.f__law_told_outputs.f.kp b__law_told_outputs .nil pass0 (pa_cons (pv 0) (pa_cons (pe_callTy cr_tupOf rfl T.n_tuple (by first | decide +kernel | boot_by_name) (pa_cons (pv 4) pa_nil)) pa_nil))) (pa_cons (pv 5) pa_nil))))) (pw_or1 (pt_not (pt_val (pe_call G__law_by_base (hr.mono (by omega)) rfl T.f__law_by_base.g T.f__law_by_base.f.kp b__law_by_base .nil pass0 (pa_cons (pv 0) (pa_cons (pv 4) pa_nil)))))))) (pss_one (ps_ret (pe_bl))) pss_nil)))))
    (pss_one (ps_ret (pe_bl)))))))⟩
abbrev N__law_sizes_refused : List Str := ["circuit", "far", "unlike", "longer", "other"]
theorem sc__law_sizes_refused : FnScope N__law_sizes_refused ["circuit", "far", "unlike"] (defScope s__law_sizes_refused) := ⟨rfl, rfl, rfl, by decide +kernel, rfl, by decide +kernel, by decide +kernel⟩
noncomputable def d__law_sizes_refused {P : Program} {w : World} {K : PySem.W.Frag} {mg : Str → Option Value} {base : Heap} {f : Addr} {cdv : Value} {A : Around} {outer : List Env} {s : Shared} {H : Hp} {E : XK} (T : Txt P K mg)
    (G__law_same : FnOk P w K mg base CX0 6 (ga K "_law_same") (fdOf K "_law_same") ["told", "due"] (sp_same 4)) (b__law_same : Binds K (fdOf K "_law_same") ["told", "due"] [])
    (G__law_told_difference : FnOk P w K mg base CX0 6 (ga K "_law_told_difference") (fdOf K "_law_told_difference") ["one", "two"] (sp__law_told_difference)) (b__law_told_difference : Binds K (fdOf K "_law_told_difference") ["one", "two"] [])
    (G__law_told_table : FnOk P w K mg base CX0 6 (ga K "_law_told_table") (fdOf K "_law_told_table") ["circuit"] (sp__law_told_table)) (b__law_told_table : Binds K (fdOf K "_law_told_table") ["circuit"] [])
    (hr : Room 6 (A.deeper (envOfC "_law_sizes_refused" (defScope s__law_sizes_refused) s.heap.objs.size f cdv))) :
    { t : TS // PSs (cxOf CX0 P w K mg base N__law_sizes_refused "_law_sizes_refused" (defScope s__law_sizes_refused) f cdv A outer s H E).nox (defBody s__law_sizes_refused) t } := ⟨_, by exact
    (pss_cons (ps_set (i := 3) sc__law_sizes_refused.nd rfl (Or.inl rfl) (pe_tup (pa_cons (pe_ix ix_tup (pv 0) (pe_int) (fun _ _ => rfl)) (pa_cons (pe_ix ix_tup (pv 0) (pe_int) (fun _ _ => rfl)) (pa_cons (pe_op op_catA (pe_ix ix_tup (pv 0) (pe_int) (fun _ _ => rfl)) (pe_tup (pa_cons (pe_un un_neg (pe_int)) pa_nil))) pa_nil)))))
    (pss_cons (ps_if (pt_not (pt_val (pe_call G__law_same (hr.mono (by omega)) rfl T.f__law_same.g T.f__law_same.f.kp b__law_same .nil pass0 (pa_cons (pe_call G__law_told_table (hr.mono (by omega)) rfl T.f__law_told_table.g T.f__law_told_table.f.kp b__law_told_table .nil pass0 (pa_cons (pv 1) pa_nil)) (pa_cons (pe_tup (pa_cons (pe_str) (pa_cons (pe_ix ix_tup (pv 1) (pe_int) (fun _ _ => rfl)) pa_nil))) pa_nil))))) (pss_one (ps_ret (pe_bl))) pss_nil)
    (pss_cons (ps_for PassesOwn.never rfl (pi_list (pe_lst (pa_cons (pv 1) (pa_cons (pv 2) (pa_cons (pv 0) pa_nil))))) (pg_name (i := 4) sc__law_sizes_refused.nd rfl (Or.inl rfl)) (pss_one (ps_if (pt_not (pt_val (pe_call G__law_same (hr.mono (by omega)) rfl T.f__law_same.g T.f__law_same.f.kp b__law_same .nil pass0 (pa_cons (pe_call G__law_told_difference (hr.mono (by omega)) rfl T.f__law_told_difference.g T.f__law_told_difference.f.kp b__law_told_difference .nil pass0 (pa_cons (pv 1) (pa_cons (pv 4) pa_nil))) (pa_cons (pe_tup (pa_cons (pe_str) (pa_cons (pe_ix ix_tup (pv 1) (pe_int) (fun _ _ => rfl)) pa_nil))) pa_nil))))) (pss_one (ps_ret (pe_bl))) pss_nil)))
    (pss_cons (ps_for PassesOwn.never rfl (pi_list (pe_lst (pa_cons (pv 1) (pa_cons (pv 2) pa_nil)))) (pg_name (i := 4) sc__law_sizes_refused.nd rfl (Or.inl rfl)) (pss_one (ps_if (pt_not (pt_val (pe_call G__law_same (hr.mono (by omega)) rfl T.f__law_same.g T.f__law_same.f.kp b__law_same .nil pass0 (pa_cons (pe_call G__law_told_difference (hr.mono (by omega)) rfl T.f__law_told_difference.g T.f__law_told_difference.f.kp b__law_told_difference .nil pass0 (pa_cons (pv 0) (pa_cons (pv 4) pa_nil))) (pa_cons (pe_tup (pa_cons (pe_str) (pa_cons (pe_ix ix_tup (pv 4) (pe_int) (fun _ _ => rfl)) pa_nil))) pa_nil))))) (pss_one (ps_ret (pe_bl))) pss_nil)))
    (pss_cons (ps_if (pt_not (pt_val (pe_call G__law_same (hr.mono (by omega)) rfl T.f__law_same.g T.f__law_same.f.kp b__law_same .nil pass0 (pa_cons (pe_call G__law_told_difference (hr.mono (by omega)) rfl T.f__law_told_difference.g T.f__law_told_difference.f.kp b__law_told_difference .nil pass0 (pa_cons (pv 0) (pa_cons (pv 3) pa_nil))) (pa_cons (pe_tup (pa_cons (pe_str) (pa_cons (pe_callB cr_len rfl T.n_len (by first | decide +kernel | boot_by_name) (pa_cons (pe_ix ix_tup (pv 3) (pe_int) (fun _ _ => rfl)) pa_nil)) pa_nil))) pa_nil))))) (pss_one (ps_ret (pe_bl))) pss_nil)
    (pss_one (ps_ret (pe_call G__law_same (hr.mono (by omega)) rfl T.f__law_same.g T.f__law_same.f.kp b__law_same .nil pass0 (pa_cons (pe_call G__law_told_difference (hr.mono (by omega)) rfl T.f__law_told_difference.g T.f__law_told_difference.f.kp b__law_told_difference .nil pass0 (pa_cons (pv 3) (pa_cons (pv 0) pa_nil))) (pa_cons (pe_tup (pa_cons (pe_str) (pa_cons (pe_callB cr_len rfl T.n_len (by first | decide +kernel | boot_by_name) (pa_cons (pe_ix ix_tup (pv 0) (pe_int) (fun _ _ => rfl)) pa_nil)) pa_nil))) pa_nil))))))))))⟩
abbrev N__law_wide_refused : List Str := ["circuit", "other", "unlike", "due"]
theorem sc__law_wide_refused : FnScope N__law_wide_refused ["circuit", "other", "unlike"] (defScope s__law_wide_refused) := ⟨rfl, rfl, rfl, by decide +kernel, rfl, by decide +kernel, by decide +kernel⟩
noncomputable def d__law_wide_refused {P : Program} {w : World} {K : PySem.W.Frag} {mg : Str → Option Value} {base : Heap} {f : Addr} {cdv : Value} {A : Around} {outer : List Env} {s : Shared} {H : Hp} {E : XK} (T : Txt P K mg)
    (G__law_same : FnOk P w K mg base CX0 6 (ga K "_law_same") (fdOf K "_law_same") ["told", "due"] (sp_same 4)) (b__law_same : Binds K (fdOf K "_law_same") ["told", "due"] [])
    (G__law_told_difference : FnOk P w K mg base CX0 6 (ga K "_law_told_difference") (fdOf K "_law_told_difference") ["one", "two"] (sp__law_told_difference)) (b__law_told_difference : Binds K (fdOf K "_law_told_difference") ["one", "two"] [])
    (G__law_told_table : FnOk P w K mg base CX0 6 (ga K "_law_told_table") (fdOf K "_law_told_table") ["circuit"] (sp__law_told_table)) (b__law_told_table : Binds K (fdOf K "_law_told_table") ["circuit"] [])
    (hr : Room 6 (A.deeper (envOfC "_law_wide_refused" (defScope s__law_wide_refused) s.heap.objs.size f cdv))) :
    { t : TS // PSs (cxOf CX0 P w K mg base N__law_wide_refused "_law_wide_refused" (defScope s__law_wide_refused) f cdv A outer s H E).nox (defBody s__law_wide_refused) t } := ⟨_, by exact
    (pss_cons (ps_set (i := 3) sc__law_wide_refused.nd rfl (Or.inl rfl) (pe_tup (pa_cons (pe_str) (pa_cons (pe_ix ix_tup (pv 0) (pe_int) (fun _ _ => rfl)) pa_nil))))
    (pss_cons (ps_if (PW.pt (pw_or (pt_not (pt_val (pe_call G__law_same (hr.mono (by omega)) rfl T.f__law_same.g T.f__law_same.f.kp b__law_same .nil pass0 (pa_cons (pe_call G__law_told_table (hr.mono (by omega)) rfl T.f__law_told_table.g T.f__law_told_table.f.kp b__law_told_table .nil pass0 (pa_cons (pv 0) pa_nil)) (pa_cons (pv 3) pa_nil))))) (pw_or1 (pt_not (pt_val (pe_call G__law_same (hr.mono (by omega)) rfl T.f__law_same.g T.f__law_same.f.kp b__law_same .nil pass0 (pa_cons (pe_call G__law_told_difference (hr.mono (by omega)) rfl T.f__law_told_difference.g T.f__law_told_difference.f.kp b__law_told_difference .nil pass0 (pa_cons (pv 0) (pa_cons (pv 1) pa_nil))) (pa_cons (pv 3) pa_nil)))))))) (pss_one (ps_ret (pe_bl))) pss_nil)
    (pss_cons (ps_if (pt_not (pt_val (pe_call G__law_same (hr.mono (by omega)) rfl T.f__law_same.g T.f__law_same.f.kp b__law_same .nil pass0 (pa_cons (pe_call G__law_told_difference (hr.mono (by omega)) rfl T.f__law_told_difference.g T.f__law_told_difference.f.kp b__law_told_difference .nil pass0 (pa_cons (pv 0) (pa_cons (pv 2) pa_nil))) (pa_cons (pv 3) pa_nil))))) (pss_one (ps_ret (pe_bl))) pss_nil)
    (pss_cons (ps_if (pt_cmpR op_gt (pe_ix ix_tup (pv 2) (pe_int) (fun _ _ => rfl)) (pe_int) (nomark _)) (pss_one (ps_set (i := 3) sc__law_wide_refused.nd rfl (Or.inl rfl) (pe_tup (pa_cons (pe_str) (pa_cons (pe_ix ix_tup (pv 2) (pe_int) (fun _ _ => rfl)) pa_nil))))) pss_nil)
    (pss_one (ps_ret (pe_call G__law_same (hr.mono (by omega)) rfl T.f__law_same.g T.f__law_same.f.kp b__law_same .nil pass0 (pa_cons (pe_call G__law_told_difference (hr.mono (by omega)) rfl T.f__law_told_difference.g T.f__law_told_difference.f.kp b__law_told_difference .nil pass0 (pa_cons (pv 2) (pa_cons (pv 0) pa_nil))) (pa_cons (pv 3) pa_nil)))))))))⟩
abbrev N_law : List Str := ["script", "side", "free", "count", "many", "size", "circuit", "place", "other", "rows", "v", "some", "numbers", "k", "number", "one", "far", "wide", "unlike", "bits"]
theorem sc_law : FnScope N_law ["script"] (defScope s_law) := ⟨rfl, rfl, rfl, by decide +kernel, rfl, by decide +kernel, by decide +kernel⟩
noncomputable def d_law {P : Program} {w : World} {K : PySem.W.Frag} {mg : Str → Option Value} {base : Heap} {f : Addr} {cdv : Value} {A : Around} {outer : List Env} {s : Shared} {H : Hp} {E : XK} (T : Txt P K mg)
    (G__law_bits : FnOk P w K mg base CX0 1 (ga K "_law_bits") (fdOf K "_law_bits") ["value", "count"] (sp__law_bits)) (b__law_bits : Binds K (fdOf K "_law_bits") ["value", "count"] [])
    (G__law_chain : FnOk P w K mg base CX0 2 (ga K "_law_chain") (fdOf K "_law_chain") ["side"] (sp__law_chain)) (b__law_chain : Binds K (fdOf K "_law_chain") ["side"] [])
    (G__law_counts_right : FnOk P w K mg base CX0 7 (ga K "_law_counts_right") (fdOf K "_law_counts_right") ["circuit"] (sp__law_counts_right)) (b__law_counts_right : Binds K (fdOf K "_law_counts_right") ["circuit"] [])
    (G__law_difference_right : FnOk P w K mg base CX0 7 (ga K "_law_difference_right") (fdOf K "_law_difference_right") ["one", "two", "rows"] (sp__law_difference_right)) (b__law_difference_right : Binds K (fdOf K "_law_difference_right") ["one", "two", "rows"] [])
    (G__law_draw : FnOk P w K mg base CX0 1 (ga K "_law_draw") (fdOf K "_law_draw") ["pool", "many"] (sp_draw)) (b__law_draw : Binds K (fdOf K "_law_draw") ["pool", "many"] [])
    (G__law_drawn : FnOk P w K mg base CX0 4 (ga K "_law_drawn") (fdOf K "_law_drawn") ["pools", "free", "count", "many"] (FabC.sp__law_drawn)) (b__law_drawn : Binds K (fdOf K "_law_drawn") ["pools", "free", "count", "many"] [])
    (G__law_pool : FnOk P w K mg base CX0 1 (ga K "_law_pool") (fdOf K "_law_pool") ["script", "place"] (sp_pool K)) (b__law_pool : Binds K (fdOf K "_law_pool") ["script", "place"] [])
    (G__law_second : FnOk P w K mg base CX0 5 (ga K "_law_second") (fdOf K "_law_second") ["pools", "side", "circuit"] (sp__law_second)) (b__law_second : Binds K (fdOf K "_law_second") ["pools", "side", "circuit"] [])
    (G__law_sizes_refused : FnOk P w K mg base CX0 7 (ga K "_law_sizes_refused") (fdOf K "_law_sizes_refused") ["circuit", "far", "unlike"] (sp__law_sizes_refused)) (b__law_sizes_refused : Binds K (fdOf K "_law_sizes_refused") ["circuit", "far", "unlike"] [])
    (G__law_table_right : FnOk P w K mg base CX0 7 (ga K "_law_table_right") (fdOf K "_law_table_right") ["circuit", "rows"] (sp__law_table_right)) (b__law_table_right : Binds K (fdOf K "_law_table_right") ["circuit", "rows"] [])
    (G__law_values_refused : FnOk P w K mg base CX0 7 (ga K "_law_values_refused") (fdOf K "_law_values_refused") ["circuit", "bits"] (sp__law_values_refused)) (b__law_values_refused : Binds K (fdOf K "_law_values_refused") ["circuit", "bits"] [])
    (G__law_values_right : FnOk P w K mg base CX0 7 (ga K "_law_values_right") (fdOf K "_law_values_right") ["circuit", "rows"] (sp__law_values_right)) (b__law_values_right : Binds K (fdOf K "_law_values_right") ["circuit", "rows"] [])
    (G__law_wide_refused : FnOk P w K mg base CX0 7 (ga K "_law_wide_refused") (fdOf K "_law_wide_refused") ["circuit", "other", "unlike"] (sp__law_wide_refused)) (b__law_wide_refused : Binds K (fdOf K "_law_wide_refused") ["circuit", "other", "unlike"] [])
    (hr : Room 7 (A.deeper (envOfC "law" (defScope s_law) s.heap.objs.size f cdv))) :
    { t : TS // PSs (cxOf CX0 P w K mg base N_law "law" (defScope s_law) f cdv A outer s H E).nox (defBody s_law) t } := ⟨_, by exact
    (pss_cons (ps_set (i := 1) sc_law.nd rfl (Or.inr rfl) (pe_call G__law_pool (hr.mono (by omega)) rfl T.f__law_pool.g T.f__law_pool.f.kp b__law_pool .nil pass0 (pa_cons (pv 0) (pa_cons (pe_int) pa_nil))))
    (pss_cons (ps_set (i := 2) sc_law.nd rfl (Or.inr rfl) (pe_call G__law_draw (hr.mono (by omega)) rfl T.f__law_draw.g T.f__law_draw.f.kp b__law_draw .nil pass0 (pa_cons (pv 1) (pa_cons (pe_int) pa_nil))))
    (pss_cons (ps_set (i := 3) sc_law.nd rfl (Or.inl rfl) (pe_call G__law_draw (hr.mono (by omega)) rfl T.f__law_draw.g T.f__law_draw.f.kp b__law_draw .nil pass0 (pa_cons (pv 1) (pa_cons (pe_int) pa_nil))))
    (pss_cons (ps_set (i := 4) sc_law.nd rfl (Or.inl rfl) (pe_call G__law_draw (hr.mono (by omega)) rfl T.f__law_draw.g T.f__law_draw.f.kp b__law_draw .nil pass0 (pa_cons (pv 1) (pa_cons (pe_int) pa_nil))))
    (pss_cons (ps_set (i := 5) sc_law.nd rfl (Or.inl rfl) (pe_call G__law_draw (hr.mono (by omega)) rfl T.f__law_draw.g T.f__law_draw.f.kp b__law_draw .nil pass0 (pa_cons (pv 1) (pa_cons (pe_int) pa_nil))))
    (pss_cons (ps_if (pt_cmpR op_eq (pv 5) (pe_int) (nomark _)) (pss_one (ps_set (i := 2) sc_law.nd rfl (Or.inr rfl) (pe_op op_add (pe_int) (pe_call G__law_draw (hr.mono (by omega)) rfl T.f__law_draw.g T.f__law_draw.f.kp b__law_draw .nil pass0 (pa_cons (pv 1) (pa_cons (pe_int) pa_nil)))))) pss_nil)
    (pss_cons (ps_if (pt_cmpR op_eq (pv 5) (pe_int) (nomark _)) (pss_cons (ps_set (i := 3) sc_law.nd rfl (Or.inl rfl) (pe_call G__law_draw (hr.mono (by omega)) rfl T.f__law_draw.g T.f__law_draw.f.kp b__law_draw .nil pass0 (pa_cons (pv 1) (pa_cons (pe_int) pa_nil))))
    (pss_one (ps_set (i := 4) sc_law.nd rfl (Or.inl rfl) (pe_call G__law_draw (hr.mono (by omega)) rfl T.f__law_draw.g T.f__law_draw.f.kp b__law_draw .nil pass0 (pa_cons (pv 1) (pa_cons (pe_int) pa_nil)))))) pss_nil)
    (pss_cons (ps_if (pt_cmpR op_eq (pv 5) (pe_int) (nomark _)) (pss_one (ps_set (i := 2) sc_law.nd rfl (Or.inr rfl) (pe_op op_add (pe_int) (pe_call G__law_draw (hr.mono (by omega)) rfl T.f__law_draw.g T.f__law_draw.f.kp b__law_draw .nil pass0 (pa_cons (pv 1) (pa_cons (pe_int) pa_nil)))))) pss_nil)
    (pss_cons (ps_set (i := 6) sc_law.nd rfl (Or.inl rfl) (pe_call G__law_drawn (hr.mono (by omega)) rfl T.f__law_drawn.g T.f__law_drawn.f.kp b__law_drawn .nil pass0 (pa_cons (pe_lc (own := [("place", 7)]) rfl sc_law.nd (pi_range1 rfl T.n_range (pa_cons (pe_int) pa_nil)) (blkOk_by (own := [("place", 7)]) (N := N_law) (sc := defScope s_law) (by decide +kernel)) (fun _ _ _ _ _ => (pg_name (i := 7) sc_law.nd rfl (Or.inl rfl))) (fun _ _ _ _ _ => pts_nil) (fun _ _ _ _ _ => (pe_call G__law_pool (hr.mono (by omega)) rfl T.f__law_pool.g T.f__law_pool.f.kp b__law_pool .nil pass0 (pa_cons (pv 0) (pa_cons (pv 7) pa_nil))))) (pa_cons (pv 2) (pa_cons (pv 3) (pa_cons (pv 4) pa_nil))))))
    (pss_cons (ps_if (PW.pt (pw_and (pt_cmpR op_eq (pv 5) (pe_int) (nomark _)) (pw_and1 (pt_cmpR op_eq (pe_call G__law_draw (hr.mono (by omega)) rfl T.f__law_draw.g T.f__law_draw.f.kp b__law_draw .nil pass0 (pa_cons (pv 1) (pa_cons (pe_int) pa_nil))) (pe_int) (nomark _))))) (pss_cons (ps_set (i := 2) sc_law.nd rfl (Or.inr rfl) (pe_int))
    (pss_one (ps_set (i := 6) sc_law.nd rfl (Or.inl rfl) (pe_call G__law_chain (hr.mono (by omega)) rfl T.f__law_chain.g T.f__law_chain.f.kp b__law_chain .nil pass0 (pa_cons (pv 1) pa_nil))))) pss_nil)
    (pss_cons (ps_set (i := 8) sc_law.nd rfl (Or.inl rfl) (pe_call G__law_second (hr.mono (by omega)) rfl T.f__law_second.g T.f__law_second.f.kp b__law_second .nil pass0 (pa_cons (pe_lc (own := [("place", 7)]) rfl sc_law.nd (pi_range1 rfl T.n_range (pa_cons (pe_int) pa_nil)) (blkOk_by (own := [("place", 7)]) (N := N_law) (sc := defScope s_law) (by decide +kernel)) (fun _ _ _ _ _ => (pg_name (i := 7) sc_law.nd rfl (Or.inl rfl))) (fun _ _ _ _ _ => pts_nil) (fun _ _ _ _ _ => (pe_call G__law_pool (hr.mono (by omega)) rfl T.f__law_pool.g T.f__law_pool.f.kp b__law_pool .nil pass0 (pa_cons (pv 0) (pa_cons (pe_op op_add (pe_int) (pv 7)) pa_nil))))) (pa_cons (pv 1) (pa_cons (pv 6) pa_nil)))))
    (pss_cons (ps_set (i := 9) sc_law.nd rfl (Or.inl rfl) (pe_lst pa_nil))
    (pss_cons (ps_if (pt_cmpR op_le (pv 2) (pe_int) (nomark _)) (pss_one (ps_setLc (i := 9) (own := [("v", 10)]) rfl sc_law.nd rfl rfl (sw_true rfl rfl rfl (by decide +kernel)) (pi_range1 rfl T.n_range (pa_cons (pe_op op_shl (pe_int) (pv 2)) pa_nil)) (blkOk_by (own := [("v", 10)]) (N := N_law) (sc := defScope s_law) (by decide +kernel)) (fun _ _ _ _ _ => (pg_name (i := 10) sc_law.nd rfl (Or.inl rfl))) (fun _ _ _ _ _ => pts_nil) (fun _ _ _ _ _ => (pe_call G__law_bits (hr.mono (by omega)) rfl T.f__law_bits.g T.f__law_bits.f.kp b__law_bits .nil pass0 (pa_cons (pv 10) (pa_cons (pv 2) pa_nil)))))) pss_nil)
    (pss_cons (ps_set (i := 11) sc_law.nd rfl (Or.inl rfl) (pv 9))
    (pss_cons (ps_if (pt_cmpR op_gt (pv 2) (pe_int) (nomark _)) (pss_cons (ps_setLc (i := 12) (own := [("k", 13)]) rfl sc_law.nd rfl rfl (sw_true rfl rfl rfl (by decide +kernel)) (pi_range1 rfl T.n_range (pa_cons (pe_int) pa_nil)) (blkOk_by (own := [("k", 13)]) (N := N_law) (sc := defScope s_law) (by decide +kernel)) (fun _ _ _ _ _ => (pg_name (i := 13) sc_law.nd rfl (Or.inl rfl))) (fun _ _ _ _ _ => pts_nil) (fun _ _ _ _ _ => (pe_op op_add (pe_call G__law_draw (hr.mono (by omega)) rfl T.f__law_draw.g T.f__law_draw.f.kp b__law_draw .nil pass0 (pa_cons (pv 1) (pa_cons (pe_op op_shl (pe_int) (pe_int)) pa_nil))) (pe_op op_shl (pe_call G__law_draw (hr.mono (by omega)) rfl T.f__law_draw.g T.f__law_draw.f.kp b__law_draw .nil pass0 (pa_cons (pv 1) (pa_cons (pe_op op_shl (pe_int) (pe_int)) pa_nil))) (pe_int)))))
    (pss_one (ps_setLc (i := 11) (own := [("number", 14)]) rfl sc_law.nd rfl rfl (sw_true rfl rfl rfl (by decide +kernel)) (pi_list (pv 12)) (blkOk_by (own := [("number", 14)]) (N := N_law) (sc := defScope s_law) (by decide +kernel)) (fun _ _ _ _ _ => (pg_name (i := 14) sc_law.nd rfl (Or.inl rfl))) (fun _ _ _ _ _ => pts_nil) (fun _ _ _ _ _ => (pe_call G__law_bits (hr.mono (by omega)) rfl T.f__law_bits.g T.f__law_bits.f.kp b__law_bits .nil pass0 (pa_cons (pv 14) (pa_cons (pv 2) pa_nil))))))) pss_nil)
    (pss_cons (ps_for PassesOwn.never rfl (pi_list (pe_lst (pa_cons (pv 6) (pa_cons (pv 8) pa_nil)))) (pg_name (i := 15) sc_law.nd rfl (Or.inl rfl)) (pss_one (ps_if (PW.pt (pw_or (pt_not (pt_val (pe_call G__law_values_right (hr.mono (by omega)) rfl T.f__law_values_right.g T.f__law_values_right.f.kp b__law_values_right .nil pass0 (pa_cons (pv 15) (pa_cons (pv 11) pa_nil))))) (pw_or1 (pt_not (pt_val (pe_call G__law_counts_right (hr.mono (by omega)) rfl T.f__law_counts_right.g T.f__law_counts_right.f.kp b__law_counts_right .nil pass0 (pa_cons (pv 15) pa_nil))))))) (pss_one (ps_ret (pe_bl))) pss_nil)))
    (pss_cons (ps_set (i := 16) sc_law.nd rfl (Or.inl rfl) (pe_tup (pa_cons (pe_op op_add (pe_int) (pe_call G__law_draw (hr.mono (by omega)) rfl T.f__law_draw.g T.f__law_draw.f.kp b__law_draw .nil pass0 (pa_cons (pv 1) (pa_cons (pe_int) pa_nil)))) (pa_cons (pe_tup pa_nil) (pa_cons (pe_op op_repTF (pe_tup (pa_cons (pe_un un_neg (pe_int)) pa_nil)) (pe_call G__law_draw (hr.mono (by omega)) rfl T.f__law_draw.g T.f__law_draw.f.kp b__law_draw .nil pass0 (pa_cons (pv 1) (pa_cons (pe_int) pa_nil)))) pa_nil)))))
    (pss_cons (ps_set (i := 17) sc_law.nd rfl (Or.inl rfl) (pe_call G__law_draw (hr.mono (by omega)) rfl T.f__law_draw.g T.f__law_draw.f.kp b__law_draw .nil pass0 (pa_cons (pv 1) (pa_cons (pe_int) pa_nil))))
    (pss_cons (ps_if (pt_cmpR op_eq (pv 17) (pv 2) (nomark _)) (pss_one (ps_set (i := 17) sc_law.nd rfl (Or.inl rfl) (pe_op op_add (pv 17) (pe_int)))) pss_nil)
    (pss_cons (ps_set (i := 18) sc_law.nd rfl (Or.inl rfl) (pe_tup (pa_cons (pv 17) (pa_cons (pe_tup pa_nil) (pa_cons (pe_op op_repTF (pe_tup (pa_cons (pe_un un_neg (pe_int)) pa_nil)) (pe_call G__law_draw (hr.mono (by omega)) rfl T.f__law_draw.g T.f__law_draw.f.kp b__law_draw .nil pass0 (pa_cons (pv 1) (pa_cons (pe_int) pa_nil)))) pa_nil)))))
    (pss_cons (ps_setLc (i := 19) (own := [("k", 13)]) rfl sc_law.nd rfl rfl (sw_true rfl rfl rfl (by decide +kernel)) (pi_range1 rfl T.n_range (pa_cons (pe_op op_add (pe_int) (pe_call G__law_draw (hr.mono (by omega)) rfl T.f__law_draw.g T.f__law_draw.f.kp b__law_draw .nil pass0 (pa_cons (pv 1) (pa_cons (pe_int) pa_nil)))) pa_nil)) (blkOk_by (own := [("k", 13)]) (N := N_law) (sc := defScope s_law) (by decide +kernel)) (fun _ _ _ _ _ => (pg_name (i := 13) sc_law.nd rfl (Or.inl rfl))) (fun _ _ _ _ _ => pts_nil) (fun _ _ _ _ _ => (pe_call G__law_draw (hr.mono (by omega)) rfl T.f__law_draw.g T.f__law_draw.f.kp b__law_draw .nil pass0 (pa_cons (pv 1) (pa_cons (pe_int) pa_nil)))))
    (pss_cons (ps_if (pt_not (pt_val (pe_call G__law_values_refused (hr.mono (by omega)) rfl T.f__law_values_refused.g T.f__law_values_refused.f.kp b__law_values_refused .nil pass0 (pa_cons (pv 6) (pa_cons (pv 19) pa_nil))))) (pss_one (ps_ret (pe_bl))) pss_nil)
    (pss_cons (ps_if (pt_cmpR op_gt (pv 2) (pe_int) (nomark _)) (pss_one (ps_ret (pe_call G__law_wide_refused (hr.mono (by omega)) rfl T.f__law_wide_refused.g T.f__law_wide_refused.f.kp b__law_wide_refused .nil pass0 (pa_cons (pv 6) (pa_cons (pv 8) (pa_cons (pv 18) pa_nil)))))) pss_nil)
    (pss_cons (ps_if (PW.pt (pw_or (pt_not (pt_val (pe_call G__law_table_right (hr.mono (by omega)) rfl T.f__law_table_right.g T.f__law_table_right.f.kp b__law_table_right .nil pass0 (pa_cons (pv 6) (pa_cons (pv 9) pa_nil))))) (pw_or1 (pt_not (pt_val (pe_call G__law_table_right (hr.mono (by omega)) rfl T.f__law_table_right.g T.f__law_table_right.f.kp b__law_table_right .nil pass0 (pa_cons (pv 8) (pa_cons (pv 9) pa_nil)))))))) (pss_one (ps_ret (pe_bl))) pss_nil)
    (pss_one (ps_ret (pe_and (pe_call G__law_difference_right (hr.mono (by omega)) rfl T.f__law_difference_right.g T.f__law_difference_right.f.kp b__law_difference_right .nil pass0 (pa_cons (pv 6) (pa_cons (pv 8) (pa_cons (pv 9) pa_nil)))) (pe_one (pe_call G__law_sizes_refused (hr.mono (by omega)) rfl T.f__law_sizes_refused.g T.f__law_sizes_refused.f.kp b__law_sizes_refused .nil pass0 (pa_cons (pv 6) (pa_cons (pv 16) (pa_cons (pv 18) pa_nil))))))))))))))))))))))))))))))))⟩
end K19
set_option maxHeartbeats 4000000
/-! k19: pure lemmas. -/
namespace K19
open PySem PySem.Spec PyProof.Rows L2 FabH He FabC
theorem take_snoc {α : Type} {xs : List α} {i : Nat} {x : α} (h : xs[i]? = some x) : xs.take (i + 1) = xs.take i ++ [x] := by
  rw [List.take_add_one, h]
  rfl
theorem take_all {α : Type} (xs : List α) : xs.take xs.length = xs := List.take_length
theorem bitsOf_succ (v : Int) (n : Nat) : bitsOf v (n + 1) = bitsOf v n ++ [v / 2 ^ n % 2] := by
  unfold bitsOf
  rw [List.range_succ, List.map_append]
  rfl
theorem bitsOf_length (v : Int) (n : Nat) : (bitsOf v n).length = n := by simp [bitsOf]
theorem bitsOf_bits (v : Int) (n : Nat) : Bits (bitsOf v n) := fun x hx => by
  obtain ⟨k, _, rfl⟩ := List.mem_map.mp hx
  omega
theorem half_half (v : Int) (n : Nat) : v / 2 ^ n / 2 = v / 2 ^ (n + 1) := by
  rw [Int.ediv_ediv_of_nonneg (Int.pow_nonneg (by decide)), Int.pow_succ]
theorem lstV.same {H H' : Hp} {v : V} {xs : List Int} (e : Same H H') (h : lstV H v xs) : lstV H' v xs := h.imp fun _ ⟨a, b⟩ => ⟨a, e _ _ b⟩
theorem lstV.seq {H : Hp} {v : V} {xs : List Int} (h : lstV H v xs) : seqV H v xs := h.imp fun _ ⟨a, b⟩ => ⟨a, .inl b⟩
theorem worths_take_length {c : Circ} {xs : List Int} {i : Nat} (hi : i ≤ c.gates.length) : (worths (c.gates.take i) xs).length = xs.length + i := by
  rw [worths_length, List.length_take, Nat.min_eq_left hi]
theorem gate_wires {c : Circ} (h : Wf c) {i : Nat} {g : Gate} (e : c.gates[i]? = some g) : (-1 ≤ g.2.1 ∧ g.2.1 < c.free + (i : Nat)) ∧ (-1 ≤ g.2.2 ∧ g.2.2 < c.free + (i : Nat)) := (gateOk_iff.mp (h.g i g e)).2
theorem incr_length (cs : List Int) (w : Int) : (incr cs w).length = cs.length := by
  unfold incr
  split
  · rfl
  · exact List.length_set
abbrev cntG (cs : List Int) (g : Gate) : List Int := incr (incr cs g.2.1) g.2.2
theorem foldl_take {α β : Type} (f : β → α → β) (a : β) {xs : List α} {i : Nat} {x : α} (h : xs[i]? = some x) : (xs.take (i + 1)).foldl f a = f ((xs.take i).foldl f a) x := by
  rw [take_snoc h, List.foldl_append]
  rfl
theorem cntG_length (gs : List Gate) : ∀ cs : List Int, (gs.foldl cntG cs).length = cs.length := by
  induction gs with
  | nil => intro cs; rfl
  | cons g r ih => intro cs; rw [List.foldl_cons, ih, incr_length, incr_length]
theorem incrs_length (es : List Int) : ∀ cs : List Int, (es.foldl incr cs).length = cs.length := by
  induction es with
  | nil => intro cs; rfl
  | cons g r ih => intro cs; rw [List.foldl_cons, ih, incr_length]
theorem readers_eq (c : Circ) : readers c = c.ends.foldl incr (c.gates.foldl cntG (List.replicate (c.free + (c.gates.length : Nat)).toNat 0)) := rfl
theorem incr_no (cs : List Int) : incr cs (-1) = cs := rfl
theorem incr_at {cs : List Int} {w : Int} (h : w ≠ -1) : incr cs w = cs.set w.toNat (cs.getD w.toNat 0 + 1) := if_neg h
theorem cnt_at {cs : List Int} {w : Int} (h0 : 0 ≤ w) (h1 : w < (cs.length : Nat)) : atI (cs.map V.int) w = some (.int (cs.getD w.toNat 0)) := by
  have hl : w.toNat < cs.length := by omega
  rw [atI_pos h0, List.getElem?_map, List.getD_eq_getElem?_getD, List.getElem?_eq_getElem hl]
  rfl
theorem cnt_ix {cs : List Int} {w : Int} (h0 : 0 ≤ w) (h1 : w < (cs.length : Nat)) : ixN (cs.map V.int).length w = some w.toNat := ixN_pos h0 (by rw [List.length_map]; exact h1)
/-- the wires of a gate -/
theorem gate_wire {c : Circ} (h : Wf c) {i : Nat} {g : Gate} (e : c.gates[i]? = some g) {z : Int} (hz : z = g.2.1 ∨ z = g.2.2) : -1 ≤ z ∧ z < c.free + (c.gates.length : Nat) := by
  have hl := (List.getElem?_eq_some_iff.mp e).1
  have := gate_wires h e
  rcases hz with rfl | rfl <;> omega
theorem end_wire {c : Circ} (h : Wf c) {i : Nat} {z : Int} (e : c.ends[i]? = some z) : -1 ≤ z ∧ z < c.free + (c.gates.length : Nat) := wireOk_iff.mp (h.e i z e)
theorem rowsOf_get {n : Nat} {i : Nat} (h : i < 2 ^ n) : (rowsOf n)[i]? = some (bitsOf (i : Int) n) := by
  unfold rowsOf
  rw [List.getElem?_map, List.getElem?_range h]
  rfl
theorem rowsOf_length (n : Nat) : (rowsOf n).length = 2 ^ n := by simp [rowsOf]
theorem parted_none {c d : Circ} : ∀ {ls : List (List Int)}, (∀ (k : Nat) (r : List Int), ls[k]? = some r → shown c r = shown d r) → parted c d ls = none
  | [], _ => rfl
  | r :: rs, h => by
    unfold parted
    rw [if_pos (h 0 r rfl)]
    exact parted_none fun k x e => h (k + 1) x e
theorem parted_at {c d : Circ} : ∀ {ls : List (List Int)} {i : Nat} {r : List Int}, ls[i]? = some r → (∀ (k : Nat), k < i → ∀ x, ls[k]? = some x → shown c x = shown d x) → shown c r ≠ shown d r → parted c d ls = some r
  | [], _, _, e, _, _ => by cases e
  | a :: rs, 0, r, e, _, n => by
    cases e
    unfold parted
    rw [if_neg n]
  | a :: rs, i + 1, r, e, h, n => by
    unfold parted
    rw [if_pos (h 0 (Nat.succ_pos i) a rfl)]
    exact parted_at (i := i) e (fun k hk x hx => h (k + 1) (Nat.succ_lt_succ hk) x hx) n
theorem pow8 {n : Int} (h0 : 0 ≤ n) (h : n ≤ 8) : (2 : Int) ^ n.toNat ≤ 256 ∧ 1 ≤ (2 : Int) ^ n.toNat := by
  rcases (show n = 0 ∨ n = 1 ∨ n = 2 ∨ n = 3 ∨ n = 4 ∨ n = 5 ∨ n = 6 ∨ n = 7 ∨ n = 8 by omega) with rfl | rfl | rfl | rfl | rfl | rfl | rfl | rfl | rfl <;> exact ⟨by decide, by decide⟩
theorem powNat (n : Nat) : ((2 ^ n : Nat) : Int) = (2 : Int) ^ n := by simp
theorem powTo (n : Int) : (1 * (2 : Int) ^ n.toNat).toNat = 2 ^ n.toNat := by
  rw [Int.one_mul, ← powNat]
  rfl
theorem tabV.same {H H' : Hp} {v : V} {ls : List (List Int)} (e : Same H H') (h : tabV H v ls) : tabV H' v ls := by
  obtain ⟨l, rs, rfl, h1, h2, h3⟩ := h
  exact ⟨l, rs, rfl, e _ _ h1, h2, fun i r x a b => e _ _ (h3 i r x a b)⟩
theorem newV.lst {H H' : Hp} {v : V} {xs : List Int} (h : newV H H' v xs) : lstV H' v xs := by
  obtain ⟨l, rfl, _, h⟩ := h
  exact ⟨l, rfl, h⟩
theorem newV.back {H0 H H' : Hp} {v : V} {xs : List Int} (e : Same H0 H) (h : newV H H' v xs) : newV H0 H' v xs := by
  obtain ⟨l, rfl, n, h⟩ := h
  exact ⟨l, rfl, e.free n, h⟩
theorem newT.tab {H H' : Hp} {v : V} {ls : List (List Int)} (h : newT H H' v ls) : tabV H' v ls := by
  obtain ⟨l, rs, rfl, _, h1, h2, _, h3⟩ := h
  exact ⟨l, rs, rfl, h1, h2, h3⟩
theorem tabV.at {H : Hp} {v : V} {ls : List (List Int)} (h : tabV H v ls) : ∃ (l : Addr) (vs : List V), v = .ref l ∧ H l = some (.lst vs) ∧ vs.length = ls.length ∧ ∀ (i : Nat) (u : V), vs[i]? = some u → ∃ r x, u = .ref r ∧ ls[i]? = some x ∧ H r = some (.lst (x.map V.int)) := by
  obtain ⟨l, rs, rfl, h1, h2, h3⟩ := h
  refine ⟨l, rs.map V.ref, rfl, h1, by rw [List.length_map]; exact h2, fun i u hu => ?_⟩
  rw [List.getElem?_map] at hu
  obtain ⟨r, hr, rfl⟩ := Option.map_eq_some_iff.mp hu
  have hl := (List.getElem?_eq_some_iff.mp hr).1
  have hx : ls[i]? = some (ls[i]'(by omega)) := List.getElem?_eq_getElem (by omega)
  exact ⟨r, _, rfl, hx, h3 i r _ hr hx⟩
/-- a growing list of new lists: one more -/
structure Grow (H H' : Hp) (D : Addr) (ls : List (List Int)) (rs : List Addr) : Prop where
  sm : Same H H'
  at_ : H' D = some (.lst (rs.map V.ref))
  len : rs.length = ls.length
  new : ∀ r ∈ rs, H r = none ∧ r ≠ D
  get : ∀ (i : Nat) (r : Addr) (x : List Int), rs[i]? = some r → ls[i]? = some x → H' r = some (.lst (x.map V.int))
theorem Grow.start {H : Hp} {D : Addr} (hD : H D = none) : Grow H (upd H D (.lst [])) D [] [] := ⟨.new hD, upd_same, rfl, fun r h => (by cases h), fun i r x h => (by cases h)⟩
theorem Grow.push {H H1 H2 : Hp} {D r : Addr} {ls : List (List Int)} {rs : List Addr} {x : List Int} (g : Grow H H1 D ls rs) (hD : H D = none) (s : Same H1 H2) (n : H1 r = none) (hr : H2 r = some (.lst (x.map V.int))) : Grow H (upd H2 D (.lst (rs.map V.ref ++ [V.ref r]))) D (ls ++ [x]) (rs ++ [r]) where
  sm := Same.setNew (g.sm.trans s) hD
  at_ := by rw [upd_same]; simp
  len := by simp [g.len]
  new := fun r' h => by
    rcases List.mem_append.mp h with z | z
    · exact g.new r' z
    · have e : r' = r := by simpa using z
      rw [e]
      exact ⟨g.sm.free n, fun z => by rw [z, g.at_] at n; cases n⟩
  get := fun i r' x' h1 h2 => by
    rcases snoc_get h1 with z | ⟨e, z⟩
    · have hi := (List.getElem?_eq_some_iff.mp z).1
      rw [List.getElem?_append_left (by rw [← g.len]; exact hi)] at h2
      exact at_set (g.new r' (List.mem_of_getElem? z)).2 (s _ _ (g.get i r' x' z h2))
    · subst z
      rw [e, g.len, List.getElem?_append_right (Nat.le_refl _), Nat.sub_self] at h2
      cases h2
      exact at_set (fun z => by rw [z, g.at_] at n; cases n) hr
theorem Grow.done {H H' : Hp} {D : Addr} {ls : List (List Int)} {rs : List Addr} (g : Grow H H' D ls rs) (hD : H D = none) : newT H H' (.ref D) ls := ⟨D, rs, rfl, hD, g.at_, g.len, g.new, g.get⟩
theorem rowsOf_take {n i : Nat} (h : i < 2 ^ n) : (rowsOf n).take (i + 1) = (rowsOf n).take i ++ [bitsOf (i : Int) n] := take_snoc (rowsOf_get h)
theorem xor15 : ∀ (a : Fin 16) (d : Fin 4), 0 ≤ Builtin.bitXor (a.val : Int) (1 * 2 ^ d.val) ∧ Builtin.bitXor (a.val : Int) (1 * 2 ^ d.val) ≤ 15 := by decide +kernel
theorem swap15 : ∀ (a : Fin 16), 0 ≤ Builtin.bitAnd (a.val : Int) 9 + Builtin.bitAnd (a.val : Int) 2 * 2 ^ (1 : Int).toNat + Builtin.bitAnd (a.val : Int) 4 / 2 ^ (1 : Int).toNat ∧ Builtin.bitAnd (a.val : Int) 9 + Builtin.bitAnd (a.val : Int) 2 * 2 ^ (1 : Int).toNat + Builtin.bitAnd (a.val : Int) 4 / 2 ^ (1 : Int).toNat ≤ 15 := by decide +kernel
theorem xor_ok {t d : Int} (t0 : 0 ≤ t) (t1 : t ≤ 15) (d0 : 0 ≤ d) (d1 : d < 4) : 0 ≤ Builtin.bitXor t (1 * 2 ^ d.toNat) ∧ Builtin.bitXor t (1 * 2 ^ d.toNat) ≤ 15 := by
  have h := xor15 ⟨t.toNat, by omega⟩ ⟨d.toNat, by omega⟩
  rw [show ((⟨t.toNat, by omega⟩ : Fin 16).val : Int) = t by show ((t.toNat : Nat) : Int) = t; omega] at h
  exact h
theorem swap_ok {t : Int} (t0 : 0 ≤ t) (t1 : t ≤ 15) : 0 ≤ Builtin.bitAnd t 9 + Builtin.bitAnd t 2 * 2 ^ (1 : Int).toNat + Builtin.bitAnd t 4 / 2 ^ (1 : Int).toNat ∧ Builtin.bitAnd t 9 + Builtin.bitAnd t 2 * 2 ^ (1 : Int).toNat + Builtin.bitAnd t 4 / 2 ^ (1 : Int).toNat ≤ 15 := by
  have h := swap15 ⟨t.toNat, by omega⟩
  rw [show ((⟨t.toNat, by omega⟩ : Fin 16).val : Int) = t by show ((t.toNat : Nat) : Int) = t; omega] at h
  exact h
/-- gates all right, from the wires w on -/
def GOk (w : Int) (gs : List Gate) : Prop := ∀ (i : Nat) (g : Gate), gs[i]? = some g → gateOk g (w + (i : Nat)) = true
def EOk (w : Int) (es : List Int) : Prop := ∀ (i : Nat) (z : Int), es[i]? = some z → wireOk z w = true
theorem GOk.set {w : Int} {gs : List Gate} (h : GOk w gs) {k : Nat} {g : Gate} (hg : gateOk g (w + (k : Nat)) = true) : GOk w (gs.set k g) := fun i x hx => by
  by_cases e : i = k
  · subst e
    have hl := (List.getElem?_eq_some_iff.mp hx).1
    rw [List.length_set] at hl
    rw [List.getElem?_set_self hl] at hx
    cases hx
    exact hg
  · rw [List.getElem?_set_ne (Ne.symm e)] at hx
    exact h i x hx
theorem EOk.set {w : Int} {es : List Int} (h : EOk w es) {k : Nat} {z : Int} (hz : wireOk z w = true) : EOk w (es.set k z) := fun i x hx => by
  by_cases e : i = k
  · subst e
    have hl := (List.getElem?_eq_some_iff.mp hx).1
    rw [List.length_set] at hl
    rw [List.getElem?_set_self hl] at hx
    cases hx
    exact hz
  · rw [List.getElem?_set_ne (Ne.symm e)] at hx
    exact h i x hx
theorem and15 : ∀ (a : Fin 16), 0 ≤ Builtin.bitAnd (a.val : Int) 2 ∧ Builtin.bitAnd (a.val : Int) 2 ≤ 15 := by decide +kernel
theorem and_ok {t : Int} (t0 : 0 ≤ t) (t1 : t ≤ 15) : 0 ≤ Builtin.bitAnd t 2 ∧ Builtin.bitAnd t 2 ≤ 15 := by
  have h := and15 ⟨t.toNat, by omega⟩
  rw [show ((⟨t.toNat, by omega⟩ : Fin 16).val : Int) = t by show ((t.toNat : Nat) : Int) = t; omega] at h
  exact h
theorem ds_ints {H : Hp} {a b : Addr} {xs : List Int} (h1 : H a = some (.lst (xs.map V.int))) (h2 : H b = some (.lst (xs.map V.int))) (l : xs.length ≤ 100000) : DS H 4 (.ref a) (.ref b) := by
  refine .lst h1 h2 rfl (by rw [List.length_map]; exact l) fun i u v hu hv => ?_
  rw [hu] at hv
  cases hv
  rw [List.getElem?_map] at hu
  obtain ⟨x, _, rfl⟩ := Option.map_eq_some_iff.mp hu
  exact .int
theorem ds_rows {H : Hp} {u v : V} {ls : List (List Int)} (h1 : tabV H u ls) (h2 : tabV H v ls) (l : ls.length ≤ 100000) (l2 : ∀ x ∈ ls, x.length ≤ 100000) : DS H 4 u v := by
  obtain ⟨a, vs, rfl, e1, n1, g1⟩ := h1.at
  obtain ⟨b, ws, rfl, e2, n2, g2⟩ := h2.at
  refine .lst e1 e2 (by omega) (by omega) fun i p q hp hq => ?_
  obtain ⟨r, x, rfl, hx, hr⟩ := g1 i p hp
  obtain ⟨r', x', rfl, hx', hr'⟩ := g2 i q hq
  rw [hx] at hx'
  cases hx'
  refine .lst hr hr' rfl (by rw [List.length_map]; exact l2 x (List.mem_of_getElem? hx)) fun k p q hp hq => ?_
  rw [hp] at hq
  cases hq
  rw [List.getElem?_map] at hp
  obtain ⟨y, _, rfl⟩ := Option.map_eq_some_iff.mp hp
  exact .int
theorem ds_tag {H : Hp} {u v : V} {n : Int} (h1 : tagV H u n) (h2 : tagV H v n) : DS H 4 u v := by
  obtain ⟨a, rfl, e1⟩ := h1
  obtain ⟨b, rfl, e2⟩ := h2
  refine .tup e1 e2 rfl (show 2 ≤ 100000 by decide) fun i u v hu hv => ?_
  rw [hu] at hv
  cases hv
  match i, hu with
  | 0, hu => cases hu; exact .str
  | 1, hu => cases hu; exact .int
theorem tagV.same {H H' : Hp} {v : V} {n : Int} (e : Same H H') (h : tagV H v n) : tagV H' v n := h.imp fun _ ⟨a, b⟩ => ⟨a, e _ _ b⟩
theorem shown_length (c : Circ) (xs : List Int) : (shown c xs).length = c.ends.length := by simp [FabC.shown]
theorem parted_comm (c d : Circ) : ∀ ls : List (List Int), parted c d ls = parted d c ls
  | [] => rfl
  | r :: rs => by
    unfold parted
    rw [parted_comm c d rs]
    by_cases h : FabC.shown c r = FabC.shown d r
    · rw [if_pos h, if_pos h.symm]
    · rw [if_neg h, if_neg fun z => h z.symm]
theorem parted_self (c : Circ) (ls : List (List Int)) : parted c c ls = none := parted_none fun _ _ _ => rfl
theorem parted_mem {c d : Circ} : ∀ {ls : List (List Int)} {x : List Int}, parted c d ls = some x → x ∈ ls
  | r :: rs, x, h => by
    unfold parted at h
    by_cases e : FabC.shown c r = FabC.shown d r
    · rw [if_pos e] at h
      exact List.mem_cons_of_mem _ (parted_mem h)
    · rw [if_neg e] at h
      cases h
      exact List.mem_cons_self
theorem cut1 {b : Int} {r : List Int} : cutV ((b :: r).map V.int) none (some 1) = [V.int b] := by
  unfold cutV
  rw [HT.sIx_none, show (some (1 : Int)) = some ((1 : Nat) : Int) from rfl, HT.sIx_nat]
  simp
theorem rows_len {n : Nat} {x : List Int} (h : x ∈ rowsOf n) : x.length = n := by
  obtain ⟨k, _, rfl⟩ := List.mem_map.mp h
  exact bitsOf_length _ _
end K19
set_option maxHeartbeats 4000000
namespace K19
open PySem PySem.Spec PyProof.Rows L2 FabH He
local macro_rules | `(tactic| array_mem_dec) => `(tactic| (first | with_reducible assumption | with_reducible exact SqL.of (by array_get_dec) | with_reducible exact SqT.of (by array_get_dec) | ((repeat (with_reducible first | refine Same.seq (Same.new (by assumption)) ?_ | refine Same.tup (Same.new (by assumption)) ?_)); with_reducible assumption)))
local macro_rules | `(tactic| array_get_dec) => `(tactic| (first | with_reducible assumption | with_reducible exact upd_same | ((repeat (first | with_reducible exact upd_same | ((with_reducible apply at_new); with_reducible assumption) | ((with_reducible apply at_lstT); with_reducible assumption) | ((with_reducible apply at_lstR); with_reducible assumption) | ((with_reducible apply at_set); with_reducible assumption))); done) | ((repeat (first | ((with_reducible apply at_new); with_reducible assumption) | ((with_reducible apply at_lstT); with_reducible assumption) | ((with_reducible apply at_lstR); with_reducible assumption) | ((with_reducible apply at_set); with_reducible assumption))); with_reducible assumption)))
local macro_rules | `(tactic| walk_at "side") => `(tactic| (first | with_reducible assumption | decide | exact MOk.div (by assumption) | exact MOk.div (MOk.of (by decide) (by decide)) | (simp only [List.length_append, List.length_map, List.length_replicate, List.length_cons, List.length_nil, sizeLine_eq, CMul, CDivW, CPow]; omega) | omega))
local macro_rules | `(tactic| walk_at "st") => `(tactic| first
  | with_reducible refine g_cons ?_ | ((with_reducible apply g_var); (first | exact rfl | assumption)) | with_reducible refine g_const ?_ | with_reducible refine g_nil ?_ | with_reducible refine g_op ?_ | with_reducible refine g_rI0 ?_ | with_reducible refine g_seq ?_ | with_reducible refine g_asg ?_ | ((with_reducible refine g_name ?_); dsimp only [List.set_cons_zero, List.set_cons_succ])
  | with_reducible refine g_nx ?_ | with_reducible refine g_rt ?_ | with_reducible refine g_call ?_ | with_reducible refine g_ret ?_ | with_reducible refine g_test ?_ | with_reducible refine g_bl ?_ | with_reducible refine g_cb ?_ | with_reducible refine g_tB ?_ | with_reducible refine g_un ?_ | with_reducible refine g_rU ?_
  | with_reducible refine g_eqi ?_ | with_reducible refine g_int ?_ | with_reducible refine g_and ?_ | with_reducible refine g_or ?_ | with_reducible refine g_not ?_ | with_reducible refine g_drop ?_ | with_reducible refine g_next ?_ | with_reducible refine g_retN ?_ | with_reducible refine g_iteT ?_ | with_reducible refine g_iteF ?_ | with_reducible refine g_iteNT ?_ | with_reducible refine g_iteNF ?_
  | ((with_reducible apply g_ixL); array_mem_dec; (first | exact rfl | assumption)) | ((with_reducible apply g_ixT); array_mem_dec; (first | exact rfl | assumption)) | ((with_reducible apply g_lenL); array_mem_dec) | ((with_reducible apply g_lenT); array_mem_dec) | ((with_reducible apply g_rI); walk_at "side")
  | ((with_reducible apply g_setL); array_get_dec; (first | exact rfl | assumption)) | ((with_reducible apply g_app); array_get_dec; walk_at "side") | with_reducible refine g_tup ?_ | with_reducible refine g_lst ?_ | ((with_reducible apply g_listL); array_mem_dec) | ((with_reducible apply g_listT); array_mem_dec) | ((with_reducible apply g_tupT); array_mem_dec) | ((with_reducible apply g_tupL); array_mem_dec)
  | ((with_reducible apply g_room); walk_at "side") | with_reducible refine g_abs ?_ | with_reducible refine g_chain ?_ | with_reducible refine g_andV ?_ | with_reducible refine g_orV ?_ | with_reducible refine g_notV ?_ | with_reducible refine g_gsub ?_ | ((with_reducible apply g_gtup); array_mem_dec; (first | exact rfl | assumption)) | with_reducible refine g_gcons ?_ | with_reducible refine g_gnil ?_ | with_reducible refine g_bm ?_ | ((with_reducible apply g_tyL); array_mem_dec) | with_reducible refine g_tyS ?_
  | with_reducible refine g_callS ?_ | with_reducible refine g_nei ?_ | with_reducible refine g_eqs ?_ | with_reducible refine g_nes ?_ | with_reducible refine g_eqb ?_ | with_reducible refine g_nonI ?_ | with_reducible refine g_nonN ?_ | with_reducible refine g_nonS ?_ | with_reducible refine g_nonB ?_ | with_reducible refine g_nonR ?_ | with_reducible refine g_isBB ?_ | with_reducible refine g_isBI ?_ | with_reducible refine g_isBS ?_ | with_reducible refine g_isBR ?_ | with_reducible refine g_isBN ?_
  | with_reducible refine g_rng1 ?_ | with_reducible refine g_rng2 ?_ | ((with_reducible apply g_notInR); array_get_dec) | ((with_reducible apply g_inR); array_get_dec) | with_reducible refine g_for ?_ | with_reducible refine g_iList ?_ | with_reducible refine g_iTup ?_ | with_reducible refine g_iR1 ?_ | with_reducible refine g_iEnum ?_ | with_reducible refine g_lc ?_ | with_reducible refine g_yes ?_ | with_reducible refine g_slc ?_ | with_reducible refine g_raise ?_ | with_reducible refine g_exv ?_ | with_reducible refine g_xf ?_ | ((with_reducible apply g_xfe); array_get_dec; (first | exact rfl | assumption)) | with_reducible refine g_part ?_ | with_reducible refine g_nopart ?_ | with_reducible refine g_exi ?_ | with_reducible refine g_brk ?_ | with_reducible refine g_cnt ?_ | with_reducible refine g_bk ?_ | with_reducible refine g_ct ?_ | with_reducible refine g_if ?_
  | with_reducible refine g_augS ?_ | with_reducible refine g_nnR ?_ | with_reducible refine g_nnN ?_ | with_reducible refine g_nnI ?_ | with_reducible refine g_ipI ?_ | ((with_reducible apply g_neL); array_mem_dec; array_mem_dec) | ((with_reducible apply g_eqL); array_mem_dec; array_mem_dec) | ((with_reducible apply g_slL); array_mem_dec) | ((with_reducible apply g_atL); array_mem_dec) | ((with_reducible apply g_atT); array_mem_dec) | ((with_reducible apply g_enum); array_mem_dec) | ((with_reducible apply g_R1); walk_at "side"; walk_at "side")
  | with_reducible refine g_is_int_int ?_ | with_reducible refine g_is_int_bool ?_ | with_reducible refine g_is_int_str ?_ | with_reducible refine g_is_int_dict ?_ | with_reducible refine g_is_int_list ?_ | with_reducible refine g_is_int_tuple ?_ | with_reducible refine g_is_bool_bool ?_ | with_reducible refine g_is_bool_int ?_ | with_reducible refine g_is_str_int ?_ | with_reducible refine g_is_str_str ?_ | with_reducible refine g_is_str_dict ?_ | with_reducible refine g_is_str_list ?_ | with_reducible refine g_is_str_tuple ?_ | ((with_reducible apply g_is_list_int); array_get_dec) | ((with_reducible apply g_is_list_str); array_get_dec) | ((with_reducible apply g_is_list_dict); array_get_dec) | ((with_reducible apply g_is_list_list); array_get_dec) | ((with_reducible apply g_is_list_tuple); array_get_dec) | ((with_reducible apply g_is_tuple_int); array_get_dec) | ((with_reducible apply g_is_tuple_str); array_get_dec) | ((with_reducible apply g_is_tuple_dict); array_get_dec) | ((with_reducible apply g_is_tuple_list); array_get_dec) | ((with_reducible apply g_is_tuple_tuple); array_get_dec) | ((with_reducible apply g_ixSL); array_mem_dec; (first | exact rfl | assumption)) | ((with_reducible apply g_ixST); array_mem_dec; (first | exact rfl | assumption)))
local macro_rules | `(tactic| walk_at "go") => `(tactic| repeat first | with_reducible refine g_ifS ?_ | walk_at "st")
local macro_rules | `(tactic| walk_at "dec") => `(tactic| first | with_reducible assumption | decide | omega)
local macro_rules | `(tactic| walk_at "goD") => `(tactic| repeat first | with_reducible refine g_ifS ?_ | walk_at "st" | ((with_reducible apply g_iteY); walk_at "dec") | ((with_reducible apply g_iteX); walk_at "dec") | ((with_reducible apply g_iteNY); walk_at "dec") | ((with_reducible apply g_iteNX); walk_at "dec"))
local macro_rules | `(tactic| walk_at "goI") => `(tactic| repeat walk_at "st")
section
variable {P : Program} {w : World} {K : PySem.W.Frag} {mg : Str → Option Value} {base : Heap}
theorem b_to_bits (T : Txt P K mg) : Binds K (fdOf K "to_bits") ["value", "count"] [] := T.f_to_bits.f.bindsN fun _ _ _ _ _ _ us hl => match us, hl with | [_, _], _ => rfl
theorem b_lookup (T : Txt P K mg) : Binds K (fdOf K "lookup") ["table", "first", "second"] [] := T.f_lookup.f.bindsN fun _ _ _ _ _ _ us hl => match us, hl with | [_, _, _], _ => rfl
theorem b_value_of (T : Txt P K mg) : Binds K (fdOf K "value_of") ["values", "wire"] [] := T.f_value_of.f.bindsN fun _ _ _ _ _ _ us hl => match us, hl with | [_, _], _ => rfl
theorem b_wire_values (T : Txt P K mg) : Binds K (fdOf K "wire_values") ["circuit", "values"] [] := T.f_wire_values.f.bindsN fun _ _ _ _ _ _ us hl => match us, hl with | [_, _], _ => rfl
theorem b_evaluate (T : Txt P K mg) : Binds K (fdOf K "evaluate") ["circuit", "values"] [] := T.f_evaluate.f.bindsN fun _ _ _ _ _ _ us hl => match us, hl with | [_, _], _ => rfl
theorem b_reader_counts (T : Txt P K mg) : Binds K (fdOf K "reader_counts") ["circuit"] [] := T.f_reader_counts.f.bindsN fun _ _ _ _ _ _ us hl => match us, hl with | [_], _ => rfl
theorem b_truth_table (T : Txt P K mg) : Binds K (fdOf K "truth_table") ["circuit"] [] := T.f_truth_table.f.bindsN fun _ _ _ _ _ _ us hl => match us, hl with | [_], _ => rfl
theorem b_difference (T : Txt P K mg) : Binds K (fdOf K "difference") ["circuit", "other"] [] := T.f_difference.f.bindsN fun _ _ _ _ _ _ us hl => match us, hl with | [_, _], _ => rfl
theorem b__law_pool (T : Txt P K mg) : Binds K (fdOf K "_law_pool") ["script", "place"] [] := T.f__law_pool.f.bindsN fun _ _ _ _ _ _ us hl => match us, hl with | [_, _], _ => rfl
theorem b__law_draw (T : Txt P K mg) : Binds K (fdOf K "_law_draw") ["pool", "many"] [] := T.f__law_draw.f.bindsN fun _ _ _ _ _ _ us hl => match us, hl with | [_, _], _ => rfl
theorem b__law_take (T : Txt P K mg) : Binds K (fdOf K "_law_take") ["pools", "many"] [] := T.f__law_take.f.bindsN fun _ _ _ _ _ _ us hl => match us, hl with | [_, _], _ => rfl
theorem b__law_same (T : Txt P K mg) : Binds K (fdOf K "_law_same") ["told", "due"] [] := T.f__law_same.f.bindsN fun _ _ _ _ _ _ us hl => match us, hl with | [_, _], _ => rfl
theorem b__law_bits (T : Txt P K mg) : Binds K (fdOf K "_law_bits") ["value", "count"] [] := T.f__law_bits.f.bindsN fun _ _ _ _ _ _ us hl => match us, hl with | [_, _], _ => rfl
theorem b__law_worths (T : Txt P K mg) : Binds K (fdOf K "_law_worths") ["circuit", "values"] [] := T.f__law_worths.f.bindsN fun _ _ _ _ _ _ us hl => match us, hl with | [_, _], _ => rfl
theorem b__law_shown (T : Txt P K mg) : Binds K (fdOf K "_law_shown") ["circuit", "values"] [] := T.f__law_shown.f.bindsN fun _ _ _ _ _ _ us hl => match us, hl with | [_, _], _ => rfl
theorem b__law_readers (T : Txt P K mg) : Binds K (fdOf K "_law_readers") ["circuit"] [] := T.f__law_readers.f.bindsN fun _ _ _ _ _ _ us hl => match us, hl with | [_], _ => rfl
theorem b__law_wire (T : Txt P K mg) : Binds K (fdOf K "_law_wire") ["pools", "wires"] [] := T.f__law_wire.f.bindsN fun _ _ _ _ _ _ us hl => match us, hl with | [_, _], _ => rfl
theorem b__law_drawn (T : Txt P K mg) : Binds K (fdOf K "_law_drawn") ["pools", "free", "count", "many"] [] := T.f__law_drawn.f.bindsN fun _ _ _ _ _ _ us hl => match us, hl with | [_, _, _, _], _ => rfl
theorem b__law_chain (T : Txt P K mg) : Binds K (fdOf K "_law_chain") ["side"] [] := T.f__law_chain.f.bindsN fun _ _ _ _ _ _ us hl => match us, hl with | [_], _ => rfl
theorem b__law_second (T : Txt P K mg) : Binds K (fdOf K "_law_second") ["pools", "side", "circuit"] [] := T.f__law_second.f.bindsN fun _ _ _ _ _ _ us hl => match us, hl with | [_, _, _], _ => rfl
theorem b__law_values_right (T : Txt P K mg) : Binds K (fdOf K "_law_values_right") ["circuit", "rows"] [] := T.f__law_values_right.f.bindsN fun _ _ _ _ _ _ us hl => match us, hl with | [_, _], _ => rfl
theorem b__law_counts_right (T : Txt P K mg) : Binds K (fdOf K "_law_counts_right") ["circuit"] [] := T.f__law_counts_right.f.bindsN fun _ _ _ _ _ _ us hl => match us, hl with | [_], _ => rfl
theorem b__law_table_right (T : Txt P K mg) : Binds K (fdOf K "_law_table_right") ["circuit", "rows"] [] := T.f__law_table_right.f.bindsN fun _ _ _ _ _ _ us hl => match us, hl with | [_, _], _ => rfl
theorem b__law_parted (T : Txt P K mg) : Binds K (fdOf K "_law_parted") ["one", "two", "rows"] [] := T.f__law_parted.f.bindsN fun _ _ _ _ _ _ us hl => match us, hl with | [_, _, _], _ => rfl
theorem b__law_difference_right (T : Txt P K mg) : Binds K (fdOf K "_law_difference_right") ["one", "two", "rows"] [] := T.f__law_difference_right.f.bindsN fun _ _ _ _ _ _ us hl => match us, hl with | [_, _, _], _ => rfl
theorem b__law_told_values (T : Txt P K mg) : Binds K (fdOf K "_law_told_values") ["circuit", "values"] [] := T.f__law_told_values.f.bindsN fun _ _ _ _ _ _ us hl => match us, hl with | [_, _], _ => rfl
theorem b__law_told_outputs (T : Txt P K mg) : Binds K (fdOf K "_law_told_outputs") ["circuit", "values"] [] := T.f__law_told_outputs.f.bindsN fun _ _ _ _ _ _ us hl => match us, hl with | [_, _], _ => rfl
theorem b__law_told_table (T : Txt P K mg) : Binds K (fdOf K "_law_told_table") ["circuit"] [] := T.f__law_told_table.f.bindsN fun _ _ _ _ _ _ us hl => match us, hl with | [_], _ => rfl
theorem b__law_told_difference (T : Txt P K mg) : Binds K (fdOf K "_law_told_difference") ["one", "two"] [] := T.f__law_told_difference.f.bindsN fun _ _ _ _ _ _ us hl => match us, hl with | [_, _], _ => rfl
theorem b__law_by_base (T : Txt P K mg) : Binds K (fdOf K "_law_by_base") ["circuit", "values"] [] := T.f__law_by_base.f.bindsN fun _ _ _ _ _ _ us hl => match us, hl with | [_, _], _ => rfl
theorem b__law_values_refused (T : Txt P K mg) : Binds K (fdOf K "_law_values_refused") ["circuit", "bits"] [] := T.f__law_values_refused.f.bindsN fun _ _ _ _ _ _ us hl => match us, hl with | [_, _], _ => rfl
theorem b__law_sizes_refused (T : Txt P K mg) : Binds K (fdOf K "_law_sizes_refused") ["circuit", "far", "unlike"] [] := T.f__law_sizes_refused.f.bindsN fun _ _ _ _ _ _ us hl => match us, hl with | [_, _, _], _ => rfl
theorem b__law_wide_refused (T : Txt P K mg) : Binds K (fdOf K "_law_wide_refused") ["circuit", "other", "unlike"] [] := T.f__law_wide_refused.f.bindsN fun _ _ _ _ _ _ us hl => match us, hl with | [_, _, _], _ => rfl
theorem b_law (T : Txt P K mg) : Binds K (fdOf K "law") ["script"] [] := T.f_law.f.bindsN fun _ _ _ _ _ _ us hl => match us, hl with | [_], _ => rfl
end
end K19
set_option maxHeartbeats 4000000
namespace K19
open PySem PySem.Spec PyProof.Rows L2 FabH He
local macro_rules | `(tactic| array_mem_dec) => `(tactic| (first | with_reducible assumption | with_reducible exact SqL.of (by array_get_dec) | with_reducible exact SqT.of (by array_get_dec) | ((repeat (with_reducible first | refine Same.seq (Same.new (by assumption)) ?_ | refine Same.tup (Same.new (by assumption)) ?_)); with_reducible assumption)))
local macro_rules | `(tactic| array_get_dec) => `(tactic| (first | with_reducible assumption | with_reducible exact upd_same | ((repeat (first | with_reducible exact upd_same | ((with_reducible apply at_new); with_reducible assumption) | ((with_reducible apply at_lstT); with_reducible assumption) | ((with_reducible apply at_lstR); with_reducible assumption) | ((with_reducible apply at_set); with_reducible assumption))); done) | ((repeat (first | ((with_reducible apply at_new); with_reducible assumption) | ((with_reducible apply at_lstT); with_reducible assumption) | ((with_reducible apply at_lstR); with_reducible assumption) | ((with_reducible apply at_set); with_reducible assumption))); with_reducible assumption)))
local macro_rules | `(tactic| walk_at "side") => `(tactic| (first | with_reducible assumption | decide | exact MOk.div (by assumption) | exact MOk.div (MOk.of (by decide) (by decide)) | (simp only [List.length_append, List.length_map, List.length_replicate, List.length_cons, List.length_nil, sizeLine_eq, CMul, CDivW, CPow]; omega) | omega))
local macro_rules | `(tactic| walk_at "st") => `(tactic| first
  | with_reducible refine g_cons ?_ | ((with_reducible apply g_var); (first | exact rfl | assumption)) | with_reducible refine g_const ?_ | with_reducible refine g_nil ?_ | with_reducible refine g_op ?_ | with_reducible refine g_rI0 ?_ | with_reducible refine g_seq ?_ | with_reducible refine g_asg ?_ | ((with_reducible refine g_name ?_); dsimp only [List.set_cons_zero, List.set_cons_succ])
  | with_reducible refine g_nx ?_ | with_reducible refine g_rt ?_ | with_reducible refine g_call ?_ | with_reducible refine g_ret ?_ | with_reducible refine g_test ?_ | with_reducible refine g_bl ?_ | with_reducible refine g_cb ?_ | with_reducible refine g_tB ?_ | with_reducible refine g_un ?_ | with_reducible refine g_rU ?_
  | with_reducible refine g_eqi ?_ | with_reducible refine g_int ?_ | with_reducible refine g_and ?_ | with_reducible refine g_or ?_ | with_reducible refine g_not ?_ | with_reducible refine g_drop ?_ | with_reducible refine g_next ?_ | with_reducible refine g_retN ?_ | with_reducible refine g_iteT ?_ | with_reducible refine g_iteF ?_ | with_reducible refine g_iteNT ?_ | with_reducible refine g_iteNF ?_
  | ((with_reducible apply g_ixL); array_mem_dec; (first | exact rfl | assumption)) | ((with_reducible apply g_ixT); array_mem_dec; (first | exact rfl | assumption)) | ((with_reducible apply g_lenL); array_mem_dec) | ((with_reducible apply g_lenT); array_mem_dec) | ((with_reducible apply g_rI); walk_at "side")
  | ((with_reducible apply g_setL); array_get_dec; (first | exact rfl | assumption)) | ((with_reducible apply g_app); array_get_dec; walk_at "side") | with_reducible refine g_tup ?_ | with_reducible refine g_lst ?_ | ((with_reducible apply g_listL); array_mem_dec) | ((with_reducible apply g_listT); array_mem_dec) | ((with_reducible apply g_tupT); array_mem_dec) | ((with_reducible apply g_tupL); array_mem_dec)
  | ((with_reducible apply g_room); walk_at "side") | with_reducible refine g_abs ?_ | with_reducible refine g_chain ?_ | with_reducible refine g_andV ?_ | with_reducible refine g_orV ?_ | with_reducible refine g_notV ?_ | with_reducible refine g_gsub ?_ | ((with_reducible apply g_gtup); array_mem_dec; (first | exact rfl | assumption)) | with_reducible refine g_gcons ?_ | with_reducible refine g_gnil ?_ | with_reducible refine g_bm ?_ | ((with_reducible apply g_tyL); array_mem_dec) | with_reducible refine g_tyS ?_
  | with_reducible refine g_callS ?_ | with_reducible refine g_nei ?_ | with_reducible refine g_eqs ?_ | with_reducible refine g_nes ?_ | with_reducible refine g_eqb ?_ | with_reducible refine g_nonI ?_ | with_reducible refine g_nonN ?_ | with_reducible refine g_nonS ?_ | with_reducible refine g_nonB ?_ | with_reducible refine g_nonR ?_ | with_reducible refine g_isBB ?_ | with_reducible refine g_isBI ?_ | with_reducible refine g_isBS ?_ | with_reducible refine g_isBR ?_ | with_reducible refine g_isBN ?_
  | with_reducible refine g_rng1 ?_ | with_reducible refine g_rng2 ?_ | ((with_reducible apply g_notInR); array_get_dec) | ((with_reducible apply g_inR); array_get_dec) | with_reducible refine g_for ?_ | with_reducible refine g_iList ?_ | with_reducible refine g_iTup ?_ | with_reducible refine g_iR1 ?_ | with_reducible refine g_iEnum ?_ | with_reducible refine g_lc ?_ | with_reducible refine g_yes ?_ | with_reducible refine g_slc ?_ | with_reducible refine g_raise ?_ | with_reducible refine g_exv ?_ | with_reducible refine g_xf ?_ | ((with_reducible apply g_xfe); array_get_dec; (first | exact rfl | assumption)) | with_reducible refine g_part ?_ | with_reducible refine g_nopart ?_ | with_reducible refine g_exi ?_ | with_reducible refine g_brk ?_ | with_reducible refine g_cnt ?_ | with_reducible refine g_bk ?_ | with_reducible refine g_ct ?_ | with_reducible refine g_if ?_
  | with_reducible refine g_augS ?_ | with_reducible refine g_nnR ?_ | with_reducible refine g_nnN ?_ | with_reducible refine g_nnI ?_ | with_reducible refine g_ipI ?_ | ((with_reducible apply g_neL); array_mem_dec; array_mem_dec) | ((with_reducible apply g_eqL); array_mem_dec; array_mem_dec) | ((with_reducible apply g_slL); array_mem_dec) | ((with_reducible apply g_atL); array_mem_dec) | ((with_reducible apply g_atT); array_mem_dec) | ((with_reducible apply g_enum); array_mem_dec) | ((with_reducible apply g_R1); walk_at "side"; walk_at "side")
  | with_reducible refine g_is_int_int ?_ | with_reducible refine g_is_int_bool ?_ | with_reducible refine g_is_int_str ?_ | with_reducible refine g_is_int_dict ?_ | with_reducible refine g_is_int_list ?_ | with_reducible refine g_is_int_tuple ?_ | with_reducible refine g_is_bool_bool ?_ | with_reducible refine g_is_bool_int ?_ | with_reducible refine g_is_str_int ?_ | with_reducible refine g_is_str_str ?_ | with_reducible refine g_is_str_dict ?_ | with_reducible refine g_is_str_list ?_ | with_reducible refine g_is_str_tuple ?_ | ((with_reducible apply g_is_list_int); array_get_dec) | ((with_reducible apply g_is_list_str); array_get_dec) | ((with_reducible apply g_is_list_dict); array_get_dec) | ((with_reducible apply g_is_list_list); array_get_dec) | ((with_reducible apply g_is_list_tuple); array_get_dec) | ((with_reducible apply g_is_tuple_int); array_get_dec) | ((with_reducible apply g_is_tuple_str); array_get_dec) | ((with_reducible apply g_is_tuple_dict); array_get_dec) | ((with_reducible apply g_is_tuple_list); array_get_dec) | ((with_reducible apply g_is_tuple_tuple); array_get_dec) | ((with_reducible apply g_ixSL); array_mem_dec; (first | exact rfl | assumption)) | ((with_reducible apply g_ixST); array_mem_dec; (first | exact rfl | assumption)))
local macro_rules | `(tactic| walk_at "go") => `(tactic| repeat first | with_reducible refine g_ifS ?_ | walk_at "st")
local macro_rules | `(tactic| walk_at "dec") => `(tactic| first | with_reducible assumption | decide | omega)
local macro_rules | `(tactic| walk_at "goD") => `(tactic| repeat first | with_reducible refine g_ifS ?_ | walk_at "st" | ((with_reducible apply g_iteY); walk_at "dec") | ((with_reducible apply g_iteX); walk_at "dec") | ((with_reducible apply g_iteNY); walk_at "dec") | ((with_reducible apply g_iteNX); walk_at "dec"))
local macro_rules | `(tactic| walk_at "goI") => `(tactic| repeat walk_at "st")
section
open FabC
variable {P : Program} {w : World} {K : PySem.W.Frag} {mg : Str → Option Value} {base : Heap}
theorem ok_to_bits (T : Txt P K mg)  : FnOk P w K mg base CX0 3 (ga K "to_bits") (fdOf K "to_bits") ["value", "count"] (sp_to_bits) := by
  refine T.f_to_bits.f.ok sc_to_bits (fun vs H Q E h => by obtain ⟨_, _, e, _⟩ := h; rw [e]; rfl) (fun cdv A outer s H vs Q E hr h => ⟨(d_to_bits T  hr).1, PSs.nox (d_to_bits T  hr).2, ?_⟩)
  dsimp only [d_to_bits, cxOf]
  obtain ⟨v, n, rfl, n0, n1, v0, v1, q⟩ := h
  rw [show start N_to_bits [.int v, .int n] = [some (.int v), some (.int n), none, none, none] from rfl]
  walk_at "go"
  intro l hl
  walk_at "go"
  refine for_range (fun i σ H' => ∃ o r, σ = [some (.int v), some (.int n), some (.ref l), some (.int r), o] ∧ r = v / 2 ^ i ∧ Same H H' ∧ H' l = some (.lst ((bitsOf v i).map V.int))) ⟨_, _, rfl, by simp, .new hl, upd_same⟩ ?_ ?_
  · rintro i σ H' hi ⟨o, r, rfl, er, sm, hl2⟩
    have hb := bitsOf_length v i
    walk_at "go"
    exact ⟨_, _, rfl, by rw [er, half_half], Same.setNew sm hl, by rw [upd_same, bitsOf_succ, er]; simp⟩
  · rintro σ H' ⟨o, r, rfl, er, sm, hl2⟩
    have z : v / 2 ^ n.toNat = 0 := Int.ediv_eq_zero_of_lt v0 v1
    walk_at "goI"
    refine g_ifS ?_
    walk_at "goI"
    refine g_iteNX (er.trans z) ?_
    walk_at "go"
    exact q _ _ sm ⟨l, rfl, hl, hl2⟩
end

end K19
set_option maxHeartbeats 4000000
namespace K19
open PySem PySem.Spec PyProof.Rows L2 FabH He
local macro_rules | `(tactic| array_mem_dec) => `(tactic| (first | with_reducible assumption | with_reducible exact SqL.of (by array_get_dec) | with_reducible exact SqT.of (by array_get_dec) | ((repeat (with_reducible first | refine Same.seq (Same.new (by assumption)) ?_ | refine Same.tup (Same.new (by assumption)) ?_)); with_reducible assumption)))
local macro_rules | `(tactic| array_get_dec) => `(tactic| (first | with_reducible assumption | with_reducible exact upd_same | ((repeat (first | with_reducible exact upd_same | ((with_reducible apply at_new); with_reducible assumption) | ((with_reducible apply at_lstT); with_reducible assumption) | ((with_reducible apply at_lstR); with_reducible assumption) | ((with_reducible apply at_set); with_reducible assumption))); done) | ((repeat (first | ((with_reducible apply at_new); with_reducible assumption) | ((with_reducible apply at_lstT); with_reducible assumption) | ((with_reducible apply at_lstR); with_reducible assumption) | ((with_reducible apply at_set); with_reducible assumption))); with_reducible assumption)))
local macro_rules | `(tactic| walk_at "side") => `(tactic| (first | with_reducible assumption | decide | exact MOk.div (by assumption) | exact MOk.div (MOk.of (by decide) (by decide)) | (simp only [List.length_append, List.length_map, List.length_replicate, List.length_cons, List.length_nil, sizeLine_eq, CMul, CDivW, CPow]; omega) | omega))
local macro_rules | `(tactic| walk_at "st") => `(tactic| first
  | with_reducible refine g_cons ?_ | ((with_reducible apply g_var); (first | exact rfl | assumption)) | with_reducible refine g_const ?_ | with_reducible refine g_nil ?_ | with_reducible refine g_op ?_ | with_reducible refine g_rI0 ?_ | with_reducible refine g_seq ?_ | with_reducible refine g_asg ?_ | ((with_reducible refine g_name ?_); dsimp only [List.set_cons_zero, List.set_cons_succ])
  | with_reducible refine g_nx ?_ | with_reducible refine g_rt ?_ | with_reducible refine g_call ?_ | with_reducible refine g_ret ?_ | with_reducible refine g_test ?_ | with_reducible refine g_bl ?_ | with_reducible refine g_cb ?_ | with_reducible refine g_tB ?_ | with_reducible refine g_un ?_ | with_reducible refine g_rU ?_
  | with_reducible refine g_eqi ?_ | with_reducible refine g_int ?_ | with_reducible refine g_and ?_ | with_reducible refine g_or ?_ | with_reducible refine g_not ?_ | with_reducible refine g_drop ?_ | with_reducible refine g_next ?_ | with_reducible refine g_retN ?_ | with_reducible refine g_iteT ?_ | with_reducible refine g_iteF ?_ | with_reducible refine g_iteNT ?_ | with_reducible refine g_iteNF ?_
  | ((with_reducible apply g_ixL); array_mem_dec; (first | exact rfl | assumption)) | ((with_reducible apply g_ixT); array_mem_dec; (first | exact rfl | assumption)) | ((with_reducible apply g_lenL); array_mem_dec) | ((with_reducible apply g_lenT); array_mem_dec) | ((with_reducible apply g_rI); walk_at "side")
  | ((with_reducible apply g_setL); array_get_dec; (first | exact rfl | assumption)) | ((with_reducible apply g_app); array_get_dec; walk_at "side") | with_reducible refine g_tup ?_ | with_reducible refine g_lst ?_ | ((with_reducible apply g_listL); array_mem_dec) | ((with_reducible apply g_listT); array_mem_dec) | ((with_reducible apply g_tupT); array_mem_dec) | ((with_reducible apply g_tupL); array_mem_dec)
  | ((with_reducible apply g_room); walk_at "side") | with_reducible refine g_abs ?_ | with_reducible refine g_chain ?_ | with_reducible refine g_andV ?_ | with_reducible refine g_orV ?_ | with_reducible refine g_notV ?_ | with_reducible refine g_gsub ?_ | ((with_reducible apply g_gtup); array_mem_dec; (first | exact rfl | assumption)) | with_reducible refine g_gcons ?_ | with_reducible refine g_gnil ?_ | with_reducible refine g_bm ?_ | ((with_reducible apply g_tyL); array_mem_dec) | with_reducible refine g_tyS ?_
  | with_reducible refine g_callS ?_ | with_reducible refine g_nei ?_ | with_reducible refine g_eqs ?_ | with_reducible refine g_nes ?_ | with_reducible refine g_eqb ?_ | with_reducible refine g_nonI ?_ | with_reducible refine g_nonN ?_ | with_reducible refine g_nonS ?_ | with_reducible refine g_nonB ?_ | with_reducible refine g_nonR ?_ | with_reducible refine g_isBB ?_ | with_reducible refine g_isBI ?_ | with_reducible refine g_isBS ?_ | with_reducible refine g_isBR ?_ | with_reducible refine g_isBN ?_
  | with_reducible refine g_rng1 ?_ | with_reducible refine g_rng2 ?_ | ((with_reducible apply g_notInR); array_get_dec) | ((with_reducible apply g_inR); array_get_dec) | with_reducible refine g_for ?_ | with_reducible refine g_iList ?_ | with_reducible refine g_iTup ?_ | with_reducible refine g_iR1 ?_ | with_reducible refine g_iEnum ?_ | with_reducible refine g_lc ?_ | with_reducible refine g_yes ?_ | with_reducible refine g_slc ?_ | with_reducible refine g_raise ?_ | with_reducible refine g_exv ?_ | with_reducible refine g_xf ?_ | ((with_reducible apply g_xfe); array_get_dec; (first | exact rfl | assumption)) | with_reducible refine g_part ?_ | with_reducible refine g_nopart ?_ | with_reducible refine g_exi ?_ | with_reducible refine g_brk ?_ | with_reducible refine g_cnt ?_ | with_reducible refine g_bk ?_ | with_reducible refine g_ct ?_ | with_reducible refine g_if ?_
  | with_reducible refine g_augS ?_ | with_reducible refine g_nnR ?_ | with_reducible refine g_nnN ?_ | with_reducible refine g_nnI ?_ | with_reducible refine g_ipI ?_ | ((with_reducible apply g_neL); array_mem_dec; array_mem_dec) | ((with_reducible apply g_eqL); array_mem_dec; array_mem_dec) | ((with_reducible apply g_slL); array_mem_dec) | ((with_reducible apply g_atL); array_mem_dec) | ((with_reducible apply g_atT); array_mem_dec) | ((with_reducible apply g_enum); array_mem_dec) | ((with_reducible apply g_R1); walk_at "side"; walk_at "side")
  | with_reducible refine g_is_int_int ?_ | with_reducible refine g_is_int_bool ?_ | with_reducible refine g_is_int_str ?_ | with_reducible refine g_is_int_dict ?_ | with_reducible refine g_is_int_list ?_ | with_reducible refine g_is_int_tuple ?_ | with_reducible refine g_is_bool_bool ?_ | with_reducible refine g_is_bool_int ?_ | with_reducible refine g_is_str_int ?_ | with_reducible refine g_is_str_str ?_ | with_reducible refine g_is_str_dict ?_ | with_reducible refine g_is_str_list ?_ | with_reducible refine g_is_str_tuple ?_ | ((with_reducible apply g_is_list_int); array_get_dec) | ((with_reducible apply g_is_list_str); array_get_dec) | ((with_reducible apply g_is_list_dict); array_get_dec) | ((with_reducible apply g_is_list_list); array_get_dec) | ((with_reducible apply g_is_list_tuple); array_get_dec) | ((with_reducible apply g_is_tuple_int); array_get_dec) | ((with_reducible apply g_is_tuple_str); array_get_dec) | ((with_reducible apply g_is_tuple_dict); array_get_dec) | ((with_reducible apply g_is_tuple_list); array_get_dec) | ((with_reducible apply g_is_tuple_tuple); array_get_dec) | ((with_reducible apply g_ixSL); array_mem_dec; (first | exact rfl | assumption)) | ((with_reducible apply g_ixST); array_mem_dec; (first | exact rfl | assumption)))
local macro_rules | `(tactic| walk_at "go") => `(tactic| repeat first | with_reducible refine g_ifS ?_ | walk_at "st")
local macro_rules | `(tactic| walk_at "dec") => `(tactic| first | with_reducible assumption | decide | omega)
local macro_rules | `(tactic| walk_at "goD") => `(tactic| repeat first | with_reducible refine g_ifS ?_ | walk_at "st" | ((with_reducible apply g_iteY); walk_at "dec") | ((with_reducible apply g_iteX); walk_at "dec") | ((with_reducible apply g_iteNY); walk_at "dec") | ((with_reducible apply g_iteNX); walk_at "dec"))
local macro_rules | `(tactic| walk_at "goI") => `(tactic| repeat walk_at "st")
section
open FabC
variable {P : Program} {w : World} {K : PySem.W.Frag} {mg : Str → Option Value} {base : Heap}
theorem ok_lookup (T : Txt P K mg)  : FnOk P w K mg base CX0 1 (ga K "lookup") (fdOf K "lookup") ["table", "first", "second"] (sp_lookup) := by
  refine T.f_lookup.f.ok sc_lookup (fun vs H Q E h => by obtain ⟨_, _, _, e, _⟩ := h; rw [e]; rfl) (fun cdv A outer s H vs Q E hr h => ⟨(d_lookup T  hr).1, PSs.nox (d_lookup T  hr).2, ?_⟩)
  dsimp only [d_lookup, cxOf]
  obtain ⟨t, x, y, rfl, hx, hy, q⟩ := h
  rw [show start N_lookup [.int t, .int x, .int y] = [some (.int t), some (.int x), some (.int y)] from rfl]
  walk_at "go"
  exact q
end

end K19
set_option maxHeartbeats 4000000
namespace K19
open PySem PySem.Spec PyProof.Rows L2 FabH He
local macro_rules | `(tactic| array_mem_dec) => `(tactic| (first | with_reducible assumption | with_reducible exact SqL.of (by array_get_dec) | with_reducible exact SqT.of (by array_get_dec) | ((repeat (with_reducible first | refine Same.seq (Same.new (by assumption)) ?_ | refine Same.tup (Same.new (by assumption)) ?_)); with_reducible assumption)))
local macro_rules | `(tactic| array_get_dec) => `(tactic| (first | with_reducible assumption | with_reducible exact upd_same | ((repeat (first | with_reducible exact upd_same | ((with_reducible apply at_new); with_reducible assumption) | ((with_reducible apply at_lstT); with_reducible assumption) | ((with_reducible apply at_lstR); with_reducible assumption) | ((with_reducible apply at_set); with_reducible assumption))); done) | ((repeat (first | ((with_reducible apply at_new); with_reducible assumption) | ((with_reducible apply at_lstT); with_reducible assumption) | ((with_reducible apply at_lstR); with_reducible assumption) | ((with_reducible apply at_set); with_reducible assumption))); with_reducible assumption)))
local macro_rules | `(tactic| walk_at "side") => `(tactic| (first | with_reducible assumption | decide | exact MOk.div (by assumption) | exact MOk.div (MOk.of (by decide) (by decide)) | (simp only [List.length_append, List.length_map, List.length_replicate, List.length_cons, List.length_nil, sizeLine_eq, CMul, CDivW, CPow]; omega) | omega))
local macro_rules | `(tactic| walk_at "st") => `(tactic| first
  | with_reducible refine g_cons ?_ | ((with_reducible apply g_var); (first | exact rfl | assumption)) | with_reducible refine g_const ?_ | with_reducible refine g_nil ?_ | with_reducible refine g_op ?_ | with_reducible refine g_rI0 ?_ | with_reducible refine g_seq ?_ | with_reducible refine g_asg ?_ | ((with_reducible refine g_name ?_); dsimp only [List.set_cons_zero, List.set_cons_succ])
  | with_reducible refine g_nx ?_ | with_reducible refine g_rt ?_ | with_reducible refine g_call ?_ | with_reducible refine g_ret ?_ | with_reducible refine g_test ?_ | with_reducible refine g_bl ?_ | with_reducible refine g_cb ?_ | with_reducible refine g_tB ?_ | with_reducible refine g_un ?_ | with_reducible refine g_rU ?_
  | with_reducible refine g_eqi ?_ | with_reducible refine g_int ?_ | with_reducible refine g_and ?_ | with_reducible refine g_or ?_ | with_reducible refine g_not ?_ | with_reducible refine g_drop ?_ | with_reducible refine g_next ?_ | with_reducible refine g_retN ?_ | with_reducible refine g_iteT ?_ | with_reducible refine g_iteF ?_ | with_reducible refine g_iteNT ?_ | with_reducible refine g_iteNF ?_
  | ((with_reducible apply g_ixL); array_mem_dec; (first | exact rfl | assumption)) | ((with_reducible apply g_ixT); array_mem_dec; (first | exact rfl | assumption)) | ((with_reducible apply g_lenL); array_mem_dec) | ((with_reducible apply g_lenT); array_mem_dec) | ((with_reducible apply g_rI); walk_at "side")
  | ((with_reducible apply g_setL); array_get_dec; (first | exact rfl | assumption)) | ((with_reducible apply g_app); array_get_dec; walk_at "side") | with_reducible refine g_tup ?_ | with_reducible refine g_lst ?_ | ((with_reducible apply g_listL); array_mem_dec) | ((with_reducible apply g_listT); array_mem_dec) | ((with_reducible apply g_tupT); array_mem_dec) | ((with_reducible apply g_tupL); array_mem_dec)
  | ((with_reducible apply g_room); walk_at "side") | with_reducible refine g_abs ?_ | with_reducible refine g_chain ?_ | with_reducible refine g_andV ?_ | with_reducible refine g_orV ?_ | with_reducible refine g_notV ?_ | with_reducible refine g_gsub ?_ | ((with_reducible apply g_gtup); array_mem_dec; (first | exact rfl | assumption)) | with_reducible refine g_gcons ?_ | with_reducible refine g_gnil ?_ | with_reducible refine g_bm ?_ | ((with_reducible apply g_tyL); array_mem_dec) | with_reducible refine g_tyS ?_
  | with_reducible refine g_callS ?_ | with_reducible refine g_nei ?_ | with_reducible refine g_eqs ?_ | with_reducible refine g_nes ?_ | with_reducible refine g_eqb ?_ | with_reducible refine g_nonI ?_ | with_reducible refine g_nonN ?_ | with_reducible refine g_nonS ?_ | with_reducible refine g_nonB ?_ | with_reducible refine g_nonR ?_ | with_reducible refine g_isBB ?_ | with_reducible refine g_isBI ?_ | with_reducible refine g_isBS ?_ | with_reducible refine g_isBR ?_ | with_reducible refine g_isBN ?_
  | with_reducible refine g_rng1 ?_ | with_reducible refine g_rng2 ?_ | ((with_reducible apply g_notInR); array_get_dec) | ((with_reducible apply g_inR); array_get_dec) | with_reducible refine g_for ?_ | with_reducible refine g_iList ?_ | with_reducible refine g_iTup ?_ | with_reducible refine g_iR1 ?_ | with_reducible refine g_iEnum ?_ | with_reducible refine g_lc ?_ | with_reducible refine g_yes ?_ | with_reducible refine g_slc ?_ | with_reducible refine g_raise ?_ | with_reducible refine g_exv ?_ | with_reducible refine g_xf ?_ | ((with_reducible apply g_xfe); array_get_dec; (first | exact rfl | assumption)) | with_reducible refine g_part ?_ | with_reducible refine g_nopart ?_ | with_reducible refine g_exi ?_ | with_reducible refine g_brk ?_ | with_reducible refine g_cnt ?_ | with_reducible refine g_bk ?_ | with_reducible refine g_ct ?_ | with_reducible refine g_if ?_
  | with_reducible refine g_augS ?_ | with_reducible refine g_nnR ?_ | with_reducible refine g_nnN ?_ | with_reducible refine g_nnI ?_ | with_reducible refine g_ipI ?_ | ((with_reducible apply g_neL); array_mem_dec; array_mem_dec) | ((with_reducible apply g_eqL); array_mem_dec; array_mem_dec) | ((with_reducible apply g_slL); array_mem_dec) | ((with_reducible apply g_atL); array_mem_dec) | ((with_reducible apply g_atT); array_mem_dec) | ((with_reducible apply g_enum); array_mem_dec) | ((with_reducible apply g_R1); walk_at "side"; walk_at "side")
  | with_reducible refine g_is_int_int ?_ | with_reducible refine g_is_int_bool ?_ | with_reducible refine g_is_int_str ?_ | with_reducible refine g_is_int_dict ?_ | with_reducible refine g_is_int_list ?_ | with_reducible refine g_is_int_tuple ?_ | with_reducible refine g_is_bool_bool ?_ | with_reducible refine g_is_bool_int ?_ | with_reducible refine g_is_str_int ?_ | with_reducible refine g_is_str_str ?_ | with_reducible refine g_is_str_dict ?_ | with_reducible refine g_is_str_list ?_ | with_reducible refine g_is_str_tuple ?_ | ((with_reducible apply g_is_list_int); array_get_dec) | ((with_reducible apply g_is_list_str); array_get_dec) | ((with_reducible apply g_is_list_dict); array_get_dec) | ((with_reducible apply g_is_list_list); array_get_dec) | ((with_reducible apply g_is_list_tuple); array_get_dec) | ((with_reducible apply g_is_tuple_int); array_get_dec) | ((with_reducible apply g_is_tuple_str); array_get_dec) | ((with_reducible apply g_is_tuple_dict); array_get_dec) | ((with_reducible apply g_is_tuple_list); array_get_dec) | ((with_reducible apply g_is_tuple_tuple); array_get_dec) | ((with_reducible apply g_ixSL); array_mem_dec; (first | exact rfl | assumption)) | ((with_reducible apply g_ixST); array_mem_dec; (first | exact rfl | assumption)))
local macro_rules | `(tactic| walk_at "go") => `(tactic| repeat first | with_reducible refine g_ifS ?_ | walk_at "st")
local macro_rules | `(tactic| walk_at "dec") => `(tactic| first | with_reducible assumption | decide | omega)
local macro_rules | `(tactic| walk_at "goD") => `(tactic| repeat first | with_reducible refine g_ifS ?_ | walk_at "st" | ((with_reducible apply g_iteY); walk_at "dec") | ((with_reducible apply g_iteX); walk_at "dec") | ((with_reducible apply g_iteNY); walk_at "dec") | ((with_reducible apply g_iteNX); walk_at "dec"))
local macro_rules | `(tactic| walk_at "goI") => `(tactic| repeat walk_at "st")
section
open FabC
variable {P : Program} {w : World} {K : PySem.W.Frag} {mg : Str → Option Value} {base : Heap}
theorem ok_value_of (T : Txt P K mg)  : FnOk P w K mg base CX0 1 (ga K "value_of") (fdOf K "value_of") ["values", "wire"] (sp_value_of) := by
  refine T.f_value_of.f.ok sc_value_of (fun vs H Q E h => by obtain ⟨_, _, _, e, _⟩ := h; rw [e]; rfl) (fun cdv A outer s H vs Q E hr h => ⟨(d_value_of T  hr).1, PSs.nox (d_value_of T  hr).2, ?_⟩)
  dsimp only [d_value_of, cxOf]
  obtain ⟨v, xs, w, rfl, ⟨l, rfl, hl⟩, w0, w1, q⟩ := h
  rw [show start N_value_of [.ref l, .int w] = [some (.ref l), some (.int w)] from rfl]
  walk_at "go"
  refine g_ite (fun e => ?_) (fun e => ?_)
  · walk_at "go"
    exact q_of q (by rw [e]; rfl)
  · have e2 := valOf_at (vs := xs) (w := w) (by omega) w1
    walk_at "go"
    exact q
end

end K19
set_option maxHeartbeats 4000000
namespace K19
open PySem PySem.Spec PyProof.Rows L2 FabH He
local macro_rules | `(tactic| array_mem_dec) => `(tactic| (first | with_reducible assumption | with_reducible exact SqL.of (by array_get_dec) | with_reducible exact SqT.of (by array_get_dec) | ((repeat (with_reducible first | refine Same.seq (Same.new (by assumption)) ?_ | refine Same.tup (Same.new (by assumption)) ?_)); with_reducible assumption)))
local macro_rules | `(tactic| array_get_dec) => `(tactic| (first | with_reducible assumption | with_reducible exact upd_same | ((repeat (first | with_reducible exact upd_same | ((with_reducible apply at_new); with_reducible assumption) | ((with_reducible apply at_lstT); with_reducible assumption) | ((with_reducible apply at_lstR); with_reducible assumption) | ((with_reducible apply at_set); with_reducible assumption))); done) | ((repeat (first | ((with_reducible apply at_new); with_reducible assumption) | ((with_reducible apply at_lstT); with_reducible assumption) | ((with_reducible apply at_lstR); with_reducible assumption) | ((with_reducible apply at_set); with_reducible assumption))); with_reducible assumption)))
local macro_rules | `(tactic| walk_at "side") => `(tactic| (first | with_reducible assumption | decide | exact MOk.div (by assumption) | exact MOk.div (MOk.of (by decide) (by decide)) | (simp only [List.length_append, List.length_map, List.length_replicate, List.length_cons, List.length_nil, sizeLine_eq, CMul, CDivW, CPow]; omega) | omega))
local macro_rules | `(tactic| walk_at "st") => `(tactic| first
  | with_reducible refine g_cons ?_ | ((with_reducible apply g_var); (first | exact rfl | assumption)) | with_reducible refine g_const ?_ | with_reducible refine g_nil ?_ | with_reducible refine g_op ?_ | with_reducible refine g_rI0 ?_ | with_reducible refine g_seq ?_ | with_reducible refine g_asg ?_ | ((with_reducible refine g_name ?_); dsimp only [List.set_cons_zero, List.set_cons_succ])
  | with_reducible refine g_nx ?_ | with_reducible refine g_rt ?_ | with_reducible refine g_call ?_ | with_reducible refine g_ret ?_ | with_reducible refine g_test ?_ | with_reducible refine g_bl ?_ | with_reducible refine g_cb ?_ | with_reducible refine g_tB ?_ | with_reducible refine g_un ?_ | with_reducible refine g_rU ?_
  | with_reducible refine g_eqi ?_ | with_reducible refine g_int ?_ | with_reducible refine g_and ?_ | with_reducible refine g_or ?_ | with_reducible refine g_not ?_ | with_reducible refine g_drop ?_ | with_reducible refine g_next ?_ | with_reducible refine g_retN ?_ | with_reducible refine g_iteT ?_ | with_reducible refine g_iteF ?_ | with_reducible refine g_iteNT ?_ | with_reducible refine g_iteNF ?_
  | ((with_reducible apply g_ixL); array_mem_dec; (first | exact rfl | assumption)) | ((with_reducible apply g_ixT); array_mem_dec; (first | exact rfl | assumption)) | ((with_reducible apply g_lenL); array_mem_dec) | ((with_reducible apply g_lenT); array_mem_dec) | ((with_reducible apply g_rI); walk_at "side")
  | ((with_reducible apply g_setL); array_get_dec; (first | exact rfl | assumption)) | ((with_reducible apply g_app); array_get_dec; walk_at "side") | with_reducible refine g_tup ?_ | with_reducible refine g_lst ?_ | ((with_reducible apply g_listL); array_mem_dec) | ((with_reducible apply g_listT); array_mem_dec) | ((with_reducible apply g_tupT); array_mem_dec) | ((with_reducible apply g_tupL); array_mem_dec)
  | ((with_reducible apply g_room); walk_at "side") | with_reducible refine g_abs ?_ | with_reducible refine g_chain ?_ | with_reducible refine g_andV ?_ | with_reducible refine g_orV ?_ | with_reducible refine g_notV ?_ | with_reducible refine g_gsub ?_ | ((with_reducible apply g_gtup); array_mem_dec; (first | exact rfl | assumption)) | with_reducible refine g_gcons ?_ | with_reducible refine g_gnil ?_ | with_reducible refine g_bm ?_ | ((with_reducible apply g_tyL); array_mem_dec) | with_reducible refine g_tyS ?_
  | with_reducible refine g_callS ?_ | with_reducible refine g_nei ?_ | with_reducible refine g_eqs ?_ | with_reducible refine g_nes ?_ | with_reducible refine g_eqb ?_ | with_reducible refine g_nonI ?_ | with_reducible refine g_nonN ?_ | with_reducible refine g_nonS ?_ | with_reducible refine g_nonB ?_ | with_reducible refine g_nonR ?_ | with_reducible refine g_isBB ?_ | with_reducible refine g_isBI ?_ | with_reducible refine g_isBS ?_ | with_reducible refine g_isBR ?_ | with_reducible refine g_isBN ?_
  | with_reducible refine g_rng1 ?_ | with_reducible refine g_rng2 ?_ | ((with_reducible apply g_notInR); array_get_dec) | ((with_reducible apply g_inR); array_get_dec) | with_reducible refine g_for ?_ | with_reducible refine g_iList ?_ | with_reducible refine g_iTup ?_ | with_reducible refine g_iR1 ?_ | with_reducible refine g_iEnum ?_ | with_reducible refine g_lc ?_ | with_reducible refine g_yes ?_ | with_reducible refine g_slc ?_ | with_reducible refine g_raise ?_ | with_reducible refine g_exv ?_ | with_reducible refine g_xf ?_ | ((with_reducible apply g_xfe); array_get_dec; (first | exact rfl | assumption)) | with_reducible refine g_part ?_ | with_reducible refine g_nopart ?_ | with_reducible refine g_exi ?_ | with_reducible refine g_brk ?_ | with_reducible refine g_cnt ?_ | with_reducible refine g_bk ?_ | with_reducible refine g_ct ?_ | with_reducible refine g_if ?_
  | with_reducible refine g_augS ?_ | with_reducible refine g_nnR ?_ | with_reducible refine g_nnN ?_ | with_reducible refine g_nnI ?_ | with_reducible refine g_ipI ?_ | ((with_reducible apply g_neL); array_mem_dec; array_mem_dec) | ((with_reducible apply g_eqL); array_mem_dec; array_mem_dec) | ((with_reducible apply g_slL); array_mem_dec) | ((with_reducible apply g_atL); array_mem_dec) | ((with_reducible apply g_atT); array_mem_dec) | ((with_reducible apply g_enum); array_mem_dec) | ((with_reducible apply g_R1); walk_at "side"; walk_at "side")
  | with_reducible refine g_is_int_int ?_ | with_reducible refine g_is_int_bool ?_ | with_reducible refine g_is_int_str ?_ | with_reducible refine g_is_int_dict ?_ | with_reducible refine g_is_int_list ?_ | with_reducible refine g_is_int_tuple ?_ | with_reducible refine g_is_bool_bool ?_ | with_reducible refine g_is_bool_int ?_ | with_reducible refine g_is_str_int ?_ | with_reducible refine g_is_str_str ?_ | with_reducible refine g_is_str_dict ?_ | with_reducible refine g_is_str_list ?_ | with_reducible refine g_is_str_tuple ?_ | ((with_reducible apply g_is_list_int); array_get_dec) | ((with_reducible apply g_is_list_str); array_get_dec) | ((with_reducible apply g_is_list_dict); array_get_dec) | ((with_reducible apply g_is_list_list); array_get_dec) | ((with_reducible apply g_is_list_tuple); array_get_dec) | ((with_reducible apply g_is_tuple_int); array_get_dec) | ((with_reducible apply g_is_tuple_str); array_get_dec) | ((with_reducible apply g_is_tuple_dict); array_get_dec) | ((with_reducible apply g_is_tuple_list); array_get_dec) | ((with_reducible apply g_is_tuple_tuple); array_get_dec) | ((with_reducible apply g_ixSL); array_mem_dec; (first | exact rfl | assumption)) | ((with_reducible apply g_ixST); array_mem_dec; (first | exact rfl | assumption)))
local macro_rules | `(tactic| walk_at "go") => `(tactic| repeat first | with_reducible refine g_ifS ?_ | walk_at "st")
local macro_rules | `(tactic| walk_at "dec") => `(tactic| first | with_reducible assumption | decide | omega)
local macro_rules | `(tactic| walk_at "goD") => `(tactic| repeat first | with_reducible refine g_ifS ?_ | walk_at "st" | ((with_reducible apply g_iteY); walk_at "dec") | ((with_reducible apply g_iteX); walk_at "dec") | ((with_reducible apply g_iteNY); walk_at "dec") | ((with_reducible apply g_iteNX); walk_at "dec"))
local macro_rules | `(tactic| walk_at "goI") => `(tactic| repeat walk_at "st")
section
open FabC
variable {P : Program} {w : World} {K : PySem.W.Frag} {mg : Str → Option Value} {base : Heap}
theorem ok_wire_values (T : Txt P K mg) (G_lookup : FnOk P w K mg base CX0 1 (ga K "lookup") (fdOf K "lookup") ["table", "first", "second"] (sp_lookup)) (G_value_of : FnOk P w K mg base CX0 1 (ga K "value_of") (fdOf K "value_of") ["values", "wire"] (sp_value_of)) : FnOk P w K mg base (L2.CX P w) 3 (ga K "wire_values") (fdOf K "wire_values") ["circuit", "values"] (sp_wire_values K) := by
  refine T.f_wire_values.f.ok sc_wire_values (fun vs H Q E h => by obtain ⟨_, _, _, _, e, _⟩ := h; rw [e]; rfl) (fun cdv A outer s H vs Q E hr h => ⟨(d_wire_values T G_lookup (b_lookup T) G_value_of (b_value_of T) hr).1, (d_wire_values T G_lookup (b_lookup T) G_value_of (b_value_of T) hr).2, ?_⟩)
  dsimp only [d_wire_values, cxOf]
  obtain ⟨u, v, c, xs, rfl, hc, gd, ⟨b, rfl, hs⟩, hb, hz, q1, q2⟩ := h
  obtain ⟨a, ga, ea, vs, rfl, h1, h2, h3, h4⟩ := id hc
  have hq : SqL K H b (xs.map V.int) ∨ SqT K H b (xs.map V.int) := hs.imp .of .of
  have vl := h3.1
  have gg := gd.g
  rw [show start N_wire_values [.ref a, .ref b] = [some (.ref a), some (.ref b), none, none, none, none, none, none, none, none] from rfl]
  walk_at "go"
  refine ⟨b, _, rfl, hq, ?_⟩
  rw [List.length_map]
  walk_at "go"
  refine g_iteN (fun ne => ?_) (fun eq => ?_)
  · walk_at "go"
    refine ⟨b, _, rfl, hq, ?_⟩
    rw [List.length_map]
    walk_at "go"
    exact fun d hd => q2 ne d _ (.new hd) upd_same
  · walk_at "go"
    refine ⟨b, _, rfl, hq, fun l hl => ?_⟩
    walk_at "go"
    refine for_tup (fun i σ H' => ∃ o6 o7 o8 o9, σ = [some (.ref a), some (.ref b), some (.int c.free), some (.ref ga), some (.ref ea), some (.ref l), o6, o7, o8, o9] ∧ Same H H' ∧ H' l = some (.lst ((worths (c.gates.take i) xs).map V.int))) ⟨_, _, _, _, rfl, .new hl, upd_same⟩ (fun i σ H' _ ⟨_, _, _, _, _, sm, _⟩ => .of (sm _ _ h2)) ?_ ?_
    · rintro i x σ H' hx ⟨o6, o7, o8, o9, rfl, sm, hl2⟩
      have hi : i < c.gates.length := by
        have := (List.getElem?_eq_some_iff.mp hx).1
        omega
      obtain ⟨g, hg⟩ : ∃ g, c.gates[i]? = some g := ⟨_, List.getElem?_eq_getElem hi⟩
      obtain ⟨t, rfl, ht⟩ := (h3.2 i x g hx hg).same sm
      have wl := worths_take_length (c := c) (xs := xs) (Nat.le_of_lt hi)
      have gw := gate_wires gd.wf hg
      have wb : Bits (worths (c.gates.take i) xs) := worths_bits hb
      walk_at "go"
      refine ⟨_, _, _, rfl, ⟨l, rfl, hl2⟩, gw.1.1, by omega, ?_⟩
      walk_at "go"
      refine ⟨_, _, _, rfl, ⟨l, rfl, hl2⟩, gw.2.1, by omega, ?_⟩
      walk_at "go"
      refine ⟨_, _, _, rfl, valOf_bit wb _, valOf_bit wb _, ?_⟩
      walk_at "go"
      exact ⟨_, _, _, _, rfl, Same.setNew sm hl, by rw [upd_same, worths_take hg]; simp⟩
    · rintro σ H' ⟨o6, o7, o8, o9, rfl, sm, hl2⟩
      walk_at "go"
      rw [vl, take_all] at hl2
      exact q1 eq _ _ sm ⟨l, rfl, hl, hl2⟩
end

end K19
set_option maxHeartbeats 4000000
namespace K19
open PySem PySem.Spec PyProof.Rows L2 FabH He
local macro_rules | `(tactic| array_mem_dec) => `(tactic| (first | with_reducible assumption | with_reducible exact SqL.of (by array_get_dec) | with_reducible exact SqT.of (by array_get_dec) | ((repeat (with_reducible first | refine Same.seq (Same.new (by assumption)) ?_ | refine Same.tup (Same.new (by assumption)) ?_)); with_reducible assumption)))
local macro_rules | `(tactic| array_get_dec) => `(tactic| (first | with_reducible assumption | with_reducible exact upd_same | ((repeat (first | with_reducible exact upd_same | ((with_reducible apply at_new); with_reducible assumption) | ((with_reducible apply at_lstT); with_reducible assumption) | ((with_reducible apply at_lstR); with_reducible assumption) | ((with_reducible apply at_set); with_reducible assumption))); done) | ((repeat (first | ((with_reducible apply at_new); with_reducible assumption) | ((with_reducible apply at_lstT); with_reducible assumption) | ((with_reducible apply at_lstR); with_reducible assumption) | ((with_reducible apply at_set); with_reducible assumption))); with_reducible assumption)))
local macro_rules | `(tactic| walk_at "side") => `(tactic| (first | with_reducible assumption | decide | exact MOk.div (by assumption) | exact MOk.div (MOk.of (by decide) (by decide)) | (simp only [List.length_append, List.length_map, List.length_replicate, List.length_cons, List.length_nil, sizeLine_eq, CMul, CDivW, CPow]; omega) | omega))
local macro_rules | `(tactic| walk_at "st") => `(tactic| first
  | with_reducible refine g_cons ?_ | ((with_reducible apply g_var); (first | exact rfl | assumption)) | with_reducible refine g_const ?_ | with_reducible refine g_nil ?_ | with_reducible refine g_op ?_ | with_reducible refine g_rI0 ?_ | with_reducible refine g_seq ?_ | with_reducible refine g_asg ?_ | ((with_reducible refine g_name ?_); dsimp only [List.set_cons_zero, List.set_cons_succ])
  | with_reducible refine g_nx ?_ | with_reducible refine g_rt ?_ | with_reducible refine g_call ?_ | with_reducible refine g_ret ?_ | with_reducible refine g_test ?_ | with_reducible refine g_bl ?_ | with_reducible refine g_cb ?_ | with_reducible refine g_tB ?_ | with_reducible refine g_un ?_ | with_reducible refine g_rU ?_
  | with_reducible refine g_eqi ?_ | with_reducible refine g_int ?_ | with_reducible refine g_and ?_ | with_reducible refine g_or ?_ | with_reducible refine g_not ?_ | with_reducible refine g_drop ?_ | with_reducible refine g_next ?_ | with_reducible refine g_retN ?_ | with_reducible refine g_iteT ?_ | with_reducible refine g_iteF ?_ | with_reducible refine g_iteNT ?_ | with_reducible refine g_iteNF ?_
  | ((with_reducible apply g_ixL); array_mem_dec; (first | exact rfl | assumption)) | ((with_reducible apply g_ixT); array_mem_dec; (first | exact rfl | assumption)) | ((with_reducible apply g_lenL); array_mem_dec) | ((with_reducible apply g_lenT); array_mem_dec) | ((with_reducible apply g_rI); walk_at "side")
  | ((with_reducible apply g_setL); array_get_dec; (first | exact rfl | assumption)) | ((with_reducible apply g_app); array_get_dec; walk_at "side") | with_reducible refine g_tup ?_ | with_reducible refine g_lst ?_ | ((with_reducible apply g_listL); array_mem_dec) | ((with_reducible apply g_listT); array_mem_dec) | ((with_reducible apply g_tupT); array_mem_dec) | ((with_reducible apply g_tupL); array_mem_dec)
  | ((with_reducible apply g_room); walk_at "side") | with_reducible refine g_abs ?_ | with_reducible refine g_chain ?_ | with_reducible refine g_andV ?_ | with_reducible refine g_orV ?_ | with_reducible refine g_notV ?_ | with_reducible refine g_gsub ?_ | ((with_reducible apply g_gtup); array_mem_dec; (first | exact rfl | assumption)) | with_reducible refine g_gcons ?_ | with_reducible refine g_gnil ?_ | with_reducible refine g_bm ?_ | ((with_reducible apply g_tyL); array_mem_dec) | with_reducible refine g_tyS ?_
  | with_reducible refine g_callS ?_ | with_reducible refine g_nei ?_ | with_reducible refine g_eqs ?_ | with_reducible refine g_nes ?_ | with_reducible refine g_eqb ?_ | with_reducible refine g_nonI ?_ | with_reducible refine g_nonN ?_ | with_reducible refine g_nonS ?_ | with_reducible refine g_nonB ?_ | with_reducible refine g_nonR ?_ | with_reducible refine g_isBB ?_ | with_reducible refine g_isBI ?_ | with_reducible refine g_isBS ?_ | with_reducible refine g_isBR ?_ | with_reducible refine g_isBN ?_
  | with_reducible refine g_rng1 ?_ | with_reducible refine g_rng2 ?_ | ((with_reducible apply g_notInR); array_get_dec) | ((with_reducible apply g_inR); array_get_dec) | with_reducible refine g_for ?_ | with_reducible refine g_iList ?_ | with_reducible refine g_iTup ?_ | with_reducible refine g_iR1 ?_ | with_reducible refine g_iEnum ?_ | with_reducible refine g_lc ?_ | with_reducible refine g_yes ?_ | with_reducible refine g_slc ?_ | with_reducible refine g_raise ?_ | with_reducible refine g_exv ?_ | with_reducible refine g_xf ?_ | ((with_reducible apply g_xfe); array_get_dec; (first | exact rfl | assumption)) | with_reducible refine g_part ?_ | with_reducible refine g_nopart ?_ | with_reducible refine g_exi ?_ | with_reducible refine g_brk ?_ | with_reducible refine g_cnt ?_ | with_reducible refine g_bk ?_ | with_reducible refine g_ct ?_ | with_reducible refine g_if ?_
  | with_reducible refine g_augS ?_ | with_reducible refine g_nnR ?_ | with_reducible refine g_nnN ?_ | with_reducible refine g_nnI ?_ | with_reducible refine g_ipI ?_ | ((with_reducible apply g_neL); array_mem_dec; array_mem_dec) | ((with_reducible apply g_eqL); array_mem_dec; array_mem_dec) | ((with_reducible apply g_slL); array_mem_dec) | ((with_reducible apply g_atL); array_mem_dec) | ((with_reducible apply g_atT); array_mem_dec) | ((with_reducible apply g_enum); array_mem_dec) | ((with_reducible apply g_R1); walk_at "side"; walk_at "side")
  | with_reducible refine g_is_int_int ?_ | with_reducible refine g_is_int_bool ?_ | with_reducible refine g_is_int_str ?_ | with_reducible refine g_is_int_dict ?_ | with_reducible refine g_is_int_list ?_ | with_reducible refine g_is_int_tuple ?_ | with_reducible refine g_is_bool_bool ?_ | with_reducible refine g_is_bool_int ?_ | with_reducible refine g_is_str_int ?_ | with_reducible refine g_is_str_str ?_ | with_reducible refine g_is_str_dict ?_ | with_reducible refine g_is_str_list ?_ | with_reducible refine g_is_str_tuple ?_ | ((with_reducible apply g_is_list_int); array_get_dec) | ((with_reducible apply g_is_list_str); array_get_dec) | ((with_reducible apply g_is_list_dict); array_get_dec) | ((with_reducible apply g_is_list_list); array_get_dec) | ((with_reducible apply g_is_list_tuple); array_get_dec) | ((with_reducible apply g_is_tuple_int); array_get_dec) | ((with_reducible apply g_is_tuple_str); array_get_dec) | ((with_reducible apply g_is_tuple_dict); array_get_dec) | ((with_reducible apply g_is_tuple_list); array_get_dec) | ((with_reducible apply g_is_tuple_tuple); array_get_dec) | ((with_reducible apply g_ixSL); array_mem_dec; (first | exact rfl | assumption)) | ((with_reducible apply g_ixST); array_mem_dec; (first | exact rfl | assumption)))
local macro_rules | `(tactic| walk_at "go") => `(tactic| repeat first | with_reducible refine g_ifS ?_ | walk_at "st")
local macro_rules | `(tactic| walk_at "dec") => `(tactic| first | with_reducible assumption | decide | omega)
local macro_rules | `(tactic| walk_at "goD") => `(tactic| repeat first | with_reducible refine g_ifS ?_ | walk_at "st" | ((with_reducible apply g_iteY); walk_at "dec") | ((with_reducible apply g_iteX); walk_at "dec") | ((with_reducible apply g_iteNY); walk_at "dec") | ((with_reducible apply g_iteNX); walk_at "dec"))
local macro_rules | `(tactic| walk_at "goI") => `(tactic| repeat walk_at "st")
section
open FabC
variable {P : Program} {w : World} {K : PySem.W.Frag} {mg : Str → Option Value} {base : Heap}
theorem ok_evaluate (T : Txt P K mg) (G_value_of : FnOk P w K mg base CX0 1 (ga K "value_of") (fdOf K "value_of") ["values", "wire"] (sp_value_of)) (G_wire_values : FnOk P w K mg base (L2.CX P w) 3 (ga K "wire_values") (fdOf K "wire_values") ["circuit", "values"] (sp_wire_values K)) : FnOk P w K mg base (L2.CX P w) 4 (ga K "evaluate") (fdOf K "evaluate") ["circuit", "values"] (sp_evaluate K) := by
  refine T.f_evaluate.f.ok sc_evaluate (fun vs H Q E h => by obtain ⟨_, _, _, _, e, _⟩ := h; rw [e]; rfl) (fun cdv A outer s H vs Q E hr h => ⟨(d_evaluate T G_value_of (b_value_of T) G_wire_values (b_wire_values T) hr).1, (d_evaluate T G_value_of (b_value_of T) G_wire_values (b_wire_values T) hr).2, ?_⟩)
  dsimp only [d_evaluate, cxOf]
  obtain ⟨u, v, c, xs, rfl, hc, gd, hs, hb, hz, q1, q2⟩ := h
  obtain ⟨a, ga, ea, vs, rfl, h1, h2, h3, h4⟩ := id hc
  have ge := gd.e
  rw [show start N_evaluate [.ref a, v] = [some (.ref a), some (v), none, none] from rfl]
  walk_at "go"
  refine ⟨_, _, c, xs, rfl, hc, gd, hs, hb, hz, fun eq w H1 s1 hw => ?_, q2⟩
  obtain ⟨l, rfl, nl, hl⟩ := hw
  have h1' := s1 _ _ h1
  have h4' := s1 _ _ h4
  walk_at "go"
  intro D hD
  refine lc_tup (fun i H2 => Same H1 H2 ∧ H2 D = some (.lst (((c.ends.take i).map (valOf (worths c.gates xs))).map V.int))) ⟨.new hD, upd_same⟩ (fun i H2 _ ⟨s2, _⟩ => .of (s2 _ _ h4')) ?_ ?_
  · rintro i x H2 hx ⟨s2, hD2⟩
    rw [List.getElem?_map] at hx
    obtain ⟨z, hz2, rfl⟩ := Option.map_eq_some_iff.mp hx
    have zw := wireOk_iff.mp (gd.wf.e i z hz2)
    have wl := worths_length c.gates xs
    have il := (List.getElem?_eq_some_iff.mp hz2).1
    dsimp only [wipe, List.map]
    walk_at "go"
    refine ⟨rfl, ?_⟩
    walk_at "go"
    refine ⟨_, _, _, rfl, ⟨l, rfl, s2 _ _ hl⟩, zw.1, by omega, ?_⟩
    exact ⟨_, hD2, by rw [List.length_map, List.length_map, List.length_take, sizeLine_eq]; omega, Same.setNew s2 hD, by rw [upd_same, take_snoc hz2]; simp⟩
  · rintro H2 ⟨s2, hD2⟩
    rw [List.length_map, take_all] at hD2
    walk_at "go"
    exact q1 eq _ _ (s1.trans s2) ⟨D, rfl, s1.free hD, hD2⟩
end

end K19
set_option maxHeartbeats 4000000
namespace K19
open PySem PySem.Spec PyProof.Rows L2 FabH He
local macro_rules | `(tactic| array_mem_dec) => `(tactic| (first | with_reducible assumption | with_reducible exact SqL.of (by array_get_dec) | with_reducible exact SqT.of (by array_get_dec) | ((repeat (with_reducible first | refine Same.seq (Same.new (by assumption)) ?_ | refine Same.tup (Same.new (by assumption)) ?_)); with_reducible assumption)))
local macro_rules | `(tactic| array_get_dec) => `(tactic| (first | with_reducible assumption | with_reducible exact upd_same | ((repeat (first | with_reducible exact upd_same | ((with_reducible apply at_new); with_reducible assumption) | ((with_reducible apply at_lstT); with_reducible assumption) | ((with_reducible apply at_lstR); with_reducible assumption) | ((with_reducible apply at_set); with_reducible assumption))); done) | ((repeat (first | ((with_reducible apply at_new); with_reducible assumption) | ((with_reducible apply at_lstT); with_reducible assumption) | ((with_reducible apply at_lstR); with_reducible assumption) | ((with_reducible apply at_set); with_reducible assumption))); with_reducible assumption)))
local macro_rules | `(tactic| walk_at "side") => `(tactic| (first | with_reducible assumption | decide | exact MOk.div (by assumption) | exact MOk.div (MOk.of (by decide) (by decide)) | (simp only [List.length_append, List.length_map, List.length_replicate, List.length_cons, List.length_nil, sizeLine_eq, CMul, CDivW, CPow]; omega) | omega))
local macro_rules | `(tactic| walk_at "st") => `(tactic| first
  | with_reducible refine g_cons ?_ | ((with_reducible apply g_var); (first | exact rfl | assumption)) | with_reducible refine g_const ?_ | with_reducible refine g_nil ?_ | with_reducible refine g_op ?_ | with_reducible refine g_rI0 ?_ | with_reducible refine g_seq ?_ | with_reducible refine g_asg ?_ | ((with_reducible refine g_name ?_); dsimp only [List.set_cons_zero, List.set_cons_succ])
  | with_reducible refine g_nx ?_ | with_reducible refine g_rt ?_ | with_reducible refine g_call ?_ | with_reducible refine g_ret ?_ | with_reducible refine g_test ?_ | with_reducible refine g_bl ?_ | with_reducible refine g_cb ?_ | with_reducible refine g_tB ?_ | with_reducible refine g_un ?_ | with_reducible refine g_rU ?_
  | with_reducible refine g_eqi ?_ | with_reducible refine g_int ?_ | with_reducible refine g_and ?_ | with_reducible refine g_or ?_ | with_reducible refine g_not ?_ | with_reducible refine g_drop ?_ | with_reducible refine g_next ?_ | with_reducible refine g_retN ?_ | with_reducible refine g_iteT ?_ | with_reducible refine g_iteF ?_ | with_reducible refine g_iteNT ?_ | with_reducible refine g_iteNF ?_
  | ((with_reducible apply g_ixL); array_mem_dec; (first | exact rfl | assumption)) | ((with_reducible apply g_ixT); array_mem_dec; (first | exact rfl | assumption)) | ((with_reducible apply g_lenL); array_mem_dec) | ((with_reducible apply g_lenT); array_mem_dec) | ((with_reducible apply g_rI); walk_at "side")
  | ((with_reducible apply g_setL); array_get_dec; (first | exact rfl | assumption)) | ((with_reducible apply g_app); array_get_dec; walk_at "side") | with_reducible refine g_tup ?_ | with_reducible refine g_lst ?_ | ((with_reducible apply g_listL); array_mem_dec) | ((with_reducible apply g_listT); array_mem_dec) | ((with_reducible apply g_tupT); array_mem_dec) | ((with_reducible apply g_tupL); array_mem_dec)
  | ((with_reducible apply g_room); walk_at "side") | with_reducible refine g_abs ?_ | with_reducible refine g_chain ?_ | with_reducible refine g_andV ?_ | with_reducible refine g_orV ?_ | with_reducible refine g_notV ?_ | with_reducible refine g_gsub ?_ | ((with_reducible apply g_gtup); array_mem_dec; (first | exact rfl | assumption)) | with_reducible refine g_gcons ?_ | with_reducible refine g_gnil ?_ | with_reducible refine g_bm ?_ | ((with_reducible apply g_tyL); array_mem_dec) | with_reducible refine g_tyS ?_
  | with_reducible refine g_callS ?_ | with_reducible refine g_nei ?_ | with_reducible refine g_eqs ?_ | with_reducible refine g_nes ?_ | with_reducible refine g_eqb ?_ | with_reducible refine g_nonI ?_ | with_reducible refine g_nonN ?_ | with_reducible refine g_nonS ?_ | with_reducible refine g_nonB ?_ | with_reducible refine g_nonR ?_ | with_reducible refine g_isBB ?_ | with_reducible refine g_isBI ?_ | with_reducible refine g_isBS ?_ | with_reducible refine g_isBR ?_ | with_reducible refine g_isBN ?_
  | with_reducible refine g_rng1 ?_ | with_reducible refine g_rng2 ?_ | ((with_reducible apply g_notInR); array_get_dec) | ((with_reducible apply g_inR); array_get_dec) | with_reducible refine g_for ?_ | with_reducible refine g_iList ?_ | with_reducible refine g_iTup ?_ | with_reducible refine g_iR1 ?_ | with_reducible refine g_iEnum ?_ | with_reducible refine g_lc ?_ | with_reducible refine g_yes ?_ | with_reducible refine g_slc ?_ | with_reducible refine g_raise ?_ | with_reducible refine g_exv ?_ | with_reducible refine g_xf ?_ | ((with_reducible apply g_xfe); array_get_dec; (first | exact rfl | assumption)) | with_reducible refine g_part ?_ | with_reducible refine g_nopart ?_ | with_reducible refine g_exi ?_ | with_reducible refine g_brk ?_ | with_reducible refine g_cnt ?_ | with_reducible refine g_bk ?_ | with_reducible refine g_ct ?_ | with_reducible refine g_if ?_
  | with_reducible refine g_augS ?_ | with_reducible refine g_nnR ?_ | with_reducible refine g_nnN ?_ | with_reducible refine g_nnI ?_ | with_reducible refine g_ipI ?_ | ((with_reducible apply g_neL); array_mem_dec; array_mem_dec) | ((with_reducible apply g_eqL); array_mem_dec; array_mem_dec) | ((with_reducible apply g_slL); array_mem_dec) | ((with_reducible apply g_atL); array_mem_dec) | ((with_reducible apply g_atT); array_mem_dec) | ((with_reducible apply g_enum); array_mem_dec) | ((with_reducible apply g_R1); walk_at "side"; walk_at "side")
  | with_reducible refine g_is_int_int ?_ | with_reducible refine g_is_int_bool ?_ | with_reducible refine g_is_int_str ?_ | with_reducible refine g_is_int_dict ?_ | with_reducible refine g_is_int_list ?_ | with_reducible refine g_is_int_tuple ?_ | with_reducible refine g_is_bool_bool ?_ | with_reducible refine g_is_bool_int ?_ | with_reducible refine g_is_str_int ?_ | with_reducible refine g_is_str_str ?_ | with_reducible refine g_is_str_dict ?_ | with_reducible refine g_is_str_list ?_ | with_reducible refine g_is_str_tuple ?_ | ((with_reducible apply g_is_list_int); array_get_dec) | ((with_reducible apply g_is_list_str); array_get_dec) | ((with_reducible apply g_is_list_dict); array_get_dec) | ((with_reducible apply g_is_list_list); array_get_dec) | ((with_reducible apply g_is_list_tuple); array_get_dec) | ((with_reducible apply g_is_tuple_int); array_get_dec) | ((with_reducible apply g_is_tuple_str); array_get_dec) | ((with_reducible apply g_is_tuple_dict); array_get_dec) | ((with_reducible apply g_is_tuple_list); array_get_dec) | ((with_reducible apply g_is_tuple_tuple); array_get_dec) | ((with_reducible apply g_ixSL); array_mem_dec; (first | exact rfl | assumption)) | ((with_reducible apply g_ixST); array_mem_dec; (first | exact rfl | assumption)))
local macro_rules | `(tactic| walk_at "go") => `(tactic| repeat first | with_reducible refine g_ifS ?_ | walk_at "st")
local macro_rules | `(tactic| walk_at "dec") => `(tactic| first | with_reducible assumption | decide | omega)
local macro_rules | `(tactic| walk_at "goD") => `(tactic| repeat first | with_reducible refine g_ifS ?_ | walk_at "st" | ((with_reducible apply g_iteY); walk_at "dec") | ((with_reducible apply g_iteX); walk_at "dec") | ((with_reducible apply g_iteNY); walk_at "dec") | ((with_reducible apply g_iteNX); walk_at "dec"))
local macro_rules | `(tactic| walk_at "goI") => `(tactic| repeat walk_at "st")
section
open FabC
variable {P : Program} {w : World} {K : PySem.W.Frag} {mg : Str → Option Value} {base : Heap}
theorem ok_reader_counts (T : Txt P K mg)  : FnOk P w K mg base CX0 1 (ga K "reader_counts") (fdOf K "reader_counts") ["circuit"] (sp_reader_counts) := by
  refine T.f_reader_counts.f.ok sc_reader_counts (fun vs H Q E h => by obtain ⟨_, _, e, _⟩ := h; rw [e]; rfl) (fun cdv A outer s H vs Q E hr h => ⟨(d_reader_counts T  hr).1, PSs.nox (d_reader_counts T  hr).2, ?_⟩)
  dsimp only [d_reader_counts, cxOf]
  obtain ⟨u, c, rfl, hc, gd, q⟩ := h
  obtain ⟨a, ga, ea, vs, rfl, h1, h2, h3, h4⟩ := id hc
  have vl := h3.1
  have gg := gd.g
  have gf := gd.f
  have f0 := gd.wf.f0
  rw [show start N_reader_counts [.ref a] = [some (.ref a), none, none, none, none, none, none, none, none] from rfl]
  walk_at "go"
  intro l0 hl0
  walk_at "go"
  refine g_repL upd_same (by omega) (by omega) (fun l hl => ?_)
  have s1 := (Same.new (x := .lst [.int 0]) hl0).then (x := .lst (List.replicate (c.free + (vs.length : Nat)).toNat (.int 0))) hl
  have fl : H l = none := free_of hl
  have hcs : upd (upd H l0 (.lst [.int 0])) l (.lst (List.replicate (c.free + (vs.length : Nat)).toNat (.int 0))) l = some (.lst ((List.replicate (c.free + (c.gates.length : Nat)).toNat (0 : Int)).map V.int)) := by rw [upd_same, List.map_replicate, vl]
  generalize upd (upd H l0 (.lst [.int 0])) l (.lst (List.replicate (c.free + (vs.length : Nat)).toNat (.int 0))) = H1 at *
  have h2' := s1 _ _ h2
  have clen : ∀ gs : List Gate, ((gs.foldl cntG (List.replicate (c.free + (c.gates.length : Nat)).toNat (0 : Int))).length : Int) = c.free + (c.gates.length : Nat) := fun gs => by rw [cntG_length, List.length_replicate]; omega
  walk_at "go"
  refine for_tup (fun i σ H' => ∃ o5 o6 o7 o8, σ = [some (.ref a), some (.int c.free), some (.ref ga), some (.ref ea), some (.ref l), o5, o6, o7, o8] ∧ Same H H' ∧ H' l = some (.lst (((c.gates.take i).foldl cntG (List.replicate (c.free + (c.gates.length : Nat)).toNat 0)).map V.int))) ⟨_, _, _, _, rfl, s1, hcs⟩ (fun i σ H' _ ⟨_, _, _, _, _, sm, _⟩ => .of (sm _ _ h2)) ?_ ?_
  · rintro i x σ H' hx ⟨o5, o6, o7, o8, rfl, sm, hl2⟩
    have hi : i < c.gates.length := by
      have := (List.getElem?_eq_some_iff.mp hx).1
      omega
    obtain ⟨g, hg⟩ : ∃ g, c.gates[i]? = some g := ⟨_, List.getElem?_eq_getElem hi⟩
    obtain ⟨t, rfl, ht⟩ := (h3.2 i x g hx hg).same sm
    have cl := clen (c.gates.take i)
    generalize hcs0 : (c.gates.take i).foldl cntG (List.replicate (c.free + (c.gates.length : Nat)).toNat 0) = cs at *
    walk_at "go"
    intro p hp
    walk_at "go"
    refine for_tup (fun j σ H2 => ∃ o8, σ = [some (.ref a), some (.int c.free), some (.ref ga), some (.ref ea), some (.ref l), some (.int g.1), some (.int g.2.1), some (.int g.2.2), o8] ∧ Same H H2 ∧ H2 p = some (.tup [.int g.2.1, .int g.2.2]) ∧ H2 l = some (.lst ((([g.2.1, g.2.2].take j).foldl incr cs).map V.int))) ⟨_, rfl, sm.then hp, upd_same, at_new hp hl2⟩ (fun j σ H2 _ ⟨_, _, _, h, _⟩ => .of h) ?_ ?_
    · rintro j y σ H2 hy ⟨o8, rfl, sm2, hp2, hl3⟩
      obtain ⟨z, rfl, hz, hz2⟩ : ∃ z, y = V.int z ∧ [g.2.1, g.2.2][j]? = some z ∧ (z = g.2.1 ∨ z = g.2.2) := by
        match j, hy with
        | 0, hy => exact ⟨_, (Option.some.inj hy).symm, rfl, .inl rfl⟩
        | 1, hy => exact ⟨_, (Option.some.inj hy).symm, rfl, .inr rfl⟩
      have zw := gate_wire gd.wf hg hz2
      have cl2 := incrs_length ([g.2.1, g.2.2].take j) cs
      walk_at "go"
      refine g_iteN (fun ne => ?_) (fun eq => ?_)
      · have e1 := cnt_at (cs := ([g.2.1, g.2.2].take j).foldl incr cs) (w := z) (by omega) (by omega)
        have e2 := cnt_ix (cs := ([g.2.1, g.2.2].take j).foldl incr cs) (w := z) (by omega) (by omega)
        walk_at "go"
        refine ⟨_, rfl, Same.setNew sm2 fl, at_lstT hl3 hp2, ?_⟩
        rw [upd_same, foldl_take incr cs hz, incr_at ne, List.map_set]
      · walk_at "go"
        refine ⟨_, rfl, sm2, hp2, ?_⟩
        rw [foldl_take incr cs hz, eq]
        exact hl3
    · rintro σ H2 ⟨o8, rfl, sm2, hp2, hl3⟩
      walk_at "go"
      refine ⟨_, _, _, _, rfl, sm2, ?_⟩
      rw [foldl_take cntG _ hg, hcs0]
      exact hl3
  · rintro σ H' ⟨o5, o6, o7, o8, rfl, sm, hl2⟩
    have h4' := sm _ _ h4
    rw [vl, take_all] at hl2
    have cl := clen c.gates
    walk_at "go"
    refine for_tup (fun j σ H2 => ∃ o8, σ = [some (.ref a), some (.int c.free), some (.ref ga), some (.ref ea), some (.ref l), o5, o6, o7, o8] ∧ Same H H2 ∧ H2 l = some (.lst (((c.ends.take j).foldl incr (c.gates.foldl cntG (List.replicate (c.free + (c.gates.length : Nat)).toNat 0))).map V.int))) ⟨_, rfl, sm, hl2⟩ (fun j σ H2 _ ⟨_, _, sm2, _⟩ => .of (sm2 _ _ h4)) ?_ ?_
    · rintro j y σ H2 hy ⟨o8, rfl, sm2, hl3⟩
      rw [List.getElem?_map] at hy
      obtain ⟨z, hz, rfl⟩ := Option.map_eq_some_iff.mp hy
      have zw := end_wire gd.wf hz
      have cl2 := incrs_length (c.ends.take j) (c.gates.foldl cntG (List.replicate (c.free + (c.gates.length : Nat)).toNat 0))
      walk_at "go"
      refine g_iteN (fun ne => ?_) (fun eq => ?_)
      · have e1 := cnt_at (cs := (c.ends.take j).foldl incr (c.gates.foldl cntG (List.replicate (c.free + (c.gates.length : Nat)).toNat 0))) (w := z) (by omega) (by omega)
        have e2 := cnt_ix (cs := (c.ends.take j).foldl incr (c.gates.foldl cntG (List.replicate (c.free + (c.gates.length : Nat)).toNat 0))) (w := z) (by omega) (by omega)
        walk_at "go"
        refine ⟨_, rfl, Same.setNew sm2 fl, ?_⟩
        rw [upd_same, foldl_take incr _ hz, incr_at ne, List.map_set]
      · walk_at "go"
        refine ⟨_, rfl, sm2, ?_⟩
        rw [foldl_take incr _ hz, eq]
        exact hl3
    · rintro σ H2 ⟨o8, rfl, sm2, hl3⟩
      walk_at "go"
      rw [List.length_map, take_all] at hl3
      exact q _ _ sm2 ⟨l, rfl, fl, hl3⟩
end

end K19
set_option maxHeartbeats 4000000
namespace K19
open PySem PySem.Spec PyProof.Rows L2 FabH He
local macro_rules | `(tactic| array_mem_dec) => `(tactic| (first | with_reducible assumption | with_reducible exact SqL.of (by array_get_dec) | with_reducible exact SqT.of (by array_get_dec) | ((repeat (with_reducible first | refine Same.seq (Same.new (by assumption)) ?_ | refine Same.tup (Same.new (by assumption)) ?_)); with_reducible assumption)))
local macro_rules | `(tactic| array_get_dec) => `(tactic| (first | with_reducible assumption | with_reducible exact upd_same | ((repeat (first | with_reducible exact upd_same | ((with_reducible apply at_new); with_reducible assumption) | ((with_reducible apply at_lstT); with_reducible assumption) | ((with_reducible apply at_lstR); with_reducible assumption) | ((with_reducible apply at_set); with_reducible assumption))); done) | ((repeat (first | ((with_reducible apply at_new); with_reducible assumption) | ((with_reducible apply at_lstT); with_reducible assumption) | ((with_reducible apply at_lstR); with_reducible assumption) | ((with_reducible apply at_set); with_reducible assumption))); with_reducible assumption)))
local macro_rules | `(tactic| walk_at "side") => `(tactic| (first | with_reducible assumption | decide | exact MOk.div (by assumption) | exact MOk.div (MOk.of (by decide) (by decide)) | (simp only [List.length_append, List.length_map, List.length_replicate, List.length_cons, List.length_nil, sizeLine_eq, CMul, CDivW, CPow]; omega) | omega))
local macro_rules | `(tactic| walk_at "st") => `(tactic| first
  | with_reducible refine g_cons ?_ | ((with_reducible apply g_var); (first | exact rfl | assumption)) | with_reducible refine g_const ?_ | with_reducible refine g_nil ?_ | with_reducible refine g_op ?_ | with_reducible refine g_rI0 ?_ | with_reducible refine g_seq ?_ | with_reducible refine g_asg ?_ | ((with_reducible refine g_name ?_); dsimp only [List.set_cons_zero, List.set_cons_succ])
  | with_reducible refine g_nx ?_ | with_reducible refine g_rt ?_ | with_reducible refine g_call ?_ | with_reducible refine g_ret ?_ | with_reducible refine g_test ?_ | with_reducible refine g_bl ?_ | with_reducible refine g_cb ?_ | with_reducible refine g_tB ?_ | with_reducible refine g_un ?_ | with_reducible refine g_rU ?_
  | with_reducible refine g_eqi ?_ | with_reducible refine g_int ?_ | with_reducible refine g_and ?_ | with_reducible refine g_or ?_ | with_reducible refine g_not ?_ | with_reducible refine g_drop ?_ | with_reducible refine g_next ?_ | with_reducible refine g_retN ?_ | with_reducible refine g_iteT ?_ | with_reducible refine g_iteF ?_ | with_reducible refine g_iteNT ?_ | with_reducible refine g_iteNF ?_
  | ((with_reducible apply g_ixL); array_mem_dec; (first | exact rfl | assumption)) | ((with_reducible apply g_ixT); array_mem_dec; (first | exact rfl | assumption)) | ((with_reducible apply g_lenL); array_mem_dec) | ((with_reducible apply g_lenT); array_mem_dec) | ((with_reducible apply g_rI); walk_at "side")
  | ((with_reducible apply g_setL); array_get_dec; (first | exact rfl | assumption)) | ((with_reducible apply g_app); array_get_dec; walk_at "side") | with_reducible refine g_tup ?_ | with_reducible refine g_lst ?_ | ((with_reducible apply g_listL); array_mem_dec) | ((with_reducible apply g_listT); array_mem_dec) | ((with_reducible apply g_tupT); array_mem_dec) | ((with_reducible apply g_tupL); array_mem_dec)
  | ((with_reducible apply g_room); walk_at "side") | with_reducible refine g_abs ?_ | with_reducible refine g_chain ?_ | with_reducible refine g_andV ?_ | with_reducible refine g_orV ?_ | with_reducible refine g_notV ?_ | with_reducible refine g_gsub ?_ | ((with_reducible apply g_gtup); array_mem_dec; (first | exact rfl | assumption)) | with_reducible refine g_gcons ?_ | with_reducible refine g_gnil ?_ | with_reducible refine g_bm ?_ | ((with_reducible apply g_tyL); array_mem_dec) | with_reducible refine g_tyS ?_
  | with_reducible refine g_callS ?_ | with_reducible refine g_nei ?_ | with_reducible refine g_eqs ?_ | with_reducible refine g_nes ?_ | with_reducible refine g_eqb ?_ | with_reducible refine g_nonI ?_ | with_reducible refine g_nonN ?_ | with_reducible refine g_nonS ?_ | with_reducible refine g_nonB ?_ | with_reducible refine g_nonR ?_ | with_reducible refine g_isBB ?_ | with_reducible refine g_isBI ?_ | with_reducible refine g_isBS ?_ | with_reducible refine g_isBR ?_ | with_reducible refine g_isBN ?_
  | with_reducible refine g_rng1 ?_ | with_reducible refine g_rng2 ?_ | ((with_reducible apply g_notInR); array_get_dec) | ((with_reducible apply g_inR); array_get_dec) | with_reducible refine g_for ?_ | with_reducible refine g_iList ?_ | with_reducible refine g_iTup ?_ | with_reducible refine g_iR1 ?_ | with_reducible refine g_iEnum ?_ | with_reducible refine g_lc ?_ | with_reducible refine g_yes ?_ | with_reducible refine g_slc ?_ | with_reducible refine g_raise ?_ | with_reducible refine g_exv ?_ | with_reducible refine g_xf ?_ | ((with_reducible apply g_xfe); array_get_dec; (first | exact rfl | assumption)) | with_reducible refine g_part ?_ | with_reducible refine g_nopart ?_ | with_reducible refine g_exi ?_ | with_reducible refine g_brk ?_ | with_reducible refine g_cnt ?_ | with_reducible refine g_bk ?_ | with_reducible refine g_ct ?_ | with_reducible refine g_if ?_
  | with_reducible refine g_augS ?_ | with_reducible refine g_nnR ?_ | with_reducible refine g_nnN ?_ | with_reducible refine g_nnI ?_ | with_reducible refine g_ipI ?_ | ((with_reducible apply g_neL); array_mem_dec; array_mem_dec) | ((with_reducible apply g_eqL); array_mem_dec; array_mem_dec) | ((with_reducible apply g_slL); array_mem_dec) | ((with_reducible apply g_atL); array_mem_dec) | ((with_reducible apply g_atT); array_mem_dec) | ((with_reducible apply g_enum); array_mem_dec) | ((with_reducible apply g_R1); walk_at "side"; walk_at "side")
  | with_reducible refine g_is_int_int ?_ | with_reducible refine g_is_int_bool ?_ | with_reducible refine g_is_int_str ?_ | with_reducible refine g_is_int_dict ?_ | with_reducible refine g_is_int_list ?_ | with_reducible refine g_is_int_tuple ?_ | with_reducible refine g_is_bool_bool ?_ | with_reducible refine g_is_bool_int ?_ | with_reducible refine g_is_str_int ?_ | with_reducible refine g_is_str_str ?_ | with_reducible refine g_is_str_dict ?_ | with_reducible refine g_is_str_list ?_ | with_reducible refine g_is_str_tuple ?_ | ((with_reducible apply g_is_list_int); array_get_dec) | ((with_reducible apply g_is_list_str); array_get_dec) | ((with_reducible apply g_is_list_dict); array_get_dec) | ((with_reducible apply g_is_list_list); array_get_dec) | ((with_reducible apply g_is_list_tuple); array_get_dec) | ((with_reducible apply g_is_tuple_int); array_get_dec) | ((with_reducible apply g_is_tuple_str); array_get_dec) | ((with_reducible apply g_is_tuple_dict); array_get_dec) | ((with_reducible apply g_is_tuple_list); array_get_dec) | ((with_reducible apply g_is_tuple_tuple); array_get_dec) | ((with_reducible apply g_ixSL); array_mem_dec; (first | exact rfl | assumption)) | ((with_reducible apply g_ixST); array_mem_dec; (first | exact rfl | assumption)))
local macro_rules | `(tactic| walk_at "go") => `(tactic| repeat first | with_reducible refine g_ifS ?_ | walk_at "st")
local macro_rules | `(tactic| walk_at "dec") => `(tactic| first | with_reducible assumption | decide | omega)
local macro_rules | `(tactic| walk_at "goD") => `(tactic| repeat first | with_reducible refine g_ifS ?_ | walk_at "st" | ((with_reducible apply g_iteY); walk_at "dec") | ((with_reducible apply g_iteX); walk_at "dec") | ((with_reducible apply g_iteNY); walk_at "dec") | ((with_reducible apply g_iteNX); walk_at "dec"))
local macro_rules | `(tactic| walk_at "goI") => `(tactic| repeat walk_at "st")
section
open FabC
variable {P : Program} {w : World} {K : PySem.W.Frag} {mg : Str → Option Value} {base : Heap}
theorem ok_truth_table (T : Txt P K mg) (G_evaluate : FnOk P w K mg base CX0 4 (ga K "evaluate") (fdOf K "evaluate") ["circuit", "values"] (sp0_evaluate)) (G_to_bits : FnOk P w K mg base CX0 3 (ga K "to_bits") (fdOf K "to_bits") ["value", "count"] (sp_to_bits)) : FnOk P w K mg base (L2.CX P w) 5 (ga K "truth_table") (fdOf K "truth_table") ["circuit"] (sp_truth_table K) := by
  refine T.f_truth_table.f.ok sc_truth_table (fun vs H Q E h => by obtain ⟨_, _, e, _⟩ := h; rw [e]; rfl) (fun cdv A outer s H vs Q E hr h => ⟨(d_truth_table T G_evaluate (b_evaluate T) G_to_bits (b_to_bits T) hr).1, (d_truth_table T G_evaluate (b_evaluate T) G_to_bits (b_to_bits T) hr).2, ?_⟩)
  dsimp only [d_truth_table, cxOf]
  obtain ⟨u, c, rfl, hc, gd, q1, q2⟩ := h
  obtain ⟨a, ga, ea, vs, rfl, h1, h2, h3, h4⟩ := id hc
  have f0 := gd.wf.f0
  rw [show start N_truth_table [.ref a] = [some (.ref a), none, none] from rfl]
  walk_at "go"
  refine g_ite (fun wide => ?_) (fun fine => ?_)
  · walk_at "go"
    exact fun d hd => q2 wide d _ (.new hd) upd_same
  · have fine2 : c.free ≤ 8 := by omega
    have p8 := pow8 f0 fine2
    walk_at "go"
    rw [powTo]
    intro D hD
    refine lc_range (fun i H2 => ∃ rs, Grow H H2 D ((tableOf c (rowsOf c.free.toNat)).take i) rs ∧ rs.length = i) ⟨[], .start hD, rfl⟩ ?_ ?_
    · rintro i H2 hi ⟨rs, gr, rl⟩
      have hi2 : (i : Int) < 2 ^ c.free.toNat := by rw [← powNat]; exact Int.ofNat_lt.mpr hi
      have s2 := gr.sm
      have h1' := s2 _ _ h1
      dsimp only [wipe, List.map]
      walk_at "go"
      refine ⟨rfl, ?_⟩
      walk_at "go"
      refine ⟨_, _, rfl, f0, by omega, by omega, by rw [Int.zero_add]; exact hi2, fun w H3 s3 hw => ?_⟩
      walk_at "go"
      refine ⟨_, _, c, _, rfl, hc.same (s2.trans s3), gd, hw.lst.seq, bitsOf_bits _ _, by rw [bitsOf_length]; omega, by rw [bitsOf_length]; omega, fun w2 H4 s4 hw2 => ?_⟩
      obtain ⟨r, rfl, nr, hr⟩ := hw2
      rw [Int.zero_add] at hr
      have tk : (tableOf c (rowsOf c.free.toNat)).take (i + 1) = (tableOf c (rowsOf c.free.toNat)).take i ++ [shown c (bitsOf (i : Int) c.free.toNat)] := take_snoc (by unfold tableOf; rw [List.getElem?_map, rowsOf_get hi]; rfl)
      refine ⟨_, s4 _ _ (s3 _ _ gr.at_), by walk_at "side", rs ++ [r], ?_, by simp [rl]⟩
      rw [tk]
      exact gr.push hD (s3.trans s4) (s3.free nr) hr
    · rintro H2 ⟨rs, gr, rl⟩
      have tl : (tableOf c (rowsOf c.free.toNat)).length = 2 ^ c.free.toNat := by simp [tableOf, rowsOf]
      rw [← tl, take_all] at gr
      walk_at "go"
      exact q1 fine2 _ _ gr.sm (gr.done hD)
end

end K19
set_option maxHeartbeats 4000000
namespace K19
open PySem PySem.Spec PyProof.Rows L2 FabH He
local macro_rules | `(tactic| array_mem_dec) => `(tactic| (first | with_reducible assumption | with_reducible exact SqL.of (by array_get_dec) | with_reducible exact SqT.of (by array_get_dec) | ((repeat (with_reducible first | refine Same.seq (Same.new (by assumption)) ?_ | refine Same.tup (Same.new (by assumption)) ?_)); with_reducible assumption)))
local macro_rules | `(tactic| array_get_dec) => `(tactic| (first | with_reducible assumption | with_reducible exact upd_same | ((repeat (first | with_reducible exact upd_same | ((with_reducible apply at_new); with_reducible assumption) | ((with_reducible apply at_lstT); with_reducible assumption) | ((with_reducible apply at_lstR); with_reducible assumption) | ((with_reducible apply at_set); with_reducible assumption))); done) | ((repeat (first | ((with_reducible apply at_new); with_reducible assumption) | ((with_reducible apply at_lstT); with_reducible assumption) | ((with_reducible apply at_lstR); with_reducible assumption) | ((with_reducible apply at_set); with_reducible assumption))); with_reducible assumption)))
local macro_rules | `(tactic| walk_at "side") => `(tactic| (first | with_reducible assumption | decide | exact MOk.div (by assumption) | exact MOk.div (MOk.of (by decide) (by decide)) | (simp only [List.length_append, List.length_map, List.length_replicate, List.length_cons, List.length_nil, sizeLine_eq, CMul, CDivW, CPow]; omega) | omega))
local macro_rules | `(tactic| walk_at "st") => `(tactic| first
  | with_reducible refine g_cons ?_ | ((with_reducible apply g_var); (first | exact rfl | assumption)) | with_reducible refine g_const ?_ | with_reducible refine g_nil ?_ | with_reducible refine g_op ?_ | with_reducible refine g_rI0 ?_ | with_reducible refine g_seq ?_ | with_reducible refine g_asg ?_ | ((with_reducible refine g_name ?_); dsimp only [List.set_cons_zero, List.set_cons_succ])
  | with_reducible refine g_nx ?_ | with_reducible refine g_rt ?_ | with_reducible refine g_call ?_ | with_reducible refine g_ret ?_ | with_reducible refine g_test ?_ | with_reducible refine g_bl ?_ | with_reducible refine g_cb ?_ | with_reducible refine g_tB ?_ | with_reducible refine g_un ?_ | with_reducible refine g_rU ?_
  | with_reducible refine g_eqi ?_ | with_reducible refine g_int ?_ | with_reducible refine g_and ?_ | with_reducible refine g_or ?_ | with_reducible refine g_not ?_ | with_reducible refine g_drop ?_ | with_reducible refine g_next ?_ | with_reducible refine g_retN ?_ | with_reducible refine g_iteT ?_ | with_reducible refine g_iteF ?_ | with_reducible refine g_iteNT ?_ | with_reducible refine g_iteNF ?_
  | ((with_reducible apply g_ixL); array_mem_dec; (first | exact rfl | assumption)) | ((with_reducible apply g_ixT); array_mem_dec; (first | exact rfl | assumption)) | ((with_reducible apply g_lenL); array_mem_dec) | ((with_reducible apply g_lenT); array_mem_dec) | ((with_reducible apply g_rI); walk_at "side")
  | ((with_reducible apply g_setL); array_get_dec; (first | exact rfl | assumption)) | ((with_reducible apply g_app); array_get_dec; walk_at "side") | with_reducible refine g_tup ?_ | with_reducible refine g_lst ?_ | ((with_reducible apply g_listL); array_mem_dec) | ((with_reducible apply g_listT); array_mem_dec) | ((with_reducible apply g_tupT); array_mem_dec) | ((with_reducible apply g_tupL); array_mem_dec)
  | ((with_reducible apply g_room); walk_at "side") | with_reducible refine g_abs ?_ | with_reducible refine g_chain ?_ | with_reducible refine g_andV ?_ | with_reducible refine g_orV ?_ | with_reducible refine g_notV ?_ | with_reducible refine g_gsub ?_ | ((with_reducible apply g_gtup); array_mem_dec; (first | exact rfl | assumption)) | with_reducible refine g_gcons ?_ | with_reducible refine g_gnil ?_ | with_reducible refine g_bm ?_ | ((with_reducible apply g_tyL); array_mem_dec) | with_reducible refine g_tyS ?_
  | with_reducible refine g_callS ?_ | with_reducible refine g_nei ?_ | with_reducible refine g_eqs ?_ | with_reducible refine g_nes ?_ | with_reducible refine g_eqb ?_ | with_reducible refine g_nonI ?_ | with_reducible refine g_nonN ?_ | with_reducible refine g_nonS ?_ | with_reducible refine g_nonB ?_ | with_reducible refine g_nonR ?_ | with_reducible refine g_isBB ?_ | with_reducible refine g_isBI ?_ | with_reducible refine g_isBS ?_ | with_reducible refine g_isBR ?_ | with_reducible refine g_isBN ?_
  | with_reducible refine g_rng1 ?_ | with_reducible refine g_rng2 ?_ | ((with_reducible apply g_notInR); array_get_dec) | ((with_reducible apply g_inR); array_get_dec) | with_reducible refine g_for ?_ | with_reducible refine g_iList ?_ | with_reducible refine g_iTup ?_ | with_reducible refine g_iR1 ?_ | with_reducible refine g_iEnum ?_ | with_reducible refine g_lc ?_ | with_reducible refine g_yes ?_ | with_reducible refine g_slc ?_ | with_reducible refine g_raise ?_ | with_reducible refine g_exv ?_ | with_reducible refine g_xf ?_ | ((with_reducible apply g_xfe); array_get_dec; (first | exact rfl | assumption)) | with_reducible refine g_part ?_ | with_reducible refine g_nopart ?_ | with_reducible refine g_exi ?_ | with_reducible refine g_brk ?_ | with_reducible refine g_cnt ?_ | with_reducible refine g_bk ?_ | with_reducible refine g_ct ?_ | with_reducible refine g_if ?_
  | with_reducible refine g_augS ?_ | with_reducible refine g_nnR ?_ | with_reducible refine g_nnN ?_ | with_reducible refine g_nnI ?_ | with_reducible refine g_ipI ?_ | ((with_reducible apply g_neL); array_mem_dec; array_mem_dec) | ((with_reducible apply g_eqL); array_mem_dec; array_mem_dec) | ((with_reducible apply g_slL); array_mem_dec) | ((with_reducible apply g_atL); array_mem_dec) | ((with_reducible apply g_atT); array_mem_dec) | ((with_reducible apply g_enum); array_mem_dec) | ((with_reducible apply g_R1); walk_at "side"; walk_at "side")
  | with_reducible refine g_is_int_int ?_ | with_reducible refine g_is_int_bool ?_ | with_reducible refine g_is_int_str ?_ | with_reducible refine g_is_int_dict ?_ | with_reducible refine g_is_int_list ?_ | with_reducible refine g_is_int_tuple ?_ | with_reducible refine g_is_bool_bool ?_ | with_reducible refine g_is_bool_int ?_ | with_reducible refine g_is_str_int ?_ | with_reducible refine g_is_str_str ?_ | with_reducible refine g_is_str_dict ?_ | with_reducible refine g_is_str_list ?_ | with_reducible refine g_is_str_tuple ?_ | ((with_reducible apply g_is_list_int); array_get_dec) | ((with_reducible apply g_is_list_str); array_get_dec) | ((with_reducible apply g_is_list_dict); array_get_dec) | ((with_reducible apply g_is_list_list); array_get_dec) | ((with_reducible apply g_is_list_tuple); array_get_dec) | ((with_reducible apply g_is_tuple_int); array_get_dec) | ((with_reducible apply g_is_tuple_str); array_get_dec) | ((with_reducible apply g_is_tuple_dict); array_get_dec) | ((with_reducible apply g_is_tuple_list); array_get_dec) | ((with_reducible apply g_is_tuple_tuple); array_get_dec) | ((with_reducible apply g_ixSL); array_mem_dec; (first | exact rfl | assumption)) | ((with_reducible apply g_ixST); array_mem_dec; (first | exact rfl | assumption)))
local macro_rules | `(tactic| walk_at "go") => `(tactic| repeat first | with_reducible refine g_ifS ?_ | walk_at "st")
local macro_rules | `(tactic| walk_at "dec") => `(tactic| first | with_reducible assumption | decide | omega)
local macro_rules | `(tactic| walk_at "goD") => `(tactic| repeat first | with_reducible refine g_ifS ?_ | walk_at "st" | ((with_reducible apply g_iteY); walk_at "dec") | ((with_reducible apply g_iteX); walk_at "dec") | ((with_reducible apply g_iteNY); walk_at "dec") | ((with_reducible apply g_iteNX); walk_at "dec"))
local macro_rules | `(tactic| walk_at "goI") => `(tactic| repeat walk_at "st")
section
open FabC
variable {P : Program} {w : World} {K : PySem.W.Frag} {mg : Str → Option Value} {base : Heap}
theorem ok_difference (T : Txt P K mg) (G_evaluate : FnOk P w K mg base CX0 4 (ga K "evaluate") (fdOf K "evaluate") ["circuit", "values"] (sp0_evaluate)) (G_to_bits : FnOk P w K mg base CX0 3 (ga K "to_bits") (fdOf K "to_bits") ["value", "count"] (sp_to_bits)) : FnOk P w K mg base (L2.CX P w) 5 (ga K "difference") (fdOf K "difference") ["circuit", "other"] (sp_difference K) := by
  refine T.f_difference.f.ok sc_difference (fun vs H Q E h => by obtain ⟨_, _, _, _, e, _⟩ := h; rw [e]; rfl) (fun cdv A outer s H vs Q E hr h => ⟨(d_difference T G_evaluate (b_evaluate T) G_to_bits (b_to_bits T) hr).1, (d_difference T G_evaluate (b_evaluate T) G_to_bits (b_to_bits T) hr).2, ?_⟩)
  dsimp only [d_difference, cxOf]
  obtain ⟨u, v, c, d, rfl, hc, gc, hd, gd, q1, q2, q3, q4⟩ := h
  obtain ⟨a, ga, ea, vs, rfl, h1, h2, h3, h4⟩ := id hc
  obtain ⟨b, gb, eb, ws, rfl, k1, k2, k3, k4⟩ := id hd
  have f0 := gc.wf.f0
  rw [show start N_difference [.ref a, .ref b] = [some (.ref a), some (.ref b), none, none, none] from rfl]
  walk_at "go"
  refine g_ite (fun wide => ?_) (fun fine => ?_)
  · walk_at "go"
    exact fun d hd => q2 wide d _ (.new hd) upd_same
  have fine2 : c.free ≤ 8 := by omega
  have p8 := pow8 f0 fine2
  walk_at "go"
  refine g_iteN (fun ne => ?_) (fun eq => ?_)
  · walk_at "go"
    exact fun d hd => q3 fine2 ne d _ (.new hd) upd_same
  walk_at "go"
  rw [List.length_map, List.length_map]
  refine g_iteN (fun ne2 => ?_) (fun eq2 => ?_)
  · walk_at "go"
    rw [List.length_map]
    exact fun d hd => q4 fine2 eq (fun z => ne2 (by rw [z])) d _ (.new hd) upd_same
  have eq3 : d.ends.length = c.ends.length := Int.ofNat.inj eq2
  walk_at "go"
  rw [powTo]
  refine for_range (fun i σ H' => ∃ o3 o4, σ = [some (.ref a), some (.ref b), some (.int c.free), o3, o4] ∧ Same H H' ∧ ∀ k, k < i → ∀ x, (rowsOf c.free.toNat)[k]? = some x → shown c x = shown d x) ⟨_, _, rfl, .refl H, fun k z => absurd z (Nat.not_lt_zero k)⟩ ?_ ?_
  · rintro i σ H' hi ⟨o3, o4, rfl, sm, same⟩
    have hi2 : (i : Int) < 2 ^ c.free.toNat := by rw [← powNat]; exact Int.ofNat_lt.mpr hi
    walk_at "go"
    refine ⟨_, _, rfl, f0, by omega, by omega, by rw [Int.zero_add]; exact hi2, fun w H3 s3 hw => ?_⟩
    rw [Int.zero_add] at hw
    obtain ⟨lw, rfl, nw, hlw⟩ := id hw
    walk_at "go"
    refine ⟨_, _, c, _, rfl, hc.same (sm.trans s3), gc, hw.lst.seq, bitsOf_bits _ _, by rw [bitsOf_length]; omega, by rw [bitsOf_length]; omega, fun w2 H4 s4 hw2 => ?_⟩
    obtain ⟨l2, rfl, n2, hl2⟩ := hw2
    walk_at "go"
    refine ⟨_, _, d, _, rfl, hd.same (sm.trans (s3.trans s4)), gd, (hw.lst.same s4).seq, bitsOf_bits _ _, by rw [bitsOf_length]; omega, by rw [bitsOf_length]; omega, fun w3 H5 s5 hw3 => ?_⟩
    obtain ⟨l3, rfl, n3, hl3⟩ := hw3
    have hl2' := s5 _ _ hl2
    walk_at "go"
    refine g_iteN (fun un => ?_) (fun al => ?_)
    · walk_at "go"
      refine q1 fine2 eq eq3 _ _ (sm.trans (s3.trans (s4.trans s5))) ?_
      rw [parted_at (rowsOf_get hi) same un]
      exact ⟨lw, rfl, sm.free nw, s5 _ _ (s4 _ _ hlw)⟩
    · walk_at "go"
      refine ⟨_, _, rfl, sm.trans (s3.trans (s4.trans s5)), fun k hk x hx => ?_⟩
      by_cases e : k = i
      · rw [e, rowsOf_get hi] at hx
        cases hx
        exact al
      · exact same k (by omega) x hx
  · rintro σ H' ⟨o3, o4, rfl, sm, same⟩
    walk_at "go"
    refine q1 fine2 eq eq3 _ _ sm ?_
    rw [parted_none fun k r e => same k (by have := (List.getElem?_eq_some_iff.mp e).1; rw [rowsOf_length] at this; exact this) r e]
    rfl
end

end K19
set_option maxHeartbeats 4000000
namespace K19
open PySem PySem.Spec PyProof.Rows L2 FabH He
local macro_rules | `(tactic| array_mem_dec) => `(tactic| (first | with_reducible assumption | with_reducible exact SqL.of (by array_get_dec) | with_reducible exact SqT.of (by array_get_dec) | ((repeat (with_reducible first | refine Same.seq (Same.new (by assumption)) ?_ | refine Same.tup (Same.new (by assumption)) ?_)); with_reducible assumption)))
local macro_rules | `(tactic| array_get_dec) => `(tactic| (first | with_reducible assumption | with_reducible exact upd_same | ((repeat (first | with_reducible exact upd_same | ((with_reducible apply at_new); with_reducible assumption) | ((with_reducible apply at_lstT); with_reducible assumption) | ((with_reducible apply at_lstR); with_reducible assumption) | ((with_reducible apply at_set); with_reducible assumption))); done) | ((repeat (first | ((with_reducible apply at_new); with_reducible assumption) | ((with_reducible apply at_lstT); with_reducible assumption) | ((with_reducible apply at_lstR); with_reducible assumption) | ((with_reducible apply at_set); with_reducible assumption))); with_reducible assumption)))
local macro_rules | `(tactic| walk_at "side") => `(tactic| (first | with_reducible assumption | decide | exact MOk.div (by assumption) | exact MOk.div (MOk.of (by decide) (by decide)) | (simp only [List.length_append, List.length_map, List.length_replicate, List.length_cons, List.length_nil, sizeLine_eq, CMul, CDivW, CPow]; omega) | omega))
local macro_rules | `(tactic| walk_at "st") => `(tactic| first
  | with_reducible refine g_cons ?_ | ((with_reducible apply g_var); (first | exact rfl | assumption)) | with_reducible refine g_const ?_ | with_reducible refine g_nil ?_ | with_reducible refine g_op ?_ | with_reducible refine g_rI0 ?_ | with_reducible refine g_seq ?_ | with_reducible refine g_asg ?_ | ((with_reducible refine g_name ?_); dsimp only [List.set_cons_zero, List.set_cons_succ])
  | with_reducible refine g_nx ?_ | with_reducible refine g_rt ?_ | with_reducible refine g_call ?_ | with_reducible refine g_ret ?_ | with_reducible refine g_test ?_ | with_reducible refine g_bl ?_ | with_reducible refine g_cb ?_ | with_reducible refine g_tB ?_ | with_reducible refine g_un ?_ | with_reducible refine g_rU ?_
  | with_reducible refine g_eqi ?_ | with_reducible refine g_int ?_ | with_reducible refine g_and ?_ | with_reducible refine g_or ?_ | with_reducible refine g_not ?_ | with_reducible refine g_drop ?_ | with_reducible refine g_next ?_ | with_reducible refine g_retN ?_ | with_reducible refine g_iteT ?_ | with_reducible refine g_iteF ?_ | with_reducible refine g_iteNT ?_ | with_reducible refine g_iteNF ?_
  | ((with_reducible apply g_ixL); array_mem_dec; (first | exact rfl | assumption)) | ((with_reducible apply g_ixT); array_mem_dec; (first | exact rfl | assumption)) | ((with_reducible apply g_lenL); array_mem_dec) | ((with_reducible apply g_lenT); array_mem_dec) | ((with_reducible apply g_rI); walk_at "side")
  | ((with_reducible apply g_setL); array_get_dec; (first | exact rfl | assumption)) | ((with_reducible apply g_app); array_get_dec; walk_at "side") | with_reducible refine g_tup ?_ | with_reducible refine g_lst ?_ | ((with_reducible apply g_listL); array_mem_dec) | ((with_reducible apply g_listT); array_mem_dec) | ((with_reducible apply g_tupT); array_mem_dec) | ((with_reducible apply g_tupL); array_mem_dec)
  | ((with_reducible apply g_room); walk_at "side") | with_reducible refine g_abs ?_ | with_reducible refine g_chain ?_ | with_reducible refine g_andV ?_ | with_reducible refine g_orV ?_ | with_reducible refine g_notV ?_ | with_reducible refine g_gsub ?_ | ((with_reducible apply g_gtup); array_mem_dec; (first | exact rfl | assumption)) | with_reducible refine g_gcons ?_ | with_reducible refine g_gnil ?_ | with_reducible refine g_bm ?_ | ((with_reducible apply g_tyL); array_mem_dec) | with_reducible refine g_tyS ?_
  | with_reducible refine g_callS ?_ | with_reducible refine g_nei ?_ | with_reducible refine g_eqs ?_ | with_reducible refine g_nes ?_ | with_reducible refine g_eqb ?_ | with_reducible refine g_nonI ?_ | with_reducible refine g_nonN ?_ | with_reducible refine g_nonS ?_ | with_reducible refine g_nonB ?_ | with_reducible refine g_nonR ?_ | with_reducible refine g_isBB ?_ | with_reducible refine g_isBI ?_ | with_reducible refine g_isBS ?_ | with_reducible refine g_isBR ?_ | with_reducible refine g_isBN ?_
  | with_reducible refine g_rng1 ?_ | with_reducible refine g_rng2 ?_ | ((with_reducible apply g_notInR); array_get_dec) | ((with_reducible apply g_inR); array_get_dec) | with_reducible refine g_for ?_ | with_reducible refine g_iList ?_ | with_reducible refine g_iTup ?_ | with_reducible refine g_iR1 ?_ | with_reducible refine g_iEnum ?_ | with_reducible refine g_lc ?_ | with_reducible refine g_yes ?_ | with_reducible refine g_slc ?_ | with_reducible refine g_raise ?_ | with_reducible refine g_exv ?_ | with_reducible refine g_xf ?_ | ((with_reducible apply g_xfe); array_get_dec; (first | exact rfl | assumption)) | with_reducible refine g_part ?_ | with_reducible refine g_nopart ?_ | with_reducible refine g_exi ?_ | with_reducible refine g_brk ?_ | with_reducible refine g_cnt ?_ | with_reducible refine g_bk ?_ | with_reducible refine g_ct ?_ | with_reducible refine g_if ?_
  | with_reducible refine g_augS ?_ | with_reducible refine g_nnR ?_ | with_reducible refine g_nnN ?_ | with_reducible refine g_nnI ?_ | with_reducible refine g_ipI ?_ | ((with_reducible apply g_neL); array_mem_dec; array_mem_dec) | ((with_reducible apply g_eqL); array_mem_dec; array_mem_dec) | ((with_reducible apply g_slL); array_mem_dec) | ((with_reducible apply g_atL); array_mem_dec) | ((with_reducible apply g_atT); array_mem_dec) | ((with_reducible apply g_enum); array_mem_dec) | ((with_reducible apply g_R1); walk_at "side"; walk_at "side")
  | with_reducible refine g_is_int_int ?_ | with_reducible refine g_is_int_bool ?_ | with_reducible refine g_is_int_str ?_ | with_reducible refine g_is_int_dict ?_ | with_reducible refine g_is_int_list ?_ | with_reducible refine g_is_int_tuple ?_ | with_reducible refine g_is_bool_bool ?_ | with_reducible refine g_is_bool_int ?_ | with_reducible refine g_is_str_int ?_ | with_reducible refine g_is_str_str ?_ | with_reducible refine g_is_str_dict ?_ | with_reducible refine g_is_str_list ?_ | with_reducible refine g_is_str_tuple ?_ | ((with_reducible apply g_is_list_int); array_get_dec) | ((with_reducible apply g_is_list_str); array_get_dec) | ((with_reducible apply g_is_list_dict); array_get_dec) | ((with_reducible apply g_is_list_list); array_get_dec) | ((with_reducible apply g_is_list_tuple); array_get_dec) | ((with_reducible apply g_is_tuple_int); array_get_dec) | ((with_reducible apply g_is_tuple_str); array_get_dec) | ((with_reducible apply g_is_tuple_dict); array_get_dec) | ((with_reducible apply g_is_tuple_list); array_get_dec) | ((with_reducible apply g_is_tuple_tuple); array_get_dec) | ((with_reducible apply g_ixSL); array_mem_dec; (first | exact rfl | assumption)) | ((with_reducible apply g_ixST); array_mem_dec; (first | exact rfl | assumption)))
local macro_rules | `(tactic| walk_at "go") => `(tactic| repeat first | with_reducible refine g_ifS ?_ | walk_at "st")
local macro_rules | `(tactic| walk_at "dec") => `(tactic| first | with_reducible assumption | decide | omega)
local macro_rules | `(tactic| walk_at "goD") => `(tactic| repeat first | with_reducible refine g_ifS ?_ | walk_at "st" | ((with_reducible apply g_iteY); walk_at "dec") | ((with_reducible apply g_iteX); walk_at "dec") | ((with_reducible apply g_iteNY); walk_at "dec") | ((with_reducible apply g_iteNX); walk_at "dec"))
local macro_rules | `(tactic| walk_at "goI") => `(tactic| repeat walk_at "st")
section
open FabC
variable {P : Program} {w : World} {K : PySem.W.Frag} {mg : Str → Option Value} {base : Heap}
theorem ok__law_pool (T : Txt P K mg)  : FnOk P w K mg base CX0 1 (ga K "_law_pool") (fdOf K "_law_pool") ["script", "place"] (sp_pool1 K) := by
  refine T.f__law_pool.f.ok sc__law_pool (fun vs H Q E h => by obtain ⟨_, _, _, e, _⟩ := h; rw [e]; rfl) (fun cdv A outer s H vs Q E hr h => ⟨(d__law_pool T  hr).1, PSs.nox (d__law_pool T  hr).2, ?_⟩)
  dsimp only [d__law_pool, cxOf]
  obtain ⟨a, ns, i, rfl, hs, i0, i1, q⟩ := h
  rw [show start N__law_pool [.ref a, .int i] = [some (.ref a), some (.int i), none] from rfl]
  walk_at "go"
  refine g_ite (fun h => ?_) (fun h => ?_)
  · walk_at "go"
    exact fun p hp => q p _ ⟨_, _, _, _, rfl⟩ hp
  · walk_at "go"
    obtain ⟨c, e⟩ := atI_ints (ns := ns) (i := i % ((ns.map V.int).length : Int)) (Int.emod_nonneg _ h) (by have := Int.emod_lt_of_pos i (show 0 < ((ns.map V.int).length : Int) by omega); rw [List.length_map] at this; rw [List.length_map]; exact this)
    refine g_ixL hs e ?_
    walk_at "go"
    generalize (if c < 0 then -c else c) = d
    refine g_ite (fun h2 => ?_) (fun h2 => ?_)
    · walk_at "go"
      refine g_ite (fun h3 => ?_) (fun h3 => ?_)
      · walk_at "go"
        exact fun p hp => q p _ ⟨_, _, _, _, rfl⟩ hp
      · walk_at "go"
        exact fun p hp => q p _ ⟨_, _, _, _, rfl⟩ hp
    · walk_at "go"
      exact fun p hp => q p _ ⟨_, _, _, _, rfl⟩ hp
end

end K19
set_option maxHeartbeats 4000000
namespace K19
open PySem PySem.Spec PyProof.Rows L2 FabH He
local macro_rules | `(tactic| array_mem_dec) => `(tactic| (first | with_reducible assumption | with_reducible exact SqL.of (by array_get_dec) | with_reducible exact SqT.of (by array_get_dec) | ((repeat (with_reducible first | refine Same.seq (Same.new (by assumption)) ?_ | refine Same.tup (Same.new (by assumption)) ?_)); with_reducible assumption)))
local macro_rules | `(tactic| array_get_dec) => `(tactic| (first | with_reducible assumption | with_reducible exact upd_same | ((repeat (first | with_reducible exact upd_same | ((with_reducible apply at_new); with_reducible assumption) | ((with_reducible apply at_lstT); with_reducible assumption) | ((with_reducible apply at_lstR); with_reducible assumption) | ((with_reducible apply at_set); with_reducible assumption))); done) | ((repeat (first | ((with_reducible apply at_new); with_reducible assumption) | ((with_reducible apply at_lstT); with_reducible assumption) | ((with_reducible apply at_lstR); with_reducible assumption) | ((with_reducible apply at_set); with_reducible assumption))); with_reducible assumption)))
local macro_rules | `(tactic| walk_at "side") => `(tactic| (first | with_reducible assumption | decide | exact MOk.div (by assumption) | exact MOk.div (MOk.of (by decide) (by decide)) | (simp only [List.length_append, List.length_map, List.length_replicate, List.length_cons, List.length_nil, sizeLine_eq, CMul, CDivW, CPow]; omega) | omega))
local macro_rules | `(tactic| walk_at "st") => `(tactic| first
  | with_reducible refine g_cons ?_ | ((with_reducible apply g_var); (first | exact rfl | assumption)) | with_reducible refine g_const ?_ | with_reducible refine g_nil ?_ | with_reducible refine g_op ?_ | with_reducible refine g_rI0 ?_ | with_reducible refine g_seq ?_ | with_reducible refine g_asg ?_ | ((with_reducible refine g_name ?_); dsimp only [List.set_cons_zero, List.set_cons_succ])
  | with_reducible refine g_nx ?_ | with_reducible refine g_rt ?_ | with_reducible refine g_call ?_ | with_reducible refine g_ret ?_ | with_reducible refine g_test ?_ | with_reducible refine g_bl ?_ | with_reducible refine g_cb ?_ | with_reducible refine g_tB ?_ | with_reducible refine g_un ?_ | with_reducible refine g_rU ?_
  | with_reducible refine g_eqi ?_ | with_reducible refine g_int ?_ | with_reducible refine g_and ?_ | with_reducible refine g_or ?_ | with_reducible refine g_not ?_ | with_reducible refine g_drop ?_ | with_reducible refine g_next ?_ | with_reducible refine g_retN ?_ | with_reducible refine g_iteT ?_ | with_reducible refine g_iteF ?_ | with_reducible refine g_iteNT ?_ | with_reducible refine g_iteNF ?_
  | ((with_reducible apply g_ixL); array_mem_dec; (first | exact rfl | assumption)) | ((with_reducible apply g_ixT); array_mem_dec; (first | exact rfl | assumption)) | ((with_reducible apply g_lenL); array_mem_dec) | ((with_reducible apply g_lenT); array_mem_dec) | ((with_reducible apply g_rI); walk_at "side")
  | ((with_reducible apply g_setL); array_get_dec; (first | exact rfl | assumption)) | ((with_reducible apply g_app); array_get_dec; walk_at "side") | with_reducible refine g_tup ?_ | with_reducible refine g_lst ?_ | ((with_reducible apply g_listL); array_mem_dec) | ((with_reducible apply g_listT); array_mem_dec) | ((with_reducible apply g_tupT); array_mem_dec) | ((with_reducible apply g_tupL); array_mem_dec)
  | ((with_reducible apply g_room); walk_at "side") | with_reducible refine g_abs ?_ | with_reducible refine g_chain ?_ | with_reducible refine g_andV ?_ | with_reducible refine g_orV ?_ | with_reducible refine g_notV ?_ | with_reducible refine g_gsub ?_ | ((with_reducible apply g_gtup); array_mem_dec; (first | exact rfl | assumption)) | with_reducible refine g_gcons ?_ | with_reducible refine g_gnil ?_ | with_reducible refine g_bm ?_ | ((with_reducible apply g_tyL); array_mem_dec) | with_reducible refine g_tyS ?_
  | with_reducible refine g_callS ?_ | with_reducible refine g_nei ?_ | with_reducible refine g_eqs ?_ | with_reducible refine g_nes ?_ | with_reducible refine g_eqb ?_ | with_reducible refine g_nonI ?_ | with_reducible refine g_nonN ?_ | with_reducible refine g_nonS ?_ | with_reducible refine g_nonB ?_ | with_reducible refine g_nonR ?_ | with_reducible refine g_isBB ?_ | with_reducible refine g_isBI ?_ | with_reducible refine g_isBS ?_ | with_reducible refine g_isBR ?_ | with_reducible refine g_isBN ?_
  | with_reducible refine g_rng1 ?_ | with_reducible refine g_rng2 ?_ | ((with_reducible apply g_notInR); array_get_dec) | ((with_reducible apply g_inR); array_get_dec) | with_reducible refine g_for ?_ | with_reducible refine g_iList ?_ | with_reducible refine g_iTup ?_ | with_reducible refine g_iR1 ?_ | with_reducible refine g_iEnum ?_ | with_reducible refine g_lc ?_ | with_reducible refine g_yes ?_ | with_reducible refine g_slc ?_ | with_reducible refine g_raise ?_ | with_reducible refine g_exv ?_ | with_reducible refine g_xf ?_ | ((with_reducible apply g_xfe); array_get_dec; (first | exact rfl | assumption)) | with_reducible refine g_part ?_ | with_reducible refine g_nopart ?_ | with_reducible refine g_exi ?_ | with_reducible refine g_brk ?_ | with_reducible refine g_cnt ?_ | with_reducible refine g_bk ?_ | with_reducible refine g_ct ?_ | with_reducible refine g_if ?_
  | with_reducible refine g_augS ?_ | with_reducible refine g_nnR ?_ | with_reducible refine g_nnN ?_ | with_reducible refine g_nnI ?_ | with_reducible refine g_ipI ?_ | ((with_reducible apply g_neL); array_mem_dec; array_mem_dec) | ((with_reducible apply g_eqL); array_mem_dec; array_mem_dec) | ((with_reducible apply g_slL); array_mem_dec) | ((with_reducible apply g_atL); array_mem_dec) | ((with_reducible apply g_atT); array_mem_dec) | ((with_reducible apply g_enum); array_mem_dec) | ((with_reducible apply g_R1); walk_at "side"; walk_at "side")
  | with_reducible refine g_is_int_int ?_ | with_reducible refine g_is_int_bool ?_ | with_reducible refine g_is_int_str ?_ | with_reducible refine g_is_int_dict ?_ | with_reducible refine g_is_int_list ?_ | with_reducible refine g_is_int_tuple ?_ | with_reducible refine g_is_bool_bool ?_ | with_reducible refine g_is_bool_int ?_ | with_reducible refine g_is_str_int ?_ | with_reducible refine g_is_str_str ?_ | with_reducible refine g_is_str_dict ?_ | with_reducible refine g_is_str_list ?_ | with_reducible refine g_is_str_tuple ?_ | ((with_reducible apply g_is_list_int); array_get_dec) | ((with_reducible apply g_is_list_str); array_get_dec) | ((with_reducible apply g_is_list_dict); array_get_dec) | ((with_reducible apply g_is_list_list); array_get_dec) | ((with_reducible apply g_is_list_tuple); array_get_dec) | ((with_reducible apply g_is_tuple_int); array_get_dec) | ((with_reducible apply g_is_tuple_str); array_get_dec) | ((with_reducible apply g_is_tuple_dict); array_get_dec) | ((with_reducible apply g_is_tuple_list); array_get_dec) | ((with_reducible apply g_is_tuple_tuple); array_get_dec) | ((with_reducible apply g_ixSL); array_mem_dec; (first | exact rfl | assumption)) | ((with_reducible apply g_ixST); array_mem_dec; (first | exact rfl | assumption)))
local macro_rules | `(tactic| walk_at "go") => `(tactic| repeat first | with_reducible refine g_ifS ?_ | walk_at "st")
local macro_rules | `(tactic| walk_at "dec") => `(tactic| first | with_reducible assumption | decide | omega)
local macro_rules | `(tactic| walk_at "goD") => `(tactic| repeat first | with_reducible refine g_ifS ?_ | walk_at "st" | ((with_reducible apply g_iteY); walk_at "dec") | ((with_reducible apply g_iteX); walk_at "dec") | ((with_reducible apply g_iteNY); walk_at "dec") | ((with_reducible apply g_iteNX); walk_at "dec"))
local macro_rules | `(tactic| walk_at "goI") => `(tactic| repeat walk_at "st")
section
open FabC
variable {P : Program} {w : World} {K : PySem.W.Frag} {mg : Str → Option Value} {base : Heap}
theorem ok__law_draw (T : Txt P K mg)  : FnOk P w K mg base CX0 1 (ga K "_law_draw") (fdOf K "_law_draw") ["pool", "many"] (sp_draw1) := by
  refine T.f__law_draw.f.ok sc__law_draw (fun vs H Q E h => by obtain ⟨_, _, _, e, _⟩ := h; rw [e]; rfl) (fun cdv A outer s H vs Q E hr h => ⟨(d__law_draw T  hr).1, PSs.nox (d__law_draw T  hr).2, ?_⟩)
  dsimp only [d__law_draw, cxOf]
  obtain ⟨p, m, xs, rfl, ⟨k, c, x, n, rfl⟩, hp, hm, q⟩ := h
  have m0 : 0 < m := hm.1
  rw [show start N__law_draw [.ref p, .int m] = [some (.ref p), some (.int m), none, none] from rfl]
  walk_at "go"
  refine g_ite (fun h => ?_) (fun h => ?_)
  · walk_at "go"
    exact q _ _ ⟨_, _, _, _, rfl⟩ (Int.le_refl 0) m0
  · walk_at "go"
    refine g_ite (fun h2 => ?_) (fun h2 => ?_)
    · walk_at "go"
      refine g_ite (fun h3 => ?_) (fun h3 => ?_)
      · walk_at "go"
        refine g_ite (fun h4 => ?_) (fun h4 => ?_)
        · walk_at "go"
          rw [upd_upd]
          exact q _ _ ⟨_, _, _, _, rfl⟩ (Int.emod_nonneg _ (by omega)) (Int.emod_lt_of_pos _ m0)
        · walk_at "go"
          exact q _ _ ⟨_, _, _, _, rfl⟩ (Int.emod_nonneg _ (by omega)) (Int.emod_lt_of_pos _ m0)
      · walk_at "go"
        exact q _ _ ⟨_, _, _, _, rfl⟩ (Int.emod_nonneg _ (by omega)) (Int.emod_lt_of_pos _ m0)
    · walk_at "go"
      exact q _ _ ⟨_, _, _, _, rfl⟩ (Int.emod_nonneg _ (by omega)) (Int.emod_lt_of_pos _ m0)
end

end K19
set_option maxHeartbeats 4000000
namespace K19
open PySem PySem.Spec PyProof.Rows L2 FabH He
local macro_rules | `(tactic| array_mem_dec) => `(tactic| (first | with_reducible assumption | with_reducible exact SqL.of (by array_get_dec) | with_reducible exact SqT.of (by array_get_dec) | ((repeat (with_reducible first | refine Same.seq (Same.new (by assumption)) ?_ | refine Same.tup (Same.new (by assumption)) ?_)); with_reducible assumption)))
local macro_rules | `(tactic| array_get_dec) => `(tactic| (first | with_reducible assumption | with_reducible exact upd_same | ((repeat (first | with_reducible exact upd_same | ((with_reducible apply at_new); with_reducible assumption) | ((with_reducible apply at_lstT); with_reducible assumption) | ((with_reducible apply at_lstR); with_reducible assumption) | ((with_reducible apply at_set); with_reducible assumption))); done) | ((repeat (first | ((with_reducible apply at_new); with_reducible assumption) | ((with_reducible apply at_lstT); with_reducible assumption) | ((with_reducible apply at_lstR); with_reducible assumption) | ((with_reducible apply at_set); with_reducible assumption))); with_reducible assumption)))
local macro_rules | `(tactic| walk_at "side") => `(tactic| (first | with_reducible assumption | decide | exact MOk.div (by assumption) | exact MOk.div (MOk.of (by decide) (by decide)) | (simp only [List.length_append, List.length_map, List.length_replicate, List.length_cons, List.length_nil, sizeLine_eq, CMul, CDivW, CPow]; omega) | omega))
local macro_rules | `(tactic| walk_at "st") => `(tactic| first
  | with_reducible refine g_cons ?_ | ((with_reducible apply g_var); (first | exact rfl | assumption)) | with_reducible refine g_const ?_ | with_reducible refine g_nil ?_ | with_reducible refine g_op ?_ | with_reducible refine g_rI0 ?_ | with_reducible refine g_seq ?_ | with_reducible refine g_asg ?_ | ((with_reducible refine g_name ?_); dsimp only [List.set_cons_zero, List.set_cons_succ])
  | with_reducible refine g_nx ?_ | with_reducible refine g_rt ?_ | with_reducible refine g_call ?_ | with_reducible refine g_ret ?_ | with_reducible refine g_test ?_ | with_reducible refine g_bl ?_ | with_reducible refine g_cb ?_ | with_reducible refine g_tB ?_ | with_reducible refine g_un ?_ | with_reducible refine g_rU ?_
  | with_reducible refine g_eqi ?_ | with_reducible refine g_int ?_ | with_reducible refine g_and ?_ | with_reducible refine g_or ?_ | with_reducible refine g_not ?_ | with_reducible refine g_drop ?_ | with_reducible refine g_next ?_ | with_reducible refine g_retN ?_ | with_reducible refine g_iteT ?_ | with_reducible refine g_iteF ?_ | with_reducible refine g_iteNT ?_ | with_reducible refine g_iteNF ?_
  | ((with_reducible apply g_ixL); array_mem_dec; (first | exact rfl | assumption)) | ((with_reducible apply g_ixT); array_mem_dec; (first | exact rfl | assumption)) | ((with_reducible apply g_lenL); array_mem_dec) | ((with_reducible apply g_lenT); array_mem_dec) | ((with_reducible apply g_rI); walk_at "side")
  | ((with_reducible apply g_setL); array_get_dec; (first | exact rfl | assumption)) | ((with_reducible apply g_app); array_get_dec; walk_at "side") | with_reducible refine g_tup ?_ | with_reducible refine g_lst ?_ | ((with_reducible apply g_listL); array_mem_dec) | ((with_reducible apply g_listT); array_mem_dec) | ((with_reducible apply g_tupT); array_mem_dec) | ((with_reducible apply g_tupL); array_mem_dec)
  | ((with_reducible apply g_room); walk_at "side") | with_reducible refine g_abs ?_ | with_reducible refine g_chain ?_ | with_reducible refine g_andV ?_ | with_reducible refine g_orV ?_ | with_reducible refine g_notV ?_ | with_reducible refine g_gsub ?_ | ((with_reducible apply g_gtup); array_mem_dec; (first | exact rfl | assumption)) | with_reducible refine g_gcons ?_ | with_reducible refine g_gnil ?_ | with_reducible refine g_bm ?_ | ((with_reducible apply g_tyL); array_mem_dec) | with_reducible refine g_tyS ?_
  | with_reducible refine g_callS ?_ | with_reducible refine g_nei ?_ | with_reducible refine g_eqs ?_ | with_reducible refine g_nes ?_ | with_reducible refine g_eqb ?_ | with_reducible refine g_nonI ?_ | with_reducible refine g_nonN ?_ | with_reducible refine g_nonS ?_ | with_reducible refine g_nonB ?_ | with_reducible refine g_nonR ?_ | with_reducible refine g_isBB ?_ | with_reducible refine g_isBI ?_ | with_reducible refine g_isBS ?_ | with_reducible refine g_isBR ?_ | with_reducible refine g_isBN ?_
  | with_reducible refine g_rng1 ?_ | with_reducible refine g_rng2 ?_ | ((with_reducible apply g_notInR); array_get_dec) | ((with_reducible apply g_inR); array_get_dec) | with_reducible refine g_for ?_ | with_reducible refine g_iList ?_ | with_reducible refine g_iTup ?_ | with_reducible refine g_iR1 ?_ | with_reducible refine g_iEnum ?_ | with_reducible refine g_lc ?_ | with_reducible refine g_yes ?_ | with_reducible refine g_slc ?_ | with_reducible refine g_raise ?_ | with_reducible refine g_exv ?_ | with_reducible refine g_xf ?_ | ((with_reducible apply g_xfe); array_get_dec; (first | exact rfl | assumption)) | with_reducible refine g_part ?_ | with_reducible refine g_nopart ?_ | with_reducible refine g_exi ?_ | with_reducible refine g_brk ?_ | with_reducible refine g_cnt ?_ | with_reducible refine g_bk ?_ | with_reducible refine g_ct ?_ | with_reducible refine g_if ?_
  | with_reducible refine g_augS ?_ | with_reducible refine g_nnR ?_ | with_reducible refine g_nnN ?_ | with_reducible refine g_nnI ?_ | with_reducible refine g_ipI ?_ | ((with_reducible apply g_neL); array_mem_dec; array_mem_dec) | ((with_reducible apply g_eqL); array_mem_dec; array_mem_dec) | ((with_reducible apply g_slL); array_mem_dec) | ((with_reducible apply g_atL); array_mem_dec) | ((with_reducible apply g_atT); array_mem_dec) | ((with_reducible apply g_enum); array_mem_dec) | ((with_reducible apply g_R1); walk_at "side"; walk_at "side")
  | with_reducible refine g_is_int_int ?_ | with_reducible refine g_is_int_bool ?_ | with_reducible refine g_is_int_str ?_ | with_reducible refine g_is_int_dict ?_ | with_reducible refine g_is_int_list ?_ | with_reducible refine g_is_int_tuple ?_ | with_reducible refine g_is_bool_bool ?_ | with_reducible refine g_is_bool_int ?_ | with_reducible refine g_is_str_int ?_ | with_reducible refine g_is_str_str ?_ | with_reducible refine g_is_str_dict ?_ | with_reducible refine g_is_str_list ?_ | with_reducible refine g_is_str_tuple ?_ | ((with_reducible apply g_is_list_int); array_get_dec) | ((with_reducible apply g_is_list_str); array_get_dec) | ((with_reducible apply g_is_list_dict); array_get_dec) | ((with_reducible apply g_is_list_list); array_get_dec) | ((with_reducible apply g_is_list_tuple); array_get_dec) | ((with_reducible apply g_is_tuple_int); array_get_dec) | ((with_reducible apply g_is_tuple_str); array_get_dec) | ((with_reducible apply g_is_tuple_dict); array_get_dec) | ((with_reducible apply g_is_tuple_list); array_get_dec) | ((with_reducible apply g_is_tuple_tuple); array_get_dec) | ((with_reducible apply g_ixSL); array_mem_dec; (first | exact rfl | assumption)) | ((with_reducible apply g_ixST); array_mem_dec; (first | exact rfl | assumption)))
local macro_rules | `(tactic| walk_at "go") => `(tactic| repeat first | with_reducible refine g_ifS ?_ | walk_at "st")
local macro_rules | `(tactic| walk_at "dec") => `(tactic| first | with_reducible assumption | decide | omega)
local macro_rules | `(tactic| walk_at "goD") => `(tactic| repeat first | with_reducible refine g_ifS ?_ | walk_at "st" | ((with_reducible apply g_iteY); walk_at "dec") | ((with_reducible apply g_iteX); walk_at "dec") | ((with_reducible apply g_iteNY); walk_at "dec") | ((with_reducible apply g_iteNX); walk_at "dec"))
local macro_rules | `(tactic| walk_at "goI") => `(tactic| repeat walk_at "st")
section
open FabC
variable {P : Program} {w : World} {K : PySem.W.Frag} {mg : Str → Option Value} {base : Heap}
theorem ok__law_take (T : Txt P K mg) (G__law_draw : FnOk P w K mg base CX0 1 (ga K "_law_draw") (fdOf K "_law_draw") ["pool", "many"] (sp_draw1)) : FnOk P w K mg base CX0 2 (ga K "_law_take") (fdOf K "_law_take") ["pools", "many"] (sp_take1 K) := by
  refine T.f__law_take.f.ok sc__law_take (fun vs H Q E h => by obtain ⟨_, _, _, e, _⟩ := h; rw [e]; rfl) (fun cdv A outer s H vs Q E hr h => ⟨(d__law_take T G__law_draw (b__law_draw T) hr).1, PSs.nox (d__law_take T G__law_draw (b__law_draw T) hr).2, ?_⟩)
  dsimp only [d__law_take, cxOf]
  obtain ⟨l, ps, m, rfl, hl, hne, hp, hm, q⟩ := h
  have one : ∀ p ∈ ps, ∀ Q', (∀ r ys, Ints4 ys → 0 ≤ r → r < m → Q' (.int r) (upd H p (.lst ys))) → sp_draw1 [.ref p, .int m] H Q' E := fun p z Q' q' => by
    obtain ⟨xs, ix, hx⟩ := hp p z
    exact ⟨p, m, xs, rfl, ix, hx, hm, q'⟩
  rw [show start N__law_take [.ref l, .int m] = [some (.ref l), some (.int m), none] from rfl]
  walk_at "go"
  refine for_list (fun i σ H' => H' = H ∧ ∃ o, σ = [some (.ref l), some (.int m), o]) ⟨rfl, _, rfl⟩ (fun i σ H' _ h => by rw [h.1]; exact hl) ?_ ?_
  · rintro i x σ H' hx ⟨rfl, o, rfl⟩
    rw [List.getElem?_map] at hx
    obtain ⟨p, hy, rfl⟩ := Option.map_eq_some_iff.mp hx
    have z : p ∈ ps := List.mem_of_getElem? hy
    obtain ⟨xs, ix, hxs⟩ := hp p z
    obtain ⟨k, c, y, n, rfl⟩ := ix
    walk_at "go"
    refine g_ite (fun h2 => ?_) (fun h2 => ?_)
    · walk_at "go"
      exact one p z _ fun r ys iy r0 r1 => by
        walk_at "go"
        exact q r p ys z iy r0 r1
    · walk_at "go"
      exact ⟨rfl, _, rfl⟩
  · rintro σ H' ⟨rfl, o, rfl⟩
    obtain ⟨p, r, rfl⟩ : ∃ p r, ps = p :: r := by
      cases ps with
      | nil => exact absurd rfl hne
      | cons p r => exact ⟨p, r, rfl⟩
    walk_at "go"
    refine g_ixL hl (atI_zero (x := .ref p) rfl) ?_
    walk_at "go"
    exact one p (by simp) _ fun r ys iy r0 r1 => by
        walk_at "go"
        exact q r p ys (by simp) iy r0 r1
end

end K19
set_option maxHeartbeats 4000000
namespace K19
open PySem PySem.Spec PyProof.Rows L2 FabH He
local macro_rules | `(tactic| array_mem_dec) => `(tactic| (first | with_reducible assumption | with_reducible exact SqL.of (by array_get_dec) | with_reducible exact SqT.of (by array_get_dec) | ((repeat (with_reducible first | refine Same.seq (Same.new (by assumption)) ?_ | refine Same.tup (Same.new (by assumption)) ?_)); with_reducible assumption)))
local macro_rules | `(tactic| array_get_dec) => `(tactic| (first | with_reducible assumption | with_reducible exact upd_same | ((repeat (first | with_reducible exact upd_same | ((with_reducible apply at_new); with_reducible assumption) | ((with_reducible apply at_lstT); with_reducible assumption) | ((with_reducible apply at_lstR); with_reducible assumption) | ((with_reducible apply at_set); with_reducible assumption))); done) | ((repeat (first | ((with_reducible apply at_new); with_reducible assumption) | ((with_reducible apply at_lstT); with_reducible assumption) | ((with_reducible apply at_lstR); with_reducible assumption) | ((with_reducible apply at_set); with_reducible assumption))); with_reducible assumption)))
local macro_rules | `(tactic| walk_at "side") => `(tactic| (first | with_reducible assumption | decide | exact MOk.div (by assumption) | exact MOk.div (MOk.of (by decide) (by decide)) | (simp only [List.length_append, List.length_map, List.length_replicate, List.length_cons, List.length_nil, sizeLine_eq, CMul, CDivW, CPow]; omega) | omega))
local macro_rules | `(tactic| walk_at "st") => `(tactic| first
  | with_reducible refine g_cons ?_ | ((with_reducible apply g_var); (first | exact rfl | assumption)) | with_reducible refine g_const ?_ | with_reducible refine g_nil ?_ | with_reducible refine g_op ?_ | with_reducible refine g_rI0 ?_ | with_reducible refine g_seq ?_ | with_reducible refine g_asg ?_ | ((with_reducible refine g_name ?_); dsimp only [List.set_cons_zero, List.set_cons_succ])
  | with_reducible refine g_nx ?_ | with_reducible refine g_rt ?_ | with_reducible refine g_call ?_ | with_reducible refine g_ret ?_ | with_reducible refine g_test ?_ | with_reducible refine g_bl ?_ | with_reducible refine g_cb ?_ | with_reducible refine g_tB ?_ | with_reducible refine g_un ?_ | with_reducible refine g_rU ?_
  | with_reducible refine g_eqi ?_ | with_reducible refine g_int ?_ | with_reducible refine g_and ?_ | with_reducible refine g_or ?_ | with_reducible refine g_not ?_ | with_reducible refine g_drop ?_ | with_reducible refine g_next ?_ | with_reducible refine g_retN ?_ | with_reducible refine g_iteT ?_ | with_reducible refine g_iteF ?_ | with_reducible refine g_iteNT ?_ | with_reducible refine g_iteNF ?_
  | ((with_reducible apply g_ixL); array_mem_dec; (first | exact rfl | assumption)) | ((with_reducible apply g_ixT); array_mem_dec; (first | exact rfl | assumption)) | ((with_reducible apply g_lenL); array_mem_dec) | ((with_reducible apply g_lenT); array_mem_dec) | ((with_reducible apply g_rI); walk_at "side")
  | ((with_reducible apply g_setL); array_get_dec; (first | exact rfl | assumption)) | ((with_reducible apply g_app); array_get_dec; walk_at "side") | with_reducible refine g_tup ?_ | with_reducible refine g_lst ?_ | ((with_reducible apply g_listL); array_mem_dec) | ((with_reducible apply g_listT); array_mem_dec) | ((with_reducible apply g_tupT); array_mem_dec) | ((with_reducible apply g_tupL); array_mem_dec)
  | ((with_reducible apply g_room); walk_at "side") | with_reducible refine g_abs ?_ | with_reducible refine g_chain ?_ | with_reducible refine g_andV ?_ | with_reducible refine g_orV ?_ | with_reducible refine g_notV ?_ | with_reducible refine g_gsub ?_ | ((with_reducible apply g_gtup); array_mem_dec; (first | exact rfl | assumption)) | with_reducible refine g_gcons ?_ | with_reducible refine g_gnil ?_ | with_reducible refine g_bm ?_ | ((with_reducible apply g_tyL); array_mem_dec) | with_reducible refine g_tyS ?_
  | with_reducible refine g_callS ?_ | with_reducible refine g_nei ?_ | with_reducible refine g_eqs ?_ | with_reducible refine g_nes ?_ | with_reducible refine g_eqb ?_ | with_reducible refine g_nonI ?_ | with_reducible refine g_nonN ?_ | with_reducible refine g_nonS ?_ | with_reducible refine g_nonB ?_ | with_reducible refine g_nonR ?_ | with_reducible refine g_isBB ?_ | with_reducible refine g_isBI ?_ | with_reducible refine g_isBS ?_ | with_reducible refine g_isBR ?_ | with_reducible refine g_isBN ?_
  | with_reducible refine g_rng1 ?_ | with_reducible refine g_rng2 ?_ | ((with_reducible apply g_notInR); array_get_dec) | ((with_reducible apply g_inR); array_get_dec) | with_reducible refine g_for ?_ | with_reducible refine g_iList ?_ | with_reducible refine g_iTup ?_ | with_reducible refine g_iR1 ?_ | with_reducible refine g_iEnum ?_ | with_reducible refine g_lc ?_ | with_reducible refine g_yes ?_ | with_reducible refine g_slc ?_ | with_reducible refine g_raise ?_ | with_reducible refine g_exv ?_ | with_reducible refine g_xf ?_ | ((with_reducible apply g_xfe); array_get_dec; (first | exact rfl | assumption)) | with_reducible refine g_part ?_ | with_reducible refine g_nopart ?_ | with_reducible refine g_exi ?_ | with_reducible refine g_brk ?_ | with_reducible refine g_cnt ?_ | with_reducible refine g_bk ?_ | with_reducible refine g_ct ?_ | with_reducible refine g_if ?_
  | with_reducible refine g_augS ?_ | with_reducible refine g_nnR ?_ | with_reducible refine g_nnN ?_ | with_reducible refine g_nnI ?_ | with_reducible refine g_ipI ?_ | ((with_reducible apply g_neL); array_mem_dec; array_mem_dec) | ((with_reducible apply g_eqL); array_mem_dec; array_mem_dec) | ((with_reducible apply g_slL); array_mem_dec) | ((with_reducible apply g_atL); array_mem_dec) | ((with_reducible apply g_atT); array_mem_dec) | ((with_reducible apply g_enum); array_mem_dec) | ((with_reducible apply g_R1); walk_at "side"; walk_at "side")
  | with_reducible refine g_is_int_int ?_ | with_reducible refine g_is_int_bool ?_ | with_reducible refine g_is_int_str ?_ | with_reducible refine g_is_int_dict ?_ | with_reducible refine g_is_int_list ?_ | with_reducible refine g_is_int_tuple ?_ | with_reducible refine g_is_bool_bool ?_ | with_reducible refine g_is_bool_int ?_ | with_reducible refine g_is_str_int ?_ | with_reducible refine g_is_str_str ?_ | with_reducible refine g_is_str_dict ?_ | with_reducible refine g_is_str_list ?_ | with_reducible refine g_is_str_tuple ?_ | ((with_reducible apply g_is_list_int); array_get_dec) | ((with_reducible apply g_is_list_str); array_get_dec) | ((with_reducible apply g_is_list_dict); array_get_dec) | ((with_reducible apply g_is_list_list); array_get_dec) | ((with_reducible apply g_is_list_tuple); array_get_dec) | ((with_reducible apply g_is_tuple_int); array_get_dec) | ((with_reducible apply g_is_tuple_str); array_get_dec) | ((with_reducible apply g_is_tuple_dict); array_get_dec) | ((with_reducible apply g_is_tuple_list); array_get_dec) | ((with_reducible apply g_is_tuple_tuple); array_get_dec) | ((with_reducible apply g_ixSL); array_mem_dec; (first | exact rfl | assumption)) | ((with_reducible apply g_ixST); array_mem_dec; (first | exact rfl | assumption)))
local macro_rules | `(tactic| walk_at "go") => `(tactic| repeat first | with_reducible refine g_ifS ?_ | walk_at "st")
local macro_rules | `(tactic| walk_at "dec") => `(tactic| first | with_reducible assumption | decide | omega)
local macro_rules | `(tactic| walk_at "goD") => `(tactic| repeat first | with_reducible refine g_ifS ?_ | walk_at "st" | ((with_reducible apply g_iteY); walk_at "dec") | ((with_reducible apply g_iteX); walk_at "dec") | ((with_reducible apply g_iteNY); walk_at "dec") | ((with_reducible apply g_iteNX); walk_at "dec"))
local macro_rules | `(tactic| walk_at "goI") => `(tactic| repeat walk_at "st")
section
open FabC
variable {P : Program} {w : World} {K : PySem.W.Frag} {mg : Str → Option Value} {base : Heap}
theorem ok__law_same (T : Txt P K mg) : ∀ n : Nat, FnOk P w K mg base CX0 (n + 2) (ga K "_law_same") (fdOf K "_law_same") ["told", "due"] (sp_same n) := by
  intro n
  induction n with
  | zero => exact T.f__law_same.f.ok sc__law_same (fun vs H Q E h => by obtain ⟨_, _, e, _⟩ := h; rw [e]; rfl) (fun cdv A outer s H vs Q E hr h => by obtain ⟨_, _, _, h, _⟩ := h; exact h.elim)
  | succ n ih =>
  refine T.f__law_same.f.ok sc__law_same (fun vs H Q E h => by obtain ⟨_, _, e, _⟩ := h; rw [e]; rfl) (fun cdv A outer s H vs Q E hr h => ⟨(d__law_same T ih (b__law_same T) hr).1, PSs.nox (d__law_same T ih (b__law_same T) hr).2, ?_⟩)
  dsimp only [d__law_same, cxOf]
  obtain ⟨x, y, rfl, hd, q⟩ := h
  rcases hd with ⟨rfl, rfl⟩ | ⟨b, rfl, rfl⟩ | ⟨i, rfl, rfl⟩ | ⟨z, rfl, rfl⟩ | ⟨a, b, xs, ys, rfl, rfl, hh, hl, hz, hr2⟩
  · rw [show start N__law_same [.non, .non] = [some .non, some .non, none, none] from rfl]
    walk_at "go"
    exact q
  · rw [show start N__law_same [.bl b, .bl b] = [some (.bl b), some (.bl b), none, none] from rfl]
    walk_at "go"
    refine g_ite (fun h => ?_) (fun h => ?_)
    · walk_at "go"
      exact q_of q (by rw [h]; rfl)
    · walk_at "go"
      refine g_ite (fun h2 => ?_) (fun h2 => ?_)
      · walk_at "go"
        exact q_of q (by rw [h2]; rfl)
      · cases b
        · exact absurd rfl h2
        · exact absurd rfl h
  · rw [show start N__law_same [.int i, .int i] = [some (.int i), some (.int i), none, none] from rfl]
    walk_at "go"
    exact q_of q (by simp)
  · rw [show start N__law_same [.str z, .str z] = [some (.str z), some (.str z), none, none] from rfl]
    walk_at "go"
    exact q_of q (by simp)
  · rw [show start N__law_same [.ref a, .ref b] = [some (.ref a), some (.ref b), none, none] from rfl]
    rcases hh with ⟨h1, h2⟩ | ⟨h1, h2⟩
    · walk_at "go"
      refine g_iteN (fun h => absurd (congrArg Int.ofNat hl) h) (fun h => ?_)
      walk_at "go"
      refine for_range (fun i σ H' => ∃ o, σ = [some (.ref a), some (.ref b), none, o] ∧ H' = H) ⟨_, rfl, rfl⟩ ?_ ?_
      · rintro i σ H' hi ⟨o, rfl, rfl⟩
        have hi2 : i < ys.length := by omega
        obtain ⟨u, hu⟩ : ∃ u, xs[i]? = some u := ⟨_, List.getElem?_eq_getElem (by omega)⟩
        obtain ⟨v, hv⟩ : ∃ v, ys[i]? = some v := ⟨_, List.getElem?_eq_getElem (by omega)⟩
        have eu : atI xs (0 + (i : Int)) = some u := by rw [Int.zero_add]; exact atI_nat hu
        have ev : atI ys (0 + (i : Int)) = some v := by rw [Int.zero_add]; exact atI_nat hv
        walk_at "go"
        refine ⟨u, v, rfl, hr2 i u v hu hv, ?_⟩
        walk_at "go"
        exact ⟨_, rfl, rfl⟩
      · rintro σ H' ⟨o, rfl, rfl⟩
        walk_at "go"
        exact q
    · walk_at "go"
      refine g_iteN (fun h => absurd (congrArg Int.ofNat hl) h) (fun h => ?_)
      walk_at "go"
      refine for_range (fun i σ H' => ∃ o, σ = [some (.ref a), some (.ref b), none, o] ∧ H' = H) ⟨_, rfl, rfl⟩ ?_ ?_
      · rintro i σ H' hi ⟨o, rfl, rfl⟩
        have hi2 : i < ys.length := by omega
        obtain ⟨u, hu⟩ : ∃ u, xs[i]? = some u := ⟨_, List.getElem?_eq_getElem (by omega)⟩
        obtain ⟨v, hv⟩ : ∃ v, ys[i]? = some v := ⟨_, List.getElem?_eq_getElem (by omega)⟩
        have eu : atI xs (0 + (i : Int)) = some u := by rw [Int.zero_add]; exact atI_nat hu
        have ev : atI ys (0 + (i : Int)) = some v := by rw [Int.zero_add]; exact atI_nat hv
        walk_at "go"
        refine ⟨u, v, rfl, hr2 i u v hu hv, ?_⟩
        walk_at "go"
        exact ⟨_, rfl, rfl⟩
      · rintro σ H' ⟨o, rfl, rfl⟩
        walk_at "go"
        exact q
end

end K19
set_option maxHeartbeats 4000000
namespace K19
open PySem PySem.Spec PyProof.Rows L2 FabH He
local macro_rules | `(tactic| array_mem_dec) => `(tactic| (first | with_reducible assumption | with_reducible exact SqL.of (by array_get_dec) | with_reducible exact SqT.of (by array_get_dec) | ((repeat (with_reducible first | refine Same.seq (Same.new (by assumption)) ?_ | refine Same.tup (Same.new (by assumption)) ?_)); with_reducible assumption)))
local macro_rules | `(tactic| array_get_dec) => `(tactic| (first | with_reducible assumption | with_reducible exact upd_same | ((repeat (first | with_reducible exact upd_same | ((with_reducible apply at_new); with_reducible assumption) | ((with_reducible apply at_lstT); with_reducible assumption) | ((with_reducible apply at_lstR); with_reducible assumption) | ((with_reducible apply at_set); with_reducible assumption))); done) | ((repeat (first | ((with_reducible apply at_new); with_reducible assumption) | ((with_reducible apply at_lstT); with_reducible assumption) | ((with_reducible apply at_lstR); with_reducible assumption) | ((with_reducible apply at_set); with_reducible assumption))); with_reducible assumption)))
local macro_rules | `(tactic| walk_at "side") => `(tactic| (first | with_reducible assumption | decide | exact MOk.div (by assumption) | exact MOk.div (MOk.of (by decide) (by decide)) | (simp only [List.length_append, List.length_map, List.length_replicate, List.length_cons, List.length_nil, sizeLine_eq, CMul, CDivW, CPow]; omega) | omega))
local macro_rules | `(tactic| walk_at "st") => `(tactic| first
  | with_reducible refine g_cons ?_ | ((with_reducible apply g_var); (first | exact rfl | assumption)) | with_reducible refine g_const ?_ | with_reducible refine g_nil ?_ | with_reducible refine g_op ?_ | with_reducible refine g_rI0 ?_ | with_reducible refine g_seq ?_ | with_reducible refine g_asg ?_ | ((with_reducible refine g_name ?_); dsimp only [List.set_cons_zero, List.set_cons_succ])
  | with_reducible refine g_nx ?_ | with_reducible refine g_rt ?_ | with_reducible refine g_call ?_ | with_reducible refine g_ret ?_ | with_reducible refine g_test ?_ | with_reducible refine g_bl ?_ | with_reducible refine g_cb ?_ | with_reducible refine g_tB ?_ | with_reducible refine g_un ?_ | with_reducible refine g_rU ?_
  | with_reducible refine g_eqi ?_ | with_reducible refine g_int ?_ | with_reducible refine g_and ?_ | with_reducible refine g_or ?_ | with_reducible refine g_not ?_ | with_reducible refine g_drop ?_ | with_reducible refine g_next ?_ | with_reducible refine g_retN ?_ | with_reducible refine g_iteT ?_ | with_reducible refine g_iteF ?_ | with_reducible refine g_iteNT ?_ | with_reducible refine g_iteNF ?_
  | ((with_reducible apply g_ixL); array_mem_dec; (first | exact rfl | assumption)) | ((with_reducible apply g_ixT); array_mem_dec; (first | exact rfl | assumption)) | ((with_reducible apply g_lenL); array_mem_dec) | ((with_reducible apply g_lenT); array_mem_dec) | ((with_reducible apply g_rI); walk_at "side")
  | ((with_reducible apply g_setL); array_get_dec; (first | exact rfl | assumption)) | ((with_reducible apply g_app); array_get_dec; walk_at "side") | with_reducible refine g_tup ?_ | with_reducible refine g_lst ?_ | ((with_reducible apply g_listL); array_mem_dec) | ((with_reducible apply g_listT); array_mem_dec) | ((with_reducible apply g_tupT); array_mem_dec) | ((with_reducible apply g_tupL); array_mem_dec)
  | ((with_reducible apply g_room); walk_at "side") | with_reducible refine g_abs ?_ | with_reducible refine g_chain ?_ | with_reducible refine g_andV ?_ | with_reducible refine g_orV ?_ | with_reducible refine g_notV ?_ | with_reducible refine g_gsub ?_ | ((with_reducible apply g_gtup); array_mem_dec; (first | exact rfl | assumption)) | with_reducible refine g_gcons ?_ | with_reducible refine g_gnil ?_ | with_reducible refine g_bm ?_ | ((with_reducible apply g_tyL); array_mem_dec) | with_reducible refine g_tyS ?_
  | with_reducible refine g_callS ?_ | with_reducible refine g_nei ?_ | with_reducible refine g_eqs ?_ | with_reducible refine g_nes ?_ | with_reducible refine g_eqb ?_ | with_reducible refine g_nonI ?_ | with_reducible refine g_nonN ?_ | with_reducible refine g_nonS ?_ | with_reducible refine g_nonB ?_ | with_reducible refine g_nonR ?_ | with_reducible refine g_isBB ?_ | with_reducible refine g_isBI ?_ | with_reducible refine g_isBS ?_ | with_reducible refine g_isBR ?_ | with_reducible refine g_isBN ?_
  | with_reducible refine g_rng1 ?_ | with_reducible refine g_rng2 ?_ | ((with_reducible apply g_notInR); array_get_dec) | ((with_reducible apply g_inR); array_get_dec) | with_reducible refine g_for ?_ | with_reducible refine g_iList ?_ | with_reducible refine g_iTup ?_ | with_reducible refine g_iR1 ?_ | with_reducible refine g_iEnum ?_ | with_reducible refine g_lc ?_ | with_reducible refine g_yes ?_ | with_reducible refine g_slc ?_ | with_reducible refine g_raise ?_ | with_reducible refine g_exv ?_ | with_reducible refine g_xf ?_ | ((with_reducible apply g_xfe); array_get_dec; (first | exact rfl | assumption)) | with_reducible refine g_part ?_ | with_reducible refine g_nopart ?_ | with_reducible refine g_exi ?_ | with_reducible refine g_brk ?_ | with_reducible refine g_cnt ?_ | with_reducible refine g_bk ?_ | with_reducible refine g_ct ?_ | with_reducible refine g_if ?_
  | with_reducible refine g_augS ?_ | with_reducible refine g_nnR ?_ | with_reducible refine g_nnN ?_ | with_reducible refine g_nnI ?_ | with_reducible refine g_ipI ?_ | ((with_reducible apply g_neL); array_mem_dec; array_mem_dec) | ((with_reducible apply g_eqL); array_mem_dec; array_mem_dec) | ((with_reducible apply g_slL); array_mem_dec) | ((with_reducible apply g_atL); array_mem_dec) | ((with_reducible apply g_atT); array_mem_dec) | ((with_reducible apply g_enum); array_mem_dec) | ((with_reducible apply g_R1); walk_at "side"; walk_at "side")
  | with_reducible refine g_is_int_int ?_ | with_reducible refine g_is_int_bool ?_ | with_reducible refine g_is_int_str ?_ | with_reducible refine g_is_int_dict ?_ | with_reducible refine g_is_int_list ?_ | with_reducible refine g_is_int_tuple ?_ | with_reducible refine g_is_bool_bool ?_ | with_reducible refine g_is_bool_int ?_ | with_reducible refine g_is_str_int ?_ | with_reducible refine g_is_str_str ?_ | with_reducible refine g_is_str_dict ?_ | with_reducible refine g_is_str_list ?_ | with_reducible refine g_is_str_tuple ?_ | ((with_reducible apply g_is_list_int); array_get_dec) | ((with_reducible apply g_is_list_str); array_get_dec) | ((with_reducible apply g_is_list_dict); array_get_dec) | ((with_reducible apply g_is_list_list); array_get_dec) | ((with_reducible apply g_is_list_tuple); array_get_dec) | ((with_reducible apply g_is_tuple_int); array_get_dec) | ((with_reducible apply g_is_tuple_str); array_get_dec) | ((with_reducible apply g_is_tuple_dict); array_get_dec) | ((with_reducible apply g_is_tuple_list); array_get_dec) | ((with_reducible apply g_is_tuple_tuple); array_get_dec) | ((with_reducible apply g_ixSL); array_mem_dec; (first | exact rfl | assumption)) | ((with_reducible apply g_ixST); array_mem_dec; (first | exact rfl | assumption)))
local macro_rules | `(tactic| walk_at "go") => `(tactic| repeat first | with_reducible refine g_ifS ?_ | walk_at "st")
local macro_rules | `(tactic| walk_at "dec") => `(tactic| first | with_reducible assumption | decide | omega)
local macro_rules | `(tactic| walk_at "goD") => `(tactic| repeat first | with_reducible refine g_ifS ?_ | walk_at "st" | ((with_reducible apply g_iteY); walk_at "dec") | ((with_reducible apply g_iteX); walk_at "dec") | ((with_reducible apply g_iteNY); walk_at "dec") | ((with_reducible apply g_iteNX); walk_at "dec"))
local macro_rules | `(tactic| walk_at "goI") => `(tactic| repeat walk_at "st")
section
open FabC
variable {P : Program} {w : World} {K : PySem.W.Frag} {mg : Str → Option Value} {base : Heap}
theorem ok__law_bits (T : Txt P K mg)  : FnOk P w K mg base CX0 1 (ga K "_law_bits") (fdOf K "_law_bits") ["value", "count"] (sp__law_bits) := by
  refine T.f__law_bits.f.ok sc__law_bits (fun vs H Q E h => by obtain ⟨_, _, e, _⟩ := h; rw [e]; rfl) (fun cdv A outer s H vs Q E hr h => ⟨(d__law_bits T  hr).1, PSs.nox (d__law_bits T  hr).2, ?_⟩)
  dsimp only [d__law_bits, cxOf]
  obtain ⟨v, n, rfl, n0, n1, q⟩ := h
  rw [show start N__law_bits [.int v, .int n] = [some (.int v), some (.int n), none] from rfl]
  walk_at "go"
  intro D hD
  refine lc_range (fun i H2 => Same H H2 ∧ H2 D = some (.lst ((bitsOf v i).map V.int))) ⟨.new hD, upd_same⟩ ?_ ?_
  · rintro i H2 hi ⟨s2, hD2⟩
    have bl := bitsOf_length v i
    dsimp only [wipe, List.map]
    walk_at "go"
    refine ⟨rfl, ?_⟩
    walk_at "go"
    refine ⟨_, hD2, by walk_at "side", Same.setNew s2 hD, ?_⟩
    rw [upd_same, bitsOf_succ, band1]
    simp
  · rintro H2 ⟨s2, hD2⟩
    walk_at "go"
    exact q _ _ s2 ⟨D, rfl, hD, hD2⟩
end

end K19
set_option maxHeartbeats 4000000
namespace K19
open PySem PySem.Spec PyProof.Rows L2 FabH He
local macro_rules | `(tactic| array_mem_dec) => `(tactic| (first | with_reducible assumption | with_reducible exact SqL.of (by array_get_dec) | with_reducible exact SqT.of (by array_get_dec) | ((repeat (with_reducible first | refine Same.seq (Same.new (by assumption)) ?_ | refine Same.tup (Same.new (by assumption)) ?_)); with_reducible assumption)))
local macro_rules | `(tactic| array_get_dec) => `(tactic| (first | with_reducible assumption | with_reducible exact upd_same | ((repeat (first | with_reducible exact upd_same | ((with_reducible apply at_new); with_reducible assumption) | ((with_reducible apply at_lstT); with_reducible assumption) | ((with_reducible apply at_lstR); with_reducible assumption) | ((with_reducible apply at_set); with_reducible assumption))); done) | ((repeat (first | ((with_reducible apply at_new); with_reducible assumption) | ((with_reducible apply at_lstT); with_reducible assumption) | ((with_reducible apply at_lstR); with_reducible assumption) | ((with_reducible apply at_set); with_reducible assumption))); with_reducible assumption)))
local macro_rules | `(tactic| walk_at "side") => `(tactic| (first | with_reducible assumption | decide | exact MOk.div (by assumption) | exact MOk.div (MOk.of (by decide) (by decide)) | (simp only [List.length_append, List.length_map, List.length_replicate, List.length_cons, List.length_nil, sizeLine_eq, CMul, CDivW, CPow]; omega) | omega))
local macro_rules | `(tactic| walk_at "st") => `(tactic| first
  | with_reducible refine g_cons ?_ | ((with_reducible apply g_var); (first | exact rfl | assumption)) | with_reducible refine g_const ?_ | with_reducible refine g_nil ?_ | with_reducible refine g_op ?_ | with_reducible refine g_rI0 ?_ | with_reducible refine g_seq ?_ | with_reducible refine g_asg ?_ | ((with_reducible refine g_name ?_); dsimp only [List.set_cons_zero, List.set_cons_succ])
  | with_reducible refine g_nx ?_ | with_reducible refine g_rt ?_ | with_reducible refine g_call ?_ | with_reducible refine g_ret ?_ | with_reducible refine g_test ?_ | with_reducible refine g_bl ?_ | with_reducible refine g_cb ?_ | with_reducible refine g_tB ?_ | with_reducible refine g_un ?_ | with_reducible refine g_rU ?_
  | with_reducible refine g_eqi ?_ | with_reducible refine g_int ?_ | with_reducible refine g_and ?_ | with_reducible refine g_or ?_ | with_reducible refine g_not ?_ | with_reducible refine g_drop ?_ | with_reducible refine g_next ?_ | with_reducible refine g_retN ?_ | with_reducible refine g_iteT ?_ | with_reducible refine g_iteF ?_ | with_reducible refine g_iteNT ?_ | with_reducible refine g_iteNF ?_
  | ((with_reducible apply g_ixL); array_mem_dec; (first | exact rfl | assumption)) | ((with_reducible apply g_ixT); array_mem_dec; (first | exact rfl | assumption)) | ((with_reducible apply g_lenL); array_mem_dec) | ((with_reducible apply g_lenT); array_mem_dec) | ((with_reducible apply g_rI); walk_at "side")
  | ((with_reducible apply g_setL); array_get_dec; (first | exact rfl | assumption)) | ((with_reducible apply g_app); array_get_dec; walk_at "side") | with_reducible refine g_tup ?_ | with_reducible refine g_lst ?_ | ((with_reducible apply g_listL); array_mem_dec) | ((with_reducible apply g_listT); array_mem_dec) | ((with_reducible apply g_tupT); array_mem_dec) | ((with_reducible apply g_tupL); array_mem_dec)
  | ((with_reducible apply g_room); walk_at "side") | with_reducible refine g_abs ?_ | with_reducible refine g_chain ?_ | with_reducible refine g_andV ?_ | with_reducible refine g_orV ?_ | with_reducible refine g_notV ?_ | with_reducible refine g_gsub ?_ | ((with_reducible apply g_gtup); array_mem_dec; (first | exact rfl | assumption)) | with_reducible refine g_gcons ?_ | with_reducible refine g_gnil ?_ | with_reducible refine g_bm ?_ | ((with_reducible apply g_tyL); array_mem_dec) | with_reducible refine g_tyS ?_
  | with_reducible refine g_callS ?_ | with_reducible refine g_nei ?_ | with_reducible refine g_eqs ?_ | with_reducible refine g_nes ?_ | with_reducible refine g_eqb ?_ | with_reducible refine g_nonI ?_ | with_reducible refine g_nonN ?_ | with_reducible refine g_nonS ?_ | with_reducible refine g_nonB ?_ | with_reducible refine g_nonR ?_ | with_reducible refine g_isBB ?_ | with_reducible refine g_isBI ?_ | with_reducible refine g_isBS ?_ | with_reducible refine g_isBR ?_ | with_reducible refine g_isBN ?_
  | with_reducible refine g_rng1 ?_ | with_reducible refine g_rng2 ?_ | ((with_reducible apply g_notInR); array_get_dec) | ((with_reducible apply g_inR); array_get_dec) | with_reducible refine g_for ?_ | with_reducible refine g_iList ?_ | with_reducible refine g_iTup ?_ | with_reducible refine g_iR1 ?_ | with_reducible refine g_iEnum ?_ | with_reducible refine g_lc ?_ | with_reducible refine g_yes ?_ | with_reducible refine g_slc ?_ | with_reducible refine g_raise ?_ | with_reducible refine g_exv ?_ | with_reducible refine g_xf ?_ | ((with_reducible apply g_xfe); array_get_dec; (first | exact rfl | assumption)) | with_reducible refine g_part ?_ | with_reducible refine g_nopart ?_ | with_reducible refine g_exi ?_ | with_reducible refine g_brk ?_ | with_reducible refine g_cnt ?_ | with_reducible refine g_bk ?_ | with_reducible refine g_ct ?_ | with_reducible refine g_if ?_
  | with_reducible refine g_augS ?_ | with_reducible refine g_nnR ?_ | with_reducible refine g_nnN ?_ | with_reducible refine g_nnI ?_ | with_reducible refine g_ipI ?_ | ((with_reducible apply g_neL); array_mem_dec; array_mem_dec) | ((with_reducible apply g_eqL); array_mem_dec; array_mem_dec) | ((with_reducible apply g_slL); array_mem_dec) | ((with_reducible apply g_atL); array_mem_dec) | ((with_reducible apply g_atT); array_mem_dec) | ((with_reducible apply g_enum); array_mem_dec) | ((with_reducible apply g_R1); walk_at "side"; walk_at "side")
  | with_reducible refine g_is_int_int ?_ | with_reducible refine g_is_int_bool ?_ | with_reducible refine g_is_int_str ?_ | with_reducible refine g_is_int_dict ?_ | with_reducible refine g_is_int_list ?_ | with_reducible refine g_is_int_tuple ?_ | with_reducible refine g_is_bool_bool ?_ | with_reducible refine g_is_bool_int ?_ | with_reducible refine g_is_str_int ?_ | with_reducible refine g_is_str_str ?_ | with_reducible refine g_is_str_dict ?_ | with_reducible refine g_is_str_list ?_ | with_reducible refine g_is_str_tuple ?_ | ((with_reducible apply g_is_list_int); array_get_dec) | ((with_reducible apply g_is_list_str); array_get_dec) | ((with_reducible apply g_is_list_dict); array_get_dec) | ((with_reducible apply g_is_list_list); array_get_dec) | ((with_reducible apply g_is_list_tuple); array_get_dec) | ((with_reducible apply g_is_tuple_int); array_get_dec) | ((with_reducible apply g_is_tuple_str); array_get_dec) | ((with_reducible apply g_is_tuple_dict); array_get_dec) | ((with_reducible apply g_is_tuple_list); array_get_dec) | ((with_reducible apply g_is_tuple_tuple); array_get_dec) | ((with_reducible apply g_ixSL); array_mem_dec; (first | exact rfl | assumption)) | ((with_reducible apply g_ixST); array_mem_dec; (first | exact rfl | assumption)))
local macro_rules | `(tactic| walk_at "go") => `(tactic| repeat first | with_reducible refine g_ifS ?_ | walk_at "st")
local macro_rules | `(tactic| walk_at "dec") => `(tactic| first | with_reducible assumption | decide | omega)
local macro_rules | `(tactic| walk_at "goD") => `(tactic| repeat first | with_reducible refine g_ifS ?_ | walk_at "st" | ((with_reducible apply g_iteY); walk_at "dec") | ((with_reducible apply g_iteX); walk_at "dec") | ((with_reducible apply g_iteNY); walk_at "dec") | ((with_reducible apply g_iteNX); walk_at "dec"))
local macro_rules | `(tactic| walk_at "goI") => `(tactic| repeat walk_at "st")
section
open FabC
variable {P : Program} {w : World} {K : PySem.W.Frag} {mg : Str → Option Value} {base : Heap}
theorem ok__law_worths (T : Txt P K mg)  : FnOk P w K mg base CX0 1 (ga K "_law_worths") (fdOf K "_law_worths") ["circuit", "values"] (sp__law_worths) := by
  refine T.f__law_worths.f.ok sc__law_worths (fun vs H Q E h => by obtain ⟨_, _, _, _, e, _⟩ := h; rw [e]; rfl) (fun cdv A outer s H vs Q E hr h => ⟨(d__law_worths T  hr).1, PSs.nox (d__law_worths T  hr).2, ?_⟩)
  dsimp only [d__law_worths, cxOf]
  obtain ⟨u, v, c, xs, rfl, hc, gd, ⟨b, rfl, hs⟩, hb, hz, q⟩ := h
  obtain ⟨a, ga, ea, vs, rfl, h1, h2, h3, h4⟩ := id hc
  have vl := h3.1
  have gg := gd.g
  have gf := gd.f
  rw [show start N__law_worths [.ref a, .ref b] = [some (.ref a), some (.ref b), none, none, none, none] from rfl]
  walk_at "go"
  intro l hl
  walk_at "go"
  refine for_tup (fun i σ H' => ∃ o3 o4 o5, σ = [some (.ref a), some (.ref b), some (.ref l), o3, o4, o5] ∧ Same H H' ∧ H' l = some (.lst ((worths (c.gates.take i) xs).map V.int))) ⟨_, _, _, rfl, .new hl, upd_same⟩ (fun i σ H' _ ⟨_, _, _, _, sm, _⟩ => .of (sm _ _ h2)) ?_ ?_
  · rintro i x σ H' hx ⟨o3, o4, o5, rfl, sm, hl2⟩
    have hi : i < c.gates.length := by
      have := (List.getElem?_eq_some_iff.mp hx).1
      omega
    obtain ⟨g, hg⟩ : ∃ g, c.gates[i]? = some g := ⟨_, List.getElem?_eq_getElem hi⟩
    obtain ⟨t, rfl, ht⟩ := (h3.2 i x g hx hg).same sm
    have wl := worths_take_length (c := c) (xs := xs) (Nat.le_of_lt hi)
    have gw := gate_wires gd.wf hg
    have wb : Bits (worths (c.gates.take i) xs) := worths_bits hb
    have b1 := valOf_bit wb g.2.1
    have b2 := valOf_bit wb g.2.2
    walk_at "goI"
    refine g_keep (fun σ H2 => σ = [some (.ref a), some (.ref b), some (.ref l), some (.ref t), some (.int (valOf (worths (c.gates.take i) xs) g.2.1)), some (.int 0)] ∧ H2 = H') ?_ (fun f fin => ?_)
    rotate_left
    · walk_at "go"
      refine g_ite (fun e => ?_) (fun e => ?_)
      · have e2 := valOf_at (vs := worths (c.gates.take i) xs) (w := g.2.1) e (by omega)
        walk_at "go"
        exact fin _ _ ⟨rfl, rfl⟩
      · walk_at "go"
        refine fin _ _ ⟨?_, rfl⟩
        rw [show g.2.1 = -1 by omega]
        rfl
    rintro σ H2 ⟨rfl, rfl⟩
    walk_at "goI"
    refine g_keep (fun σ H3 => σ = [some (.ref a), some (.ref b), some (.ref l), some (.ref t), some (.int (valOf (worths (c.gates.take i) xs) g.2.1)), some (.int (valOf (worths (c.gates.take i) xs) g.2.2))] ∧ H3 = H2) ?_ (fun f fin => ?_)
    rotate_left
    · walk_at "go"
      refine g_ite (fun e => ?_) (fun e => ?_)
      · have e2 := valOf_at (vs := worths (c.gates.take i) xs) (w := g.2.2) e (by omega)
        walk_at "go"
        exact fin _ _ ⟨rfl, rfl⟩
      · walk_at "go"
        refine fin _ _ ⟨?_, rfl⟩
        rw [show g.2.2 = -1 by omega]
        rfl
    rintro σ H2 ⟨rfl, rfl⟩
    walk_at "go"
    refine ⟨_, _, _, rfl, Same.setNew sm hl, ?_⟩
    rw [upd_same, worths_take hg, List.map_append]
    rfl
  · rintro σ H' ⟨o3, o4, o5, rfl, sm, hl2⟩
    walk_at "go"
    rw [vl, take_all] at hl2
    exact q _ _ sm ⟨l, rfl, hl, hl2⟩
end

end K19
set_option maxHeartbeats 4000000
namespace K19
open PySem PySem.Spec PyProof.Rows L2 FabH He
local macro_rules | `(tactic| array_mem_dec) => `(tactic| (first | with_reducible assumption | with_reducible exact SqL.of (by array_get_dec) | with_reducible exact SqT.of (by array_get_dec) | ((repeat (with_reducible first | refine Same.seq (Same.new (by assumption)) ?_ | refine Same.tup (Same.new (by assumption)) ?_)); with_reducible assumption)))
local macro_rules | `(tactic| array_get_dec) => `(tactic| (first | with_reducible assumption | with_reducible exact upd_same | ((repeat (first | with_reducible exact upd_same | ((with_reducible apply at_new); with_reducible assumption) | ((with_reducible apply at_lstT); with_reducible assumption) | ((with_reducible apply at_lstR); with_reducible assumption) | ((with_reducible apply at_set); with_reducible assumption))); done) | ((repeat (first | ((with_reducible apply at_new); with_reducible assumption) | ((with_reducible apply at_lstT); with_reducible assumption) | ((with_reducible apply at_lstR); with_reducible assumption) | ((with_reducible apply at_set); with_reducible assumption))); with_reducible assumption)))
local macro_rules | `(tactic| walk_at "side") => `(tactic| (first | with_reducible assumption | decide | exact MOk.div (by assumption) | exact MOk.div (MOk.of (by decide) (by decide)) | (simp only [List.length_append, List.length_map, List.length_replicate, List.length_cons, List.length_nil, sizeLine_eq, CMul, CDivW, CPow]; omega) | omega))
local macro_rules | `(tactic| walk_at "st") => `(tactic| first
  | with_reducible refine g_cons ?_ | ((with_reducible apply g_var); (first | exact rfl | assumption)) | with_reducible refine g_const ?_ | with_reducible refine g_nil ?_ | with_reducible refine g_op ?_ | with_reducible refine g_rI0 ?_ | with_reducible refine g_seq ?_ | with_reducible refine g_asg ?_ | ((with_reducible refine g_name ?_); dsimp only [List.set_cons_zero, List.set_cons_succ])
  | with_reducible refine g_nx ?_ | with_reducible refine g_rt ?_ | with_reducible refine g_call ?_ | with_reducible refine g_ret ?_ | with_reducible refine g_test ?_ | with_reducible refine g_bl ?_ | with_reducible refine g_cb ?_ | with_reducible refine g_tB ?_ | with_reducible refine g_un ?_ | with_reducible refine g_rU ?_
  | with_reducible refine g_eqi ?_ | with_reducible refine g_int ?_ | with_reducible refine g_and ?_ | with_reducible refine g_or ?_ | with_reducible refine g_not ?_ | with_reducible refine g_drop ?_ | with_reducible refine g_next ?_ | with_reducible refine g_retN ?_ | with_reducible refine g_iteT ?_ | with_reducible refine g_iteF ?_ | with_reducible refine g_iteNT ?_ | with_reducible refine g_iteNF ?_
  | ((with_reducible apply g_ixL); array_mem_dec; (first | exact rfl | assumption)) | ((with_reducible apply g_ixT); array_mem_dec; (first | exact rfl | assumption)) | ((with_reducible apply g_lenL); array_mem_dec) | ((with_reducible apply g_lenT); array_mem_dec) | ((with_reducible apply g_rI); walk_at "side")
  | ((with_reducible apply g_setL); array_get_dec; (first | exact rfl | assumption)) | ((with_reducible apply g_app); array_get_dec; walk_at "side") | with_reducible refine g_tup ?_ | with_reducible refine g_lst ?_ | ((with_reducible apply g_listL); array_mem_dec) | ((with_reducible apply g_listT); array_mem_dec) | ((with_reducible apply g_tupT); array_mem_dec) | ((with_reducible apply g_tupL); array_mem_dec)
  | ((with_reducible apply g_room); walk_at "side") | with_reducible refine g_abs ?_ | with_reducible refine g_chain ?_ | with_reducible refine g_andV ?_ | with_reducible refine g_orV ?_ | with_reducible refine g_notV ?_ | with_reducible refine g_gsub ?_ | ((with_reducible apply g_gtup); array_mem_dec; (first | exact rfl | assumption)) | with_reducible refine g_gcons ?_ | with_reducible refine g_gnil ?_ | with_reducible refine g_bm ?_ | ((with_reducible apply g_tyL); array_mem_dec) | with_reducible refine g_tyS ?_
  | with_reducible refine g_callS ?_ | with_reducible refine g_nei ?_ | with_reducible refine g_eqs ?_ | with_reducible refine g_nes ?_ | with_reducible refine g_eqb ?_ | with_reducible refine g_nonI ?_ | with_reducible refine g_nonN ?_ | with_reducible refine g_nonS ?_ | with_reducible refine g_nonB ?_ | with_reducible refine g_nonR ?_ | with_reducible refine g_isBB ?_ | with_reducible refine g_isBI ?_ | with_reducible refine g_isBS ?_ | with_reducible refine g_isBR ?_ | with_reducible refine g_isBN ?_
  | with_reducible refine g_rng1 ?_ | with_reducible refine g_rng2 ?_ | ((with_reducible apply g_notInR); array_get_dec) | ((with_reducible apply g_inR); array_get_dec) | with_reducible refine g_for ?_ | with_reducible refine g_iList ?_ | with_reducible refine g_iTup ?_ | with_reducible refine g_iR1 ?_ | with_reducible refine g_iEnum ?_ | with_reducible refine g_lc ?_ | with_reducible refine g_yes ?_ | with_reducible refine g_slc ?_ | with_reducible refine g_raise ?_ | with_reducible refine g_exv ?_ | with_reducible refine g_xf ?_ | ((with_reducible apply g_xfe); array_get_dec; (first | exact rfl | assumption)) | with_reducible refine g_part ?_ | with_reducible refine g_nopart ?_ | with_reducible refine g_exi ?_ | with_reducible refine g_brk ?_ | with_reducible refine g_cnt ?_ | with_reducible refine g_bk ?_ | with_reducible refine g_ct ?_ | with_reducible refine g_if ?_
  | with_reducible refine g_augS ?_ | with_reducible refine g_nnR ?_ | with_reducible refine g_nnN ?_ | with_reducible refine g_nnI ?_ | with_reducible refine g_ipI ?_ | ((with_reducible apply g_neL); array_mem_dec; array_mem_dec) | ((with_reducible apply g_eqL); array_mem_dec; array_mem_dec) | ((with_reducible apply g_slL); array_mem_dec) | ((with_reducible apply g_atL); array_mem_dec) | ((with_reducible apply g_atT); array_mem_dec) | ((with_reducible apply g_enum); array_mem_dec) | ((with_reducible apply g_R1); walk_at "side"; walk_at "side")
  | with_reducible refine g_is_int_int ?_ | with_reducible refine g_is_int_bool ?_ | with_reducible refine g_is_int_str ?_ | with_reducible refine g_is_int_dict ?_ | with_reducible refine g_is_int_list ?_ | with_reducible refine g_is_int_tuple ?_ | with_reducible refine g_is_bool_bool ?_ | with_reducible refine g_is_bool_int ?_ | with_reducible refine g_is_str_int ?_ | with_reducible refine g_is_str_str ?_ | with_reducible refine g_is_str_dict ?_ | with_reducible refine g_is_str_list ?_ | with_reducible refine g_is_str_tuple ?_ | ((with_reducible apply g_is_list_int); array_get_dec) | ((with_reducible apply g_is_list_str); array_get_dec) | ((with_reducible apply g_is_list_dict); array_get_dec) | ((with_reducible apply g_is_list_list); array_get_dec) | ((with_reducible apply g_is_list_tuple); array_get_dec) | ((with_reducible apply g_is_tuple_int); array_get_dec) | ((with_reducible apply g_is_tuple_str); array_get_dec) | ((with_reducible apply g_is_tuple_dict); array_get_dec) | ((with_reducible apply g_is_tuple_list); array_get_dec) | ((with_reducible apply g_is_tuple_tuple); array_get_dec) | ((with_reducible apply g_ixSL); array_mem_dec; (first | exact rfl | assumption)) | ((with_reducible apply g_ixST); array_mem_dec; (first | exact rfl | assumption)))
local macro_rules | `(tactic| walk_at "go") => `(tactic| repeat first | with_reducible refine g_ifS ?_ | walk_at "st")
local macro_rules | `(tactic| walk_at "dec") => `(tactic| first | with_reducible assumption | decide | omega)
local macro_rules | `(tactic| walk_at "goD") => `(tactic| repeat first | with_reducible refine g_ifS ?_ | walk_at "st" | ((with_reducible apply g_iteY); walk_at "dec") | ((with_reducible apply g_iteX); walk_at "dec") | ((with_reducible apply g_iteNY); walk_at "dec") | ((with_reducible apply g_iteNX); walk_at "dec"))
local macro_rules | `(tactic| walk_at "goI") => `(tactic| repeat walk_at "st")
section
open FabC
variable {P : Program} {w : World} {K : PySem.W.Frag} {mg : Str → Option Value} {base : Heap}
theorem ok__law_shown (T : Txt P K mg) (G__law_worths : FnOk P w K mg base CX0 1 (ga K "_law_worths") (fdOf K "_law_worths") ["circuit", "values"] (sp__law_worths)) : FnOk P w K mg base CX0 2 (ga K "_law_shown") (fdOf K "_law_shown") ["circuit", "values"] (sp__law_shown) := by
  refine T.f__law_shown.f.ok sc__law_shown (fun vs H Q E h => by obtain ⟨_, _, _, _, e, _⟩ := h; rw [e]; rfl) (fun cdv A outer s H vs Q E hr h => ⟨(d__law_shown T G__law_worths (b__law_worths T) hr).1, PSs.nox (d__law_shown T G__law_worths (b__law_worths T) hr).2, ?_⟩)
  dsimp only [d__law_shown, cxOf]
  obtain ⟨u, v, c, xs, rfl, hc, gd, hs, hb, hz, q⟩ := h
  obtain ⟨a, ga, ea, vs, rfl, h1, h2, h3, h4⟩ := id hc
  have ge := gd.e
  rw [show start N__law_shown [.ref a, v] = [some (.ref a), some (v), none, none, none] from rfl]
  walk_at "go"
  refine ⟨_, _, c, xs, rfl, hc, gd, hs, hb, hz, fun w H1 s1 hw => ?_⟩
  obtain ⟨lw, rfl, nw, hw⟩ := hw
  have h1' := s1 _ _ h1
  have h4' := s1 _ _ h4
  walk_at "go"
  intro l hl
  walk_at "go"
  have h4'' := at_new (x := .lst []) hl h4'
  refine for_tup (fun i σ H' => ∃ o4, σ = [some (.ref a), some v, some (.ref lw), some (.ref l), o4] ∧ Same H1 H' ∧ H' l = some (.lst (((c.ends.take i).map (valOf (worths c.gates xs))).map V.int))) ⟨_, rfl, .new hl, upd_same⟩ (fun i σ H' _ ⟨_, _, sm, _⟩ => .of (sm _ _ h4')) ?_ ?_
  · rintro i x σ H2 hx ⟨o4, rfl, sm, hl2⟩
    rw [List.getElem?_map] at hx
    obtain ⟨z, hz2, rfl⟩ := Option.map_eq_some_iff.mp hx
    have zw := wireOk_iff.mp (gd.wf.e i z hz2)
    have wl := worths_length c.gates xs
    have il := (List.getElem?_eq_some_iff.mp hz2).1
    have hw2 := sm _ _ hw
    have room : (((c.ends.take i).map (valOf (worths c.gates xs))).map V.int).length < sizeLine := by rw [List.length_map, List.length_map, List.length_take, sizeLine_eq]; omega
    walk_at "go"
    refine g_ite (fun e => ?_) (fun e => ?_)
    · have e2 := valOf_at (vs := worths c.gates xs) (w := z) e (by omega)
      walk_at "go"
      refine ⟨_, rfl, Same.setNew sm hl, ?_⟩
      rw [upd_same, take_snoc hz2]
      simp
    · walk_at "go"
      refine ⟨_, rfl, Same.setNew sm hl, ?_⟩
      rw [upd_same, take_snoc hz2, show z = -1 by omega]
      simp [FabC.valOf]
  · rintro σ H2 ⟨o4, rfl, sm, hl2⟩
    rw [List.length_map, take_all] at hl2
    walk_at "go"
    exact q _ _ (s1.trans sm) ⟨l, rfl, s1.free hl, hl2⟩
end

end K19
set_option maxHeartbeats 4000000
namespace K19
open PySem PySem.Spec PyProof.Rows L2 FabH He
local macro_rules | `(tactic| array_mem_dec) => `(tactic| (first | with_reducible assumption | with_reducible exact SqL.of (by array_get_dec) | with_reducible exact SqT.of (by array_get_dec) | ((repeat (with_reducible first | refine Same.seq (Same.new (by assumption)) ?_ | refine Same.tup (Same.new (by assumption)) ?_)); with_reducible assumption)))
local macro_rules | `(tactic| array_get_dec) => `(tactic| (first | with_reducible assumption | with_reducible exact upd_same | ((repeat (first | with_reducible exact upd_same | ((with_reducible apply at_new); with_reducible assumption) | ((with_reducible apply at_lstT); with_reducible assumption) | ((with_reducible apply at_lstR); with_reducible assumption) | ((with_reducible apply at_set); with_reducible assumption))); done) | ((repeat (first | ((with_reducible apply at_new); with_reducible assumption) | ((with_reducible apply at_lstT); with_reducible assumption) | ((with_reducible apply at_lstR); with_reducible assumption) | ((with_reducible apply at_set); with_reducible assumption))); with_reducible assumption)))
local macro_rules | `(tactic| walk_at "side") => `(tactic| (first | with_reducible assumption | decide | exact MOk.div (by assumption) | exact MOk.div (MOk.of (by decide) (by decide)) | (simp only [List.length_append, List.length_map, List.length_replicate, List.length_cons, List.length_nil, sizeLine_eq, CMul, CDivW, CPow]; omega) | omega))
local macro_rules | `(tactic| walk_at "st") => `(tactic| first
  | with_reducible refine g_cons ?_ | ((with_reducible apply g_var); (first | exact rfl | assumption)) | with_reducible refine g_const ?_ | with_reducible refine g_nil ?_ | with_reducible refine g_op ?_ | with_reducible refine g_rI0 ?_ | with_reducible refine g_seq ?_ | with_reducible refine g_asg ?_ | ((with_reducible refine g_name ?_); dsimp only [List.set_cons_zero, List.set_cons_succ])
  | with_reducible refine g_nx ?_ | with_reducible refine g_rt ?_ | with_reducible refine g_call ?_ | with_reducible refine g_ret ?_ | with_reducible refine g_test ?_ | with_reducible refine g_bl ?_ | with_reducible refine g_cb ?_ | with_reducible refine g_tB ?_ | with_reducible refine g_un ?_ | with_reducible refine g_rU ?_
  | with_reducible refine g_eqi ?_ | with_reducible refine g_int ?_ | with_reducible refine g_and ?_ | with_reducible refine g_or ?_ | with_reducible refine g_not ?_ | with_reducible refine g_drop ?_ | with_reducible refine g_next ?_ | with_reducible refine g_retN ?_ | with_reducible refine g_iteT ?_ | with_reducible refine g_iteF ?_ | with_reducible refine g_iteNT ?_ | with_reducible refine g_iteNF ?_
  | ((with_reducible apply g_ixL); array_mem_dec; (first | exact rfl | assumption)) | ((with_reducible apply g_ixT); array_mem_dec; (first | exact rfl | assumption)) | ((with_reducible apply g_lenL); array_mem_dec) | ((with_reducible apply g_lenT); array_mem_dec) | ((with_reducible apply g_rI); walk_at "side")
  | ((with_reducible apply g_setL); array_get_dec; (first | exact rfl | assumption)) | ((with_reducible apply g_app); array_get_dec; walk_at "side") | with_reducible refine g_tup ?_ | with_reducible refine g_lst ?_ | ((with_reducible apply g_listL); array_mem_dec) | ((with_reducible apply g_listT); array_mem_dec) | ((with_reducible apply g_tupT); array_mem_dec) | ((with_reducible apply g_tupL); array_mem_dec)
  | ((with_reducible apply g_room); walk_at "side") | with_reducible refine g_abs ?_ | with_reducible refine g_chain ?_ | with_reducible refine g_andV ?_ | with_reducible refine g_orV ?_ | with_reducible refine g_notV ?_ | with_reducible refine g_gsub ?_ | ((with_reducible apply g_gtup); array_mem_dec; (first | exact rfl | assumption)) | with_reducible refine g_gcons ?_ | with_reducible refine g_gnil ?_ | with_reducible refine g_bm ?_ | ((with_reducible apply g_tyL); array_mem_dec) | with_reducible refine g_tyS ?_
  | with_reducible refine g_callS ?_ | with_reducible refine g_nei ?_ | with_reducible refine g_eqs ?_ | with_reducible refine g_nes ?_ | with_reducible refine g_eqb ?_ | with_reducible refine g_nonI ?_ | with_reducible refine g_nonN ?_ | with_reducible refine g_nonS ?_ | with_reducible refine g_nonB ?_ | with_reducible refine g_nonR ?_ | with_reducible refine g_isBB ?_ | with_reducible refine g_isBI ?_ | with_reducible refine g_isBS ?_ | with_reducible refine g_isBR ?_ | with_reducible refine g_isBN ?_
  | with_reducible refine g_rng1 ?_ | with_reducible refine g_rng2 ?_ | ((with_reducible apply g_notInR); array_get_dec) | ((with_reducible apply g_inR); array_get_dec) | with_reducible refine g_for ?_ | with_reducible refine g_iList ?_ | with_reducible refine g_iTup ?_ | with_reducible refine g_iR1 ?_ | with_reducible refine g_iEnum ?_ | with_reducible refine g_lc ?_ | with_reducible refine g_yes ?_ | with_reducible refine g_slc ?_ | with_reducible refine g_raise ?_ | with_reducible refine g_exv ?_ | with_reducible refine g_xf ?_ | ((with_reducible apply g_xfe); array_get_dec; (first | exact rfl | assumption)) | with_reducible refine g_part ?_ | with_reducible refine g_nopart ?_ | with_reducible refine g_exi ?_ | with_reducible refine g_brk ?_ | with_reducible refine g_cnt ?_ | with_reducible refine g_bk ?_ | with_reducible refine g_ct ?_ | with_reducible refine g_if ?_
  | with_reducible refine g_augS ?_ | with_reducible refine g_nnR ?_ | with_reducible refine g_nnN ?_ | with_reducible refine g_nnI ?_ | with_reducible refine g_ipI ?_ | ((with_reducible apply g_neL); array_mem_dec; array_mem_dec) | ((with_reducible apply g_eqL); array_mem_dec; array_mem_dec) | ((with_reducible apply g_slL); array_mem_dec) | ((with_reducible apply g_atL); array_mem_dec) | ((with_reducible apply g_atT); array_mem_dec) | ((with_reducible apply g_enum); array_mem_dec) | ((with_reducible apply g_R1); walk_at "side"; walk_at "side")
  | with_reducible refine g_is_int_int ?_ | with_reducible refine g_is_int_bool ?_ | with_reducible refine g_is_int_str ?_ | with_reducible refine g_is_int_dict ?_ | with_reducible refine g_is_int_list ?_ | with_reducible refine g_is_int_tuple ?_ | with_reducible refine g_is_bool_bool ?_ | with_reducible refine g_is_bool_int ?_ | with_reducible refine g_is_str_int ?_ | with_reducible refine g_is_str_str ?_ | with_reducible refine g_is_str_dict ?_ | with_reducible refine g_is_str_list ?_ | with_reducible refine g_is_str_tuple ?_ | ((with_reducible apply g_is_list_int); array_get_dec) | ((with_reducible apply g_is_list_str); array_get_dec) | ((with_reducible apply g_is_list_dict); array_get_dec) | ((with_reducible apply g_is_list_list); array_get_dec) | ((with_reducible apply g_is_list_tuple); array_get_dec) | ((with_reducible apply g_is_tuple_int); array_get_dec) | ((with_reducible apply g_is_tuple_str); array_get_dec) | ((with_reducible apply g_is_tuple_dict); array_get_dec) | ((with_reducible apply g_is_tuple_list); array_get_dec) | ((with_reducible apply g_is_tuple_tuple); array_get_dec) | ((with_reducible apply g_ixSL); array_mem_dec; (first | exact rfl | assumption)) | ((with_reducible apply g_ixST); array_mem_dec; (first | exact rfl | assumption)))
local macro_rules | `(tactic| walk_at "go") => `(tactic| repeat first | with_reducible refine g_ifS ?_ | walk_at "st")
local macro_rules | `(tactic| walk_at "dec") => `(tactic| first | with_reducible assumption | decide | omega)
local macro_rules | `(tactic| walk_at "goD") => `(tactic| repeat first | with_reducible refine g_ifS ?_ | walk_at "st" | ((with_reducible apply g_iteY); walk_at "dec") | ((with_reducible apply g_iteX); walk_at "dec") | ((with_reducible apply g_iteNY); walk_at "dec") | ((with_reducible apply g_iteNX); walk_at "dec"))
local macro_rules | `(tactic| walk_at "goI") => `(tactic| repeat walk_at "st")
section
open FabC
variable {P : Program} {w : World} {K : PySem.W.Frag} {mg : Str → Option Value} {base : Heap}
theorem ok__law_readers (T : Txt P K mg)  : FnOk P w K mg base CX0 1 (ga K "_law_readers") (fdOf K "_law_readers") ["circuit"] (sp__law_readers) := by
  refine T.f__law_readers.f.ok sc__law_readers (fun vs H Q E h => by obtain ⟨_, _, e, _⟩ := h; rw [e]; rfl) (fun cdv A outer s H vs Q E hr h => ⟨(d__law_readers T  hr).1, PSs.nox (d__law_readers T  hr).2, ?_⟩)
  dsimp only [d__law_readers, cxOf]
  obtain ⟨u, c, rfl, hc, gd, q⟩ := h
  obtain ⟨a, ga, ea, vs, rfl, h1, h2, h3, h4⟩ := id hc
  have vl := h3.1
  have gg := gd.g
  have gf := gd.f
  have f0 := gd.wf.f0
  rw [show start N__law_readers [.ref a] = [some (.ref a), none, none, none] from rfl]
  walk_at "go"
  intro l0 hl0
  walk_at "go"
  refine g_repL upd_same (by omega) (by omega) (fun l hl => ?_)
  have s1 := (Same.new (x := .lst [.int 0]) hl0).then (x := .lst (List.replicate (c.free + (vs.length : Nat)).toNat (.int 0))) hl
  have fl : H l = none := free_of hl
  have hcs : upd (upd H l0 (.lst [.int 0])) l (.lst (List.replicate (c.free + (vs.length : Nat)).toNat (.int 0))) l = some (.lst ((List.replicate (c.free + (c.gates.length : Nat)).toNat (0 : Int)).map V.int)) := by rw [upd_same, List.map_replicate, vl]
  generalize upd (upd H l0 (.lst [.int 0])) l (.lst (List.replicate (c.free + (vs.length : Nat)).toNat (.int 0))) = H1 at *
  have h1' := s1 _ _ h1
  have h2' := s1 _ _ h2
  have clen : ∀ gs : List Gate, ((gs.foldl cntG (List.replicate (c.free + (c.gates.length : Nat)).toNat (0 : Int))).length : Int) = c.free + (c.gates.length : Nat) := fun gs => by rw [cntG_length, List.length_replicate]; omega
  walk_at "go"
  refine for_tup (fun i σ H' => ∃ o5 o6, σ = [some (.ref a), some (.ref l), o5, o6] ∧ Same H H' ∧ H' l = some (.lst (((c.gates.take i).foldl cntG (List.replicate (c.free + (c.gates.length : Nat)).toNat 0)).map V.int))) ⟨_, _, rfl, s1, hcs⟩ (fun i σ H' _ ⟨_, _, _, sm, _⟩ => .of (sm _ _ h2)) ?_ ?_
  · rintro i x σ H' hx ⟨o5, o6, rfl, sm, hl2⟩
    have hi : i < c.gates.length := by
      have := (List.getElem?_eq_some_iff.mp hx).1
      omega
    obtain ⟨g, hg⟩ : ∃ g, c.gates[i]? = some g := ⟨_, List.getElem?_eq_getElem hi⟩
    obtain ⟨t, rfl, ht⟩ := (h3.2 i x g hx hg).same sm
    have cl := clen (c.gates.take i)
    generalize hcs0 : (c.gates.take i).foldl cntG (List.replicate (c.free + (c.gates.length : Nat)).toNat 0) = cs at *
    walk_at "go"
    refine g_slN (xs := [.int g.1, .int g.2.1, .int g.2.2]) (ys := [.int g.2.1, .int g.2.2]) (by array_mem_dec) (fun z => absurd z.1 (show ¬ ((1 : Nat) = 0) by decide)) rfl ?_
    intro p hp
    walk_at "go"
    refine for_tup (fun j σ H2 => ∃ o8, σ = [some (.ref a), some (.ref l), some (.ref t), o8] ∧ Same H H2 ∧ H2 p = some (.tup [.int g.2.1, .int g.2.2]) ∧ H2 l = some (.lst ((([g.2.1, g.2.2].take j).foldl incr cs).map V.int))) ⟨_, rfl, sm.then hp, upd_same, at_new hp hl2⟩ (fun j σ H2 _ ⟨_, _, _, h, _⟩ => .of h) ?_ ?_
    · rintro j y σ H2 hy ⟨o8, rfl, sm2, hp2, hl3⟩
      obtain ⟨z, rfl, hz, hz2⟩ : ∃ z, y = V.int z ∧ [g.2.1, g.2.2][j]? = some z ∧ (z = g.2.1 ∨ z = g.2.2) := by
        match j, hy with
        | 0, hy => exact ⟨_, (Option.some.inj hy).symm, rfl, .inl rfl⟩
        | 1, hy => exact ⟨_, (Option.some.inj hy).symm, rfl, .inr rfl⟩
      have zw := gate_wire gd.wf hg hz2
      have cl2 := incrs_length ([g.2.1, g.2.2].take j) cs
      walk_at "go"
      refine g_ite (fun ge => ?_) (fun lt => ?_)
      · have e1 := cnt_at (cs := ([g.2.1, g.2.2].take j).foldl incr cs) (w := z) (by omega) (by omega)
        have e2 := cnt_ix (cs := ([g.2.1, g.2.2].take j).foldl incr cs) (w := z) (by omega) (by omega)
        walk_at "go"
        refine ⟨_, rfl, Same.setNew sm2 fl, at_lstT hl3 hp2, ?_⟩
        rw [upd_same, foldl_take incr cs hz, incr_at (by omega), List.map_set]
      · walk_at "go"
        refine ⟨_, rfl, sm2, hp2, ?_⟩
        rw [foldl_take incr cs hz, show z = -1 by omega]
        exact hl3
    · rintro σ H2 ⟨o8, rfl, sm2, hp2, hl3⟩
      walk_at "go"
      refine ⟨_, _, rfl, sm2, ?_⟩
      rw [foldl_take cntG _ hg, hcs0]
      exact hl3
  · rintro σ H' ⟨o5, o6, rfl, sm, hl2⟩
    have h1' := sm _ _ h1
    have h4' := sm _ _ h4
    rw [vl, take_all] at hl2
    have cl := clen c.gates
    walk_at "go"
    refine for_tup (fun j σ H2 => ∃ o8, σ = [some (.ref a), some (.ref l), o5, o8] ∧ Same H H2 ∧ H2 l = some (.lst (((c.ends.take j).foldl incr (c.gates.foldl cntG (List.replicate (c.free + (c.gates.length : Nat)).toNat 0))).map V.int))) ⟨_, rfl, sm, hl2⟩ (fun j σ H2 _ ⟨_, _, sm2, _⟩ => .of (sm2 _ _ h4)) ?_ ?_
    · rintro j y σ H2 hy ⟨o8, rfl, sm2, hl3⟩
      rw [List.getElem?_map] at hy
      obtain ⟨z, hz, rfl⟩ := Option.map_eq_some_iff.mp hy
      have zw := end_wire gd.wf hz
      have cl2 := incrs_length (c.ends.take j) (c.gates.foldl cntG (List.replicate (c.free + (c.gates.length : Nat)).toNat 0))
      walk_at "go"
      refine g_ite (fun ge => ?_) (fun lt => ?_)
      · have e1 := cnt_at (cs := (c.ends.take j).foldl incr (c.gates.foldl cntG (List.replicate (c.free + (c.gates.length : Nat)).toNat 0))) (w := z) (by omega) (by omega)
        have e2 := cnt_ix (cs := (c.ends.take j).foldl incr (c.gates.foldl cntG (List.replicate (c.free + (c.gates.length : Nat)).toNat 0))) (w := z) (by omega) (by omega)
        walk_at "go"
        refine ⟨_, rfl, Same.setNew sm2 fl, ?_⟩
        rw [upd_same, foldl_take incr _ hz, incr_at (by omega), List.map_set]
      · walk_at "go"
        refine ⟨_, rfl, sm2, ?_⟩
        rw [foldl_take incr _ hz, show z = -1 by omega]
        exact hl3
    · rintro σ H2 ⟨o8, rfl, sm2, hl3⟩
      walk_at "go"
      rw [List.length_map, take_all] at hl3
      exact q _ _ sm2 ⟨l, rfl, fl, hl3⟩
end

end K19
set_option maxHeartbeats 4000000
namespace K19
open PySem PySem.Spec PyProof.Rows L2 FabH He
local macro_rules | `(tactic| array_mem_dec) => `(tactic| (first | with_reducible assumption | with_reducible exact SqL.of (by array_get_dec) | with_reducible exact SqT.of (by array_get_dec) | ((repeat (with_reducible first | refine Same.seq (Same.new (by assumption)) ?_ | refine Same.tup (Same.new (by assumption)) ?_)); with_reducible assumption)))
local macro_rules | `(tactic| array_get_dec) => `(tactic| (first | with_reducible assumption | with_reducible exact upd_same | ((repeat (first | with_reducible exact upd_same | ((with_reducible apply at_new); with_reducible assumption) | ((with_reducible apply at_lstT); with_reducible assumption) | ((with_reducible apply at_lstR); with_reducible assumption) | ((with_reducible apply at_set); with_reducible assumption))); done) | ((repeat (first | ((with_reducible apply at_new); with_reducible assumption) | ((with_reducible apply at_lstT); with_reducible assumption) | ((with_reducible apply at_lstR); with_reducible assumption) | ((with_reducible apply at_set); with_reducible assumption))); with_reducible assumption)))
local macro_rules | `(tactic| walk_at "side") => `(tactic| (first | with_reducible assumption | decide | exact MOk.div (by assumption) | exact MOk.div (MOk.of (by decide) (by decide)) | (simp only [List.length_append, List.length_map, List.length_replicate, List.length_cons, List.length_nil, sizeLine_eq, CMul, CDivW, CPow]; omega) | omega))
local macro_rules | `(tactic| walk_at "st") => `(tactic| first
  | with_reducible refine g_cons ?_ | ((with_reducible apply g_var); (first | exact rfl | assumption)) | with_reducible refine g_const ?_ | with_reducible refine g_nil ?_ | with_reducible refine g_op ?_ | with_reducible refine g_rI0 ?_ | with_reducible refine g_seq ?_ | with_reducible refine g_asg ?_ | ((with_reducible refine g_name ?_); dsimp only [List.set_cons_zero, List.set_cons_succ])
  | with_reducible refine g_nx ?_ | with_reducible refine g_rt ?_ | with_reducible refine g_call ?_ | with_reducible refine g_ret ?_ | with_reducible refine g_test ?_ | with_reducible refine g_bl ?_ | with_reducible refine g_cb ?_ | with_reducible refine g_tB ?_ | with_reducible refine g_un ?_ | with_reducible refine g_rU ?_
  | with_reducible refine g_eqi ?_ | with_reducible refine g_int ?_ | with_reducible refine g_and ?_ | with_reducible refine g_or ?_ | with_reducible refine g_not ?_ | with_reducible refine g_drop ?_ | with_reducible refine g_next ?_ | with_reducible refine g_retN ?_ | with_reducible refine g_iteT ?_ | with_reducible refine g_iteF ?_ | with_reducible refine g_iteNT ?_ | with_reducible refine g_iteNF ?_
  | ((with_reducible apply g_ixL); array_mem_dec; (first | exact rfl | assumption)) | ((with_reducible apply g_ixT); array_mem_dec; (first | exact rfl | assumption)) | ((with_reducible apply g_lenL); array_mem_dec) | ((with_reducible apply g_lenT); array_mem_dec) | ((with_reducible apply g_rI); walk_at "side")
  | ((with_reducible apply g_setL); array_get_dec; (first | exact rfl | assumption)) | ((with_reducible apply g_app); array_get_dec; walk_at "side") | with_reducible refine g_tup ?_ | with_reducible refine g_lst ?_ | ((with_reducible apply g_listL); array_mem_dec) | ((with_reducible apply g_listT); array_mem_dec) | ((with_reducible apply g_tupT); array_mem_dec) | ((with_reducible apply g_tupL); array_mem_dec)
  | ((with_reducible apply g_room); walk_at "side") | with_reducible refine g_abs ?_ | with_reducible refine g_chain ?_ | with_reducible refine g_andV ?_ | with_reducible refine g_orV ?_ | with_reducible refine g_notV ?_ | with_reducible refine g_gsub ?_ | ((with_reducible apply g_gtup); array_mem_dec; (first | exact rfl | assumption)) | with_reducible refine g_gcons ?_ | with_reducible refine g_gnil ?_ | with_reducible refine g_bm ?_ | ((with_reducible apply g_tyL); array_mem_dec) | with_reducible refine g_tyS ?_
  | with_reducible refine g_callS ?_ | with_reducible refine g_nei ?_ | with_reducible refine g_eqs ?_ | with_reducible refine g_nes ?_ | with_reducible refine g_eqb ?_ | with_reducible refine g_nonI ?_ | with_reducible refine g_nonN ?_ | with_reducible refine g_nonS ?_ | with_reducible refine g_nonB ?_ | with_reducible refine g_nonR ?_ | with_reducible refine g_isBB ?_ | with_reducible refine g_isBI ?_ | with_reducible refine g_isBS ?_ | with_reducible refine g_isBR ?_ | with_reducible refine g_isBN ?_
  | with_reducible refine g_rng1 ?_ | with_reducible refine g_rng2 ?_ | ((with_reducible apply g_notInR); array_get_dec) | ((with_reducible apply g_inR); array_get_dec) | with_reducible refine g_for ?_ | with_reducible refine g_iList ?_ | with_reducible refine g_iTup ?_ | with_reducible refine g_iR1 ?_ | with_reducible refine g_iEnum ?_ | with_reducible refine g_lc ?_ | with_reducible refine g_yes ?_ | with_reducible refine g_slc ?_ | with_reducible refine g_raise ?_ | with_reducible refine g_exv ?_ | with_reducible refine g_xf ?_ | ((with_reducible apply g_xfe); array_get_dec; (first | exact rfl | assumption)) | with_reducible refine g_part ?_ | with_reducible refine g_nopart ?_ | with_reducible refine g_exi ?_ | with_reducible refine g_brk ?_ | with_reducible refine g_cnt ?_ | with_reducible refine g_bk ?_ | with_reducible refine g_ct ?_ | with_reducible refine g_if ?_
  | with_reducible refine g_augS ?_ | with_reducible refine g_nnR ?_ | with_reducible refine g_nnN ?_ | with_reducible refine g_nnI ?_ | with_reducible refine g_ipI ?_ | ((with_reducible apply g_neL); array_mem_dec; array_mem_dec) | ((with_reducible apply g_eqL); array_mem_dec; array_mem_dec) | ((with_reducible apply g_slL); array_mem_dec) | ((with_reducible apply g_atL); array_mem_dec) | ((with_reducible apply g_atT); array_mem_dec) | ((with_reducible apply g_enum); array_mem_dec) | ((with_reducible apply g_R1); walk_at "side"; walk_at "side")
  | with_reducible refine g_is_int_int ?_ | with_reducible refine g_is_int_bool ?_ | with_reducible refine g_is_int_str ?_ | with_reducible refine g_is_int_dict ?_ | with_reducible refine g_is_int_list ?_ | with_reducible refine g_is_int_tuple ?_ | with_reducible refine g_is_bool_bool ?_ | with_reducible refine g_is_bool_int ?_ | with_reducible refine g_is_str_int ?_ | with_reducible refine g_is_str_str ?_ | with_reducible refine g_is_str_dict ?_ | with_reducible refine g_is_str_list ?_ | with_reducible refine g_is_str_tuple ?_ | ((with_reducible apply g_is_list_int); array_get_dec) | ((with_reducible apply g_is_list_str); array_get_dec) | ((with_reducible apply g_is_list_dict); array_get_dec) | ((with_reducible apply g_is_list_list); array_get_dec) | ((with_reducible apply g_is_list_tuple); array_get_dec) | ((with_reducible apply g_is_tuple_int); array_get_dec) | ((with_reducible apply g_is_tuple_str); array_get_dec) | ((with_reducible apply g_is_tuple_dict); array_get_dec) | ((with_reducible apply g_is_tuple_list); array_get_dec) | ((with_reducible apply g_is_tuple_tuple); array_get_dec) | ((with_reducible apply g_ixSL); array_mem_dec; (first | exact rfl | assumption)) | ((with_reducible apply g_ixST); array_mem_dec; (first | exact rfl | assumption)))
local macro_rules | `(tactic| walk_at "go") => `(tactic| repeat first | with_reducible refine g_ifS ?_ | walk_at "st")
local macro_rules | `(tactic| walk_at "dec") => `(tactic| first | with_reducible assumption | decide | omega)
local macro_rules | `(tactic| walk_at "goD") => `(tactic| repeat first | with_reducible refine g_ifS ?_ | walk_at "st" | ((with_reducible apply g_iteY); walk_at "dec") | ((with_reducible apply g_iteX); walk_at "dec") | ((with_reducible apply g_iteNY); walk_at "dec") | ((with_reducible apply g_iteNX); walk_at "dec"))
local macro_rules | `(tactic| walk_at "goI") => `(tactic| repeat walk_at "st")
section
open FabC
variable {P : Program} {w : World} {K : PySem.W.Frag} {mg : Str → Option Value} {base : Heap}
theorem ok__law_wire (T : Txt P K mg) (G__law_take : FnOk P w K mg base CX0 2 (ga K "_law_take") (fdOf K "_law_take") ["pools", "many"] (sp_take)) : FnOk P w K mg base CX0 3 (ga K "_law_wire") (fdOf K "_law_wire") ["pools", "wires"] (FabC.sp__law_wire) := by
  refine T.f__law_wire.f.ok sc__law_wire (fun vs H Q E h => by obtain ⟨_, _, e, _⟩ := h; rw [e]; rfl) (fun cdv A outer s H vs Q E hr h => ⟨(d__law_wire T G__law_take (b__law_take T) hr).1, PSs.nox (d__law_wire T G__law_take (b__law_take T) hr).2, ?_⟩)
  dsimp only [d__law_wire, cxOf]
  obtain ⟨v, w, rfl, ⟨l, ps, rfl, hl, hne, hp⟩, w0, w1, q⟩ := h
  rw [show start N__law_wire [.ref l, .int w] = [some (.ref l), some (.int w)] from rfl]
  walk_at "go"
  refine ⟨l, ps, _, rfl, hl, hne, hp, .of (by omega) (by omega), fun r r0 r1 => ?_⟩
  walk_at "go"
  exact q _ (by simp [wireOk]; omega)
end

end K19
set_option maxHeartbeats 4000000
namespace K19
open PySem PySem.Spec PyProof.Rows L2 FabH He
local macro_rules | `(tactic| array_mem_dec) => `(tactic| (first | with_reducible assumption | with_reducible exact SqL.of (by array_get_dec) | with_reducible exact SqT.of (by array_get_dec) | ((repeat (with_reducible first | refine Same.seq (Same.new (by assumption)) ?_ | refine Same.tup (Same.new (by assumption)) ?_)); with_reducible assumption)))
local macro_rules | `(tactic| array_get_dec) => `(tactic| (first | with_reducible assumption | with_reducible exact upd_same | ((repeat (first | with_reducible exact upd_same | ((with_reducible apply at_new); with_reducible assumption) | ((with_reducible apply at_lstT); with_reducible assumption) | ((with_reducible apply at_lstR); with_reducible assumption) | ((with_reducible apply at_set); with_reducible assumption))); done) | ((repeat (first | ((with_reducible apply at_new); with_reducible assumption) | ((with_reducible apply at_lstT); with_reducible assumption) | ((with_reducible apply at_lstR); with_reducible assumption) | ((with_reducible apply at_set); with_reducible assumption))); with_reducible assumption)))
local macro_rules | `(tactic| walk_at "side") => `(tactic| (first | with_reducible assumption | decide | exact MOk.div (by assumption) | exact MOk.div (MOk.of (by decide) (by decide)) | (simp only [List.length_append, List.length_map, List.length_replicate, List.length_cons, List.length_nil, sizeLine_eq, CMul, CDivW, CPow]; omega) | omega))
local macro_rules | `(tactic| walk_at "st") => `(tactic| first
  | with_reducible refine g_cons ?_ | ((with_reducible apply g_var); (first | exact rfl | assumption)) | with_reducible refine g_const ?_ | with_reducible refine g_nil ?_ | with_reducible refine g_op ?_ | with_reducible refine g_rI0 ?_ | with_reducible refine g_seq ?_ | with_reducible refine g_asg ?_ | ((with_reducible refine g_name ?_); dsimp only [List.set_cons_zero, List.set_cons_succ])
  | with_reducible refine g_nx ?_ | with_reducible refine g_rt ?_ | with_reducible refine g_call ?_ | with_reducible refine g_ret ?_ | with_reducible refine g_test ?_ | with_reducible refine g_bl ?_ | with_reducible refine g_cb ?_ | with_reducible refine g_tB ?_ | with_reducible refine g_un ?_ | with_reducible refine g_rU ?_
  | with_reducible refine g_eqi ?_ | with_reducible refine g_int ?_ | with_reducible refine g_and ?_ | with_reducible refine g_or ?_ | with_reducible refine g_not ?_ | with_reducible refine g_drop ?_ | with_reducible refine g_next ?_ | with_reducible refine g_retN ?_ | with_reducible refine g_iteT ?_ | with_reducible refine g_iteF ?_ | with_reducible refine g_iteNT ?_ | with_reducible refine g_iteNF ?_
  | ((with_reducible apply g_ixL); array_mem_dec; (first | exact rfl | assumption)) | ((with_reducible apply g_ixT); array_mem_dec; (first | exact rfl | assumption)) | ((with_reducible apply g_lenL); array_mem_dec) | ((with_reducible apply g_lenT); array_mem_dec) | ((with_reducible apply g_rI); walk_at "side")
  | ((with_reducible apply g_setL); array_get_dec; (first | exact rfl | assumption)) | ((with_reducible apply g_app); array_get_dec; walk_at "side") | with_reducible refine g_tup ?_ | with_reducible refine g_lst ?_ | ((with_reducible apply g_listL); array_mem_dec) | ((with_reducible apply g_listT); array_mem_dec) | ((with_reducible apply g_tupT); array_mem_dec) | ((with_reducible apply g_tupL); array_mem_dec)
  | ((with_reducible apply g_room); walk_at "side") | with_reducible refine g_abs ?_ | with_reducible refine g_chain ?_ | with_reducible refine g_andV ?_ | with_reducible refine g_orV ?_ | with_reducible refine g_notV ?_ | with_reducible refine g_gsub ?_ | ((with_reducible apply g_gtup); array_mem_dec; (first | exact rfl | assumption)) | with_reducible refine g_gcons ?_ | with_reducible refine g_gnil ?_ | with_reducible refine g_bm ?_ | ((with_reducible apply g_tyL); array_mem_dec) | with_reducible refine g_tyS ?_
  | with_reducible refine g_callS ?_ | with_reducible refine g_nei ?_ | with_reducible refine g_eqs ?_ | with_reducible refine g_nes ?_ | with_reducible refine g_eqb ?_ | with_reducible refine g_nonI ?_ | with_reducible refine g_nonN ?_ | with_reducible refine g_nonS ?_ | with_reducible refine g_nonB ?_ | with_reducible refine g_nonR ?_ | with_reducible refine g_isBB ?_ | with_reducible refine g_isBI ?_ | with_reducible refine g_isBS ?_ | with_reducible refine g_isBR ?_ | with_reducible refine g_isBN ?_
  | with_reducible refine g_rng1 ?_ | with_reducible refine g_rng2 ?_ | ((with_reducible apply g_notInR); array_get_dec) | ((with_reducible apply g_inR); array_get_dec) | with_reducible refine g_for ?_ | with_reducible refine g_iList ?_ | with_reducible refine g_iTup ?_ | with_reducible refine g_iR1 ?_ | with_reducible refine g_iEnum ?_ | with_reducible refine g_lc ?_ | with_reducible refine g_yes ?_ | with_reducible refine g_slc ?_ | with_reducible refine g_raise ?_ | with_reducible refine g_exv ?_ | with_reducible refine g_xf ?_ | ((with_reducible apply g_xfe); array_get_dec; (first | exact rfl | assumption)) | with_reducible refine g_part ?_ | with_reducible refine g_nopart ?_ | with_reducible refine g_exi ?_ | with_reducible refine g_brk ?_ | with_reducible refine g_cnt ?_ | with_reducible refine g_bk ?_ | with_reducible refine g_ct ?_ | with_reducible refine g_if ?_
  | with_reducible refine g_augS ?_ | with_reducible refine g_nnR ?_ | with_reducible refine g_nnN ?_ | with_reducible refine g_nnI ?_ | with_reducible refine g_ipI ?_ | ((with_reducible apply g_neL); array_mem_dec; array_mem_dec) | ((with_reducible apply g_eqL); array_mem_dec; array_mem_dec) | ((with_reducible apply g_slL); array_mem_dec) | ((with_reducible apply g_atL); array_mem_dec) | ((with_reducible apply g_atT); array_mem_dec) | ((with_reducible apply g_enum); array_mem_dec) | ((with_reducible apply g_R1); walk_at "side"; walk_at "side")
  | with_reducible refine g_is_int_int ?_ | with_reducible refine g_is_int_bool ?_ | with_reducible refine g_is_int_str ?_ | with_reducible refine g_is_int_dict ?_ | with_reducible refine g_is_int_list ?_ | with_reducible refine g_is_int_tuple ?_ | with_reducible refine g_is_bool_bool ?_ | with_reducible refine g_is_bool_int ?_ | with_reducible refine g_is_str_int ?_ | with_reducible refine g_is_str_str ?_ | with_reducible refine g_is_str_dict ?_ | with_reducible refine g_is_str_list ?_ | with_reducible refine g_is_str_tuple ?_ | ((with_reducible apply g_is_list_int); array_get_dec) | ((with_reducible apply g_is_list_str); array_get_dec) | ((with_reducible apply g_is_list_dict); array_get_dec) | ((with_reducible apply g_is_list_list); array_get_dec) | ((with_reducible apply g_is_list_tuple); array_get_dec) | ((with_reducible apply g_is_tuple_int); array_get_dec) | ((with_reducible apply g_is_tuple_str); array_get_dec) | ((with_reducible apply g_is_tuple_dict); array_get_dec) | ((with_reducible apply g_is_tuple_list); array_get_dec) | ((with_reducible apply g_is_tuple_tuple); array_get_dec) | ((with_reducible apply g_ixSL); array_mem_dec; (first | exact rfl | assumption)) | ((with_reducible apply g_ixST); array_mem_dec; (first | exact rfl | assumption)))
local macro_rules | `(tactic| walk_at "go") => `(tactic| repeat first | with_reducible refine g_ifS ?_ | walk_at "st")
local macro_rules | `(tactic| walk_at "dec") => `(tactic| first | with_reducible assumption | decide | omega)
local macro_rules | `(tactic| walk_at "goD") => `(tactic| repeat first | with_reducible refine g_ifS ?_ | walk_at "st" | ((with_reducible apply g_iteY); walk_at "dec") | ((with_reducible apply g_iteX); walk_at "dec") | ((with_reducible apply g_iteNY); walk_at "dec") | ((with_reducible apply g_iteNX); walk_at "dec"))
local macro_rules | `(tactic| walk_at "goI") => `(tactic| repeat walk_at "st")
section
open FabC
variable {P : Program} {w : World} {K : PySem.W.Frag} {mg : Str → Option Value} {base : Heap}
theorem ok__law_drawn (T : Txt P K mg) (G__law_take : FnOk P w K mg base CX0 2 (ga K "_law_take") (fdOf K "_law_take") ["pools", "many"] (sp_take)) (G__law_wire : FnOk P w K mg base CX0 3 (ga K "_law_wire") (fdOf K "_law_wire") ["pools", "wires"] (FabC.sp__law_wire)) : FnOk P w K mg base CX0 4 (ga K "_law_drawn") (fdOf K "_law_drawn") ["pools", "free", "count", "many"] (FabC.sp__law_drawn) := by
  refine T.f__law_drawn.f.ok sc__law_drawn (fun vs H Q E h => by obtain ⟨_, _, _, _, e, _⟩ := h; rw [e]; rfl) (fun cdv A outer s H vs Q E hr h => ⟨(d__law_drawn T G__law_take (b__law_take T) G__law_wire (b__law_wire T) hr).1, PSs.nox (d__law_drawn T G__law_take (b__law_take T) G__law_wire (b__law_wire T) hr).2, ?_⟩)
  dsimp only [d__law_drawn, cxOf]
  obtain ⟨v, f, n, m, rfl, hv, f0, f1, n0, n1, m0, m1, q⟩ := h
  obtain ⟨pl, ps, rfl, hpl, hne, hpp⟩ := id hv
  rw [show start N__law_drawn [.ref pl, .int f, .int n, .int m] = [some (.ref pl), some (.int f), some (.int n), some (.int m), none, none, none, none, none] from rfl]
  walk_at "go"
  intro l hl
  walk_at "go"
  refine for_range (fun i σ H' => ∃ o5 o6 o7 vs gs, σ = [some (.ref pl), some (.int f), some (.int n), some (.int m), some (.ref l), o5, o6, o7, none] ∧ Same H H' ∧ H' l = some (.lst vs) ∧ gsV H' vs gs ∧ gs.length = i ∧ ∀ (k : Nat) (g : Gate), gs[k]? = some g → gateOk g (f + (k : Nat)) = true)
    ⟨_, _, _, [], [], rfl, .new hl, upd_same, .nil, rfl, fun k g z => by cases z⟩ ?_ ?_
  · rintro i σ H' hi ⟨o5, o6, o7, vs, gs, rfl, sm, hl2, hg, gl, okg⟩
    have vl : vs.length = i := hg.1.trans gl
    walk_at "go"
    refine ⟨pl, ps, 16, rfl, sm _ _ hpl, hne, fun p z => sm _ _ (hpp p z), .of (by decide) (by decide), fun t t0 t1 => ?_⟩
    walk_at "go"
    refine ⟨.ref pl, _, rfl, hv.same sm, by omega, by omega, fun x hx => ?_⟩
    walk_at "go"
    refine ⟨.ref pl, _, rfl, hv.same sm, by omega, by omega, fun y hy => ?_⟩
    walk_at "go"
    intro p hp
    walk_at "go"
    have hlk : upd H' p (.tup [.int t, .int x, .int y]) l = some (.lst vs) := at_new hp hl2
    refine ⟨_, _, _, _, gs ++ [(t, x, y)], rfl, Same.setNew (sm.then hp) hl, upd_same, ((hg.same (.new hp)).set hlk).snoc ⟨p, rfl, at_lst hlk upd_same tup_ne_lst⟩, by simp [gl], fun k g z => ?_⟩
    rcases snoc_get z with z | ⟨ek, rfl⟩
    · exact okg k g z
    · have e : f + (0 + (i : Int)) = f + (k : Nat) := by omega
      rw [e] at hx hy
      simp only [gateOk, hx, hy, Bool.and_true, decide_eq_true_eq]
      omega
  · rintro σ Ha ⟨o5, o6, o7, vs, gs, rfl, sm, hl2, hg, gl, okg⟩
    walk_at "go"
    intro D hD
    refine lc_range (fun i H2 => ∃ es : List Int, Same Ha H2 ∧ H2 D = some (.lst (es.map V.int)) ∧ es.length = i ∧ ∀ (k : Nat) (z : Int), es[k]? = some z → wireOk z (f + n) = true) ⟨[], .new hD, upd_same, rfl, fun k z h => by cases h⟩ ?_ ?_
    · rintro i H2 hi ⟨es, sm2, hD2, el, oke⟩
      dsimp only [wipe, List.map]
      walk_at "go"
      refine ⟨rfl, ?_⟩
      walk_at "go"
      refine ⟨.ref pl, _, rfl, hv.same (sm.trans sm2), by omega, by omega, fun x hx => ?_⟩
      refine ⟨_, hD2, by walk_at "side", es ++ [x], Same.setNew sm2 hD, by rw [upd_same]; simp, by simp [el], fun k z h => ?_⟩
      rcases snoc_get h with h | ⟨_, rfl⟩
      · exact oke k z h
      · exact hx
    · rintro H2 ⟨es, sm2, hD2, el, oke⟩
      have hl3 := sm2 _ _ hl2
      walk_at "go"
      intro a ha
      walk_at "go"
      intro b hb
      walk_at "go"
      intro p hp
      walk_at "go"
      refine q _ ⟨f, gs, es⟩ _ (sm.trans (sm2.trans (((Same.new ha).then hb).then hp))) (cV.mk upd_same (by array_get_dec) (hg.same (sm2.trans (((Same.new ha).then hb).then hp))) (by array_get_dec)) ⟨f0, okg, ?_⟩ rfl gl el
      intro k z h
      have e : f + (gs.length : Nat) = f + n := by omega
      show wireOk z (f + (gs.length : Nat)) = true
      rw [e]
      exact oke k z h
end

end K19
set_option maxHeartbeats 4000000
namespace K19
open PySem PySem.Spec PyProof.Rows L2 FabH He
local macro_rules | `(tactic| array_mem_dec) => `(tactic| (first | with_reducible assumption | with_reducible exact SqL.of (by array_get_dec) | with_reducible exact SqT.of (by array_get_dec) | ((repeat (with_reducible first | refine Same.seq (Same.new (by assumption)) ?_ | refine Same.tup (Same.new (by assumption)) ?_)); with_reducible assumption)))
local macro_rules | `(tactic| array_get_dec) => `(tactic| (first | with_reducible assumption | with_reducible exact upd_same | ((repeat (first | with_reducible exact upd_same | ((with_reducible apply at_new); with_reducible assumption) | ((with_reducible apply at_lstT); with_reducible assumption) | ((with_reducible apply at_lstR); with_reducible assumption) | ((with_reducible apply at_set); with_reducible assumption))); done) | ((repeat (first | ((with_reducible apply at_new); with_reducible assumption) | ((with_reducible apply at_lstT); with_reducible assumption) | ((with_reducible apply at_lstR); with_reducible assumption) | ((with_reducible apply at_set); with_reducible assumption))); with_reducible assumption)))
local macro_rules | `(tactic| walk_at "side") => `(tactic| (first | with_reducible assumption | decide | exact MOk.div (by assumption) | exact MOk.div (MOk.of (by decide) (by decide)) | (simp only [List.length_append, List.length_map, List.length_replicate, List.length_cons, List.length_nil, sizeLine_eq, CMul, CDivW, CPow]; omega) | omega))
local macro_rules | `(tactic| walk_at "st") => `(tactic| first
  | with_reducible refine g_cons ?_ | ((with_reducible apply g_var); (first | exact rfl | assumption)) | with_reducible refine g_const ?_ | with_reducible refine g_nil ?_ | with_reducible refine g_op ?_ | with_reducible refine g_rI0 ?_ | with_reducible refine g_seq ?_ | with_reducible refine g_asg ?_ | ((with_reducible refine g_name ?_); dsimp only [List.set_cons_zero, List.set_cons_succ])
  | with_reducible refine g_nx ?_ | with_reducible refine g_rt ?_ | with_reducible refine g_call ?_ | with_reducible refine g_ret ?_ | with_reducible refine g_test ?_ | with_reducible refine g_bl ?_ | with_reducible refine g_cb ?_ | with_reducible refine g_tB ?_ | with_reducible refine g_un ?_ | with_reducible refine g_rU ?_
  | with_reducible refine g_eqi ?_ | with_reducible refine g_int ?_ | with_reducible refine g_and ?_ | with_reducible refine g_or ?_ | with_reducible refine g_not ?_ | with_reducible refine g_drop ?_ | with_reducible refine g_next ?_ | with_reducible refine g_retN ?_ | with_reducible refine g_iteT ?_ | with_reducible refine g_iteF ?_ | with_reducible refine g_iteNT ?_ | with_reducible refine g_iteNF ?_
  | ((with_reducible apply g_ixL); array_mem_dec; (first | exact rfl | assumption)) | ((with_reducible apply g_ixT); array_mem_dec; (first | exact rfl | assumption)) | ((with_reducible apply g_lenL); array_mem_dec) | ((with_reducible apply g_lenT); array_mem_dec) | ((with_reducible apply g_rI); walk_at "side")
  | ((with_reducible apply g_setL); array_get_dec; (first | exact rfl | assumption)) | ((with_reducible apply g_app); array_get_dec; walk_at "side") | with_reducible refine g_tup ?_ | with_reducible refine g_lst ?_ | ((with_reducible apply g_listL); array_mem_dec) | ((with_reducible apply g_listT); array_mem_dec) | ((with_reducible apply g_tupT); array_mem_dec) | ((with_reducible apply g_tupL); array_mem_dec)
  | ((with_reducible apply g_room); walk_at "side") | with_reducible refine g_abs ?_ | with_reducible refine g_chain ?_ | with_reducible refine g_andV ?_ | with_reducible refine g_orV ?_ | with_reducible refine g_notV ?_ | with_reducible refine g_gsub ?_ | ((with_reducible apply g_gtup); array_mem_dec; (first | exact rfl | assumption)) | with_reducible refine g_gcons ?_ | with_reducible refine g_gnil ?_ | with_reducible refine g_bm ?_ | ((with_reducible apply g_tyL); array_mem_dec) | with_reducible refine g_tyS ?_
  | with_reducible refine g_callS ?_ | with_reducible refine g_nei ?_ | with_reducible refine g_eqs ?_ | with_reducible refine g_nes ?_ | with_reducible refine g_eqb ?_ | with_reducible refine g_nonI ?_ | with_reducible refine g_nonN ?_ | with_reducible refine g_nonS ?_ | with_reducible refine g_nonB ?_ | with_reducible refine g_nonR ?_ | with_reducible refine g_isBB ?_ | with_reducible refine g_isBI ?_ | with_reducible refine g_isBS ?_ | with_reducible refine g_isBR ?_ | with_reducible refine g_isBN ?_
  | with_reducible refine g_rng1 ?_ | with_reducible refine g_rng2 ?_ | ((with_reducible apply g_notInR); array_get_dec) | ((with_reducible apply g_inR); array_get_dec) | with_reducible refine g_for ?_ | with_reducible refine g_iList ?_ | with_reducible refine g_iTup ?_ | with_reducible refine g_iR1 ?_ | with_reducible refine g_iEnum ?_ | with_reducible refine g_lc ?_ | with_reducible refine g_yes ?_ | with_reducible refine g_slc ?_ | with_reducible refine g_raise ?_ | with_reducible refine g_exv ?_ | with_reducible refine g_xf ?_ | ((with_reducible apply g_xfe); array_get_dec; (first | exact rfl | assumption)) | with_reducible refine g_part ?_ | with_reducible refine g_nopart ?_ | with_reducible refine g_exi ?_ | with_reducible refine g_brk ?_ | with_reducible refine g_cnt ?_ | with_reducible refine g_bk ?_ | with_reducible refine g_ct ?_ | with_reducible refine g_if ?_
  | with_reducible refine g_augS ?_ | with_reducible refine g_nnR ?_ | with_reducible refine g_nnN ?_ | with_reducible refine g_nnI ?_ | with_reducible refine g_ipI ?_ | ((with_reducible apply g_neL); array_mem_dec; array_mem_dec) | ((with_reducible apply g_eqL); array_mem_dec; array_mem_dec) | ((with_reducible apply g_slL); array_mem_dec) | ((with_reducible apply g_atL); array_mem_dec) | ((with_reducible apply g_atT); array_mem_dec) | ((with_reducible apply g_enum); array_mem_dec) | ((with_reducible apply g_R1); walk_at "side"; walk_at "side")
  | with_reducible refine g_is_int_int ?_ | with_reducible refine g_is_int_bool ?_ | with_reducible refine g_is_int_str ?_ | with_reducible refine g_is_int_dict ?_ | with_reducible refine g_is_int_list ?_ | with_reducible refine g_is_int_tuple ?_ | with_reducible refine g_is_bool_bool ?_ | with_reducible refine g_is_bool_int ?_ | with_reducible refine g_is_str_int ?_ | with_reducible refine g_is_str_str ?_ | with_reducible refine g_is_str_dict ?_ | with_reducible refine g_is_str_list ?_ | with_reducible refine g_is_str_tuple ?_ | ((with_reducible apply g_is_list_int); array_get_dec) | ((with_reducible apply g_is_list_str); array_get_dec) | ((with_reducible apply g_is_list_dict); array_get_dec) | ((with_reducible apply g_is_list_list); array_get_dec) | ((with_reducible apply g_is_list_tuple); array_get_dec) | ((with_reducible apply g_is_tuple_int); array_get_dec) | ((with_reducible apply g_is_tuple_str); array_get_dec) | ((with_reducible apply g_is_tuple_dict); array_get_dec) | ((with_reducible apply g_is_tuple_list); array_get_dec) | ((with_reducible apply g_is_tuple_tuple); array_get_dec) | ((with_reducible apply g_ixSL); array_mem_dec; (first | exact rfl | assumption)) | ((with_reducible apply g_ixST); array_mem_dec; (first | exact rfl | assumption)))
local macro_rules | `(tactic| walk_at "go") => `(tactic| repeat first | with_reducible refine g_ifS ?_ | walk_at "st")
local macro_rules | `(tactic| walk_at "dec") => `(tactic| first | with_reducible assumption | decide | omega)
local macro_rules | `(tactic| walk_at "goD") => `(tactic| repeat first | with_reducible refine g_ifS ?_ | walk_at "st" | ((with_reducible apply g_iteY); walk_at "dec") | ((with_reducible apply g_iteX); walk_at "dec") | ((with_reducible apply g_iteNY); walk_at "dec") | ((with_reducible apply g_iteNX); walk_at "dec"))
local macro_rules | `(tactic| walk_at "goI") => `(tactic| repeat walk_at "st")
section
open FabC
variable {P : Program} {w : World} {K : PySem.W.Frag} {mg : Str → Option Value} {base : Heap}
theorem ok__law_chain (T : Txt P K mg) (G__law_draw : FnOk P w K mg base CX0 1 (ga K "_law_draw") (fdOf K "_law_draw") ["pool", "many"] (sp_draw)) : FnOk P w K mg base CX0 2 (ga K "_law_chain") (fdOf K "_law_chain") ["side"] (sp__law_chain) := by
  refine T.f__law_chain.f.ok sc__law_chain (fun vs H Q E h => by obtain ⟨_, e, _⟩ := h; rw [e]; rfl) (fun cdv A outer s H vs Q E hr h => ⟨(d__law_chain T G__law_draw (b__law_draw T) hr).1, PSs.nox (d__law_chain T G__law_draw (b__law_draw T) hr).2, ?_⟩)
  dsimp only [d__law_chain, cxOf]
  obtain ⟨p, rfl, hp, q⟩ := h
  rw [show start N__law_chain [.ref p] = [some (.ref p), none, none, none] from rfl]
  walk_at "go"
  refine ⟨p, _, rfl, hp, .of (by decide) (by decide), fun r r0 r1 => ?_⟩
  walk_at "go"
  refine ⟨p, _, rfl, hp, .of (by decide) (by decide), fun x x0 x1 => ?_⟩
  walk_at "go"
  refine ⟨p, _, rfl, hp, .of (by decide) (by decide), fun y y0 y1 => ?_⟩
  walk_at "go"
  intro t ht
  walk_at "go"
  intro D hD
  have ht2 : upd H t (.lst [.int x, .int y, .int 6]) t = some (.lst [.int x, .int y, .int 6]) := upd_same
  have s1 : Same H (upd H t (.lst [.int x, .int y, .int 6])) := .new ht
  generalize upd H t (.lst [.int x, .int y, .int 6]) = H1 at *
  refine lc_range (fun i H2 => ∃ vs gs, Same H1 H2 ∧ H2 D = some (.lst vs) ∧ gsV H2 vs gs ∧ gs.length = i ∧ ∀ (k : Nat) (g : Gate), gs[k]? = some g → gateOk g (2 + (k : Nat)) = true) ⟨[], [], .new hD, upd_same, .nil, rfl, fun k g h => by cases h⟩ ?_ ?_
  · rintro i H2 hi ⟨vs, gs, sm, hD2, hg, gl, ok⟩
    have vl := hg.1
    dsimp only [wipe, List.map]
    have ht3 := sm _ _ ht2
    have m0 : 0 ≤ ((0 : Int) + (i : Int)) % 3 := by omega
    have m1 : ((0 : Int) + (i : Int)) % 3 < 3 := by omega
    obtain ⟨tb, htb, tb0, tb1⟩ : ∃ tb : Int, atI [V.int x, V.int y, V.int 6] (((0 : Int) + (i : Int)) % 3) = some (.int tb) ∧ 0 ≤ tb ∧ tb ≤ 15 := by
      rcases (show ((0 : Int) + (i : Int)) % 3 = 0 ∨ ((0 : Int) + (i : Int)) % 3 = 1 ∨ ((0 : Int) + (i : Int)) % 3 = 2 by omega) with e | e | e <;> rw [e]
      · exact ⟨x, rfl, x0, by omega⟩
      · exact ⟨y, rfl, y0, by omega⟩
      · exact ⟨6, rfl, by decide, by decide⟩
    walk_at "go"
    refine ⟨rfl, ?_⟩
    walk_at "go"
    intro pa hpa
    have hlk := at_new (x := .tup [.int tb, .int (0 + (i : Int) + 1), .int ((0 + (i : Int)) % 2)]) hpa hD2
    refine ⟨_, hlk, by rw [sizeLine_eq]; omega, _, gs ++ [(tb, 0 + (i : Int) + 1, (0 + (i : Int)) % 2)], Same.setNew (sm.then hpa) hD, upd_same, ((hg.same (.new hpa)).set hlk).snoc ⟨pa, rfl, at_lstT hlk upd_same⟩, by simp [gl], fun k g h => ?_⟩
    rcases snoc_get h with z | ⟨ek, rfl⟩
    · exact ok k g z
    · exact gateOk_iff.mpr ⟨⟨tb0, tb1⟩, by dsimp only; omega, by dsimp only; omega⟩
  · rintro H2 ⟨vs, gs, sm, hD2, hg, gl, ok⟩
    walk_at "go"
    intro y1' z1
    walk_at "go"
    intro y2 z2
    walk_at "go"
    intro y3 z3
    walk_at "go"
    refine q _ ⟨2, gs, [1100 + r + 1, 1100 + r]⟩ _ (s1.trans (sm.trans (((Same.new z1).then z2).then z3))) (cV.mk (by array_get_dec) (by array_get_dec) (hg.same (((Same.new z1).then z2).then z3)) (by show _ = some (HO.tup [V.int (1100 + r + 1), V.int (1100 + r)]); array_get_dec)) ⟨⟨by dsimp only; decide, ok, fun i z h => ?_⟩, by dsimp only; decide, by dsimp only; omega, by show 2 ≤ 2000; decide⟩ rfl rfl
    have hz : z = 1100 + r + 1 ∨ z = 1100 + r := by
      have := List.mem_of_getElem? h
      simpa using this
    exact wireOk_iff.mpr (by dsimp only; omega)
end

end K19
set_option maxHeartbeats 4000000
namespace K19
open PySem PySem.Spec PyProof.Rows L2 FabH He
local macro_rules | `(tactic| array_mem_dec) => `(tactic| (first | with_reducible assumption | with_reducible exact SqL.of (by array_get_dec) | with_reducible exact SqT.of (by array_get_dec) | ((repeat (with_reducible first | refine Same.seq (Same.new (by assumption)) ?_ | refine Same.tup (Same.new (by assumption)) ?_)); with_reducible assumption)))
local macro_rules | `(tactic| array_get_dec) => `(tactic| (first | with_reducible assumption | with_reducible exact upd_same | ((repeat (first | with_reducible exact upd_same | ((with_reducible apply at_new); with_reducible assumption) | ((with_reducible apply at_lstT); with_reducible assumption) | ((with_reducible apply at_lstR); with_reducible assumption) | ((with_reducible apply at_set); with_reducible assumption))); done) | ((repeat (first | ((with_reducible apply at_new); with_reducible assumption) | ((with_reducible apply at_lstT); with_reducible assumption) | ((with_reducible apply at_lstR); with_reducible assumption) | ((with_reducible apply at_set); with_reducible assumption))); with_reducible assumption)))
local macro_rules | `(tactic| walk_at "side") => `(tactic| (first | with_reducible assumption | decide | exact MOk.div (by assumption) | exact MOk.div (MOk.of (by decide) (by decide)) | (simp only [List.length_append, List.length_map, List.length_replicate, List.length_cons, List.length_nil, sizeLine_eq, CMul, CDivW, CPow]; omega) | omega))
local macro_rules | `(tactic| walk_at "st") => `(tactic| first
  | with_reducible refine g_cons ?_ | ((with_reducible apply g_var); (first | exact rfl | assumption)) | with_reducible refine g_const ?_ | with_reducible refine g_nil ?_ | with_reducible refine g_op ?_ | with_reducible refine g_rI0 ?_ | with_reducible refine g_seq ?_ | with_reducible refine g_asg ?_ | ((with_reducible refine g_name ?_); dsimp only [List.set_cons_zero, List.set_cons_succ])
  | with_reducible refine g_nx ?_ | with_reducible refine g_rt ?_ | with_reducible refine g_call ?_ | with_reducible refine g_ret ?_ | with_reducible refine g_test ?_ | with_reducible refine g_bl ?_ | with_reducible refine g_cb ?_ | with_reducible refine g_tB ?_ | with_reducible refine g_un ?_ | with_reducible refine g_rU ?_
  | with_reducible refine g_eqi ?_ | with_reducible refine g_int ?_ | with_reducible refine g_and ?_ | with_reducible refine g_or ?_ | with_reducible refine g_not ?_ | with_reducible refine g_drop ?_ | with_reducible refine g_next ?_ | with_reducible refine g_retN ?_ | with_reducible refine g_iteT ?_ | with_reducible refine g_iteF ?_ | with_reducible refine g_iteNT ?_ | with_reducible refine g_iteNF ?_
  | ((with_reducible apply g_ixL); array_mem_dec; (first | exact rfl | assumption)) | ((with_reducible apply g_ixT); array_mem_dec; (first | exact rfl | assumption)) | ((with_reducible apply g_lenL); array_mem_dec) | ((with_reducible apply g_lenT); array_mem_dec) | ((with_reducible apply g_rI); walk_at "side")
  | ((with_reducible apply g_setL); array_get_dec; (first | exact rfl | assumption)) | ((with_reducible apply g_app); array_get_dec; walk_at "side") | with_reducible refine g_tup ?_ | with_reducible refine g_lst ?_ | ((with_reducible apply g_listL); array_mem_dec) | ((with_reducible apply g_listT); array_mem_dec) | ((with_reducible apply g_tupT); array_mem_dec) | ((with_reducible apply g_tupL); array_mem_dec)
  | ((with_reducible apply g_room); walk_at "side") | with_reducible refine g_abs ?_ | with_reducible refine g_chain ?_ | with_reducible refine g_andV ?_ | with_reducible refine g_orV ?_ | with_reducible refine g_notV ?_ | with_reducible refine g_gsub ?_ | ((with_reducible apply g_gtup); array_mem_dec; (first | exact rfl | assumption)) | with_reducible refine g_gcons ?_ | with_reducible refine g_gnil ?_ | with_reducible refine g_bm ?_ | ((with_reducible apply g_tyL); array_mem_dec) | with_reducible refine g_tyS ?_
  | with_reducible refine g_callS ?_ | with_reducible refine g_nei ?_ | with_reducible refine g_eqs ?_ | with_reducible refine g_nes ?_ | with_reducible refine g_eqb ?_ | with_reducible refine g_nonI ?_ | with_reducible refine g_nonN ?_ | with_reducible refine g_nonS ?_ | with_reducible refine g_nonB ?_ | with_reducible refine g_nonR ?_ | with_reducible refine g_isBB ?_ | with_reducible refine g_isBI ?_ | with_reducible refine g_isBS ?_ | with_reducible refine g_isBR ?_ | with_reducible refine g_isBN ?_
  | with_reducible refine g_rng1 ?_ | with_reducible refine g_rng2 ?_ | ((with_reducible apply g_notInR); array_get_dec) | ((with_reducible apply g_inR); array_get_dec) | with_reducible refine g_for ?_ | with_reducible refine g_iList ?_ | with_reducible refine g_iTup ?_ | with_reducible refine g_iR1 ?_ | with_reducible refine g_iEnum ?_ | with_reducible refine g_lc ?_ | with_reducible refine g_yes ?_ | with_reducible refine g_slc ?_ | with_reducible refine g_raise ?_ | with_reducible refine g_exv ?_ | with_reducible refine g_xf ?_ | ((with_reducible apply g_xfe); array_get_dec; (first | exact rfl | assumption)) | with_reducible refine g_part ?_ | with_reducible refine g_nopart ?_ | with_reducible refine g_exi ?_ | with_reducible refine g_brk ?_ | with_reducible refine g_cnt ?_ | with_reducible refine g_bk ?_ | with_reducible refine g_ct ?_ | with_reducible refine g_if ?_
  | with_reducible refine g_augS ?_ | with_reducible refine g_nnR ?_ | with_reducible refine g_nnN ?_ | with_reducible refine g_nnI ?_ | with_reducible refine g_ipI ?_ | ((with_reducible apply g_neL); array_mem_dec; array_mem_dec) | ((with_reducible apply g_eqL); array_mem_dec; array_mem_dec) | ((with_reducible apply g_slL); array_mem_dec) | ((with_reducible apply g_atL); array_mem_dec) | ((with_reducible apply g_atT); array_mem_dec) | ((with_reducible apply g_enum); array_mem_dec) | ((with_reducible apply g_R1); walk_at "side"; walk_at "side")
  | with_reducible refine g_is_int_int ?_ | with_reducible refine g_is_int_bool ?_ | with_reducible refine g_is_int_str ?_ | with_reducible refine g_is_int_dict ?_ | with_reducible refine g_is_int_list ?_ | with_reducible refine g_is_int_tuple ?_ | with_reducible refine g_is_bool_bool ?_ | with_reducible refine g_is_bool_int ?_ | with_reducible refine g_is_str_int ?_ | with_reducible refine g_is_str_str ?_ | with_reducible refine g_is_str_dict ?_ | with_reducible refine g_is_str_list ?_ | with_reducible refine g_is_str_tuple ?_ | ((with_reducible apply g_is_list_int); array_get_dec) | ((with_reducible apply g_is_list_str); array_get_dec) | ((with_reducible apply g_is_list_dict); array_get_dec) | ((with_reducible apply g_is_list_list); array_get_dec) | ((with_reducible apply g_is_list_tuple); array_get_dec) | ((with_reducible apply g_is_tuple_int); array_get_dec) | ((with_reducible apply g_is_tuple_str); array_get_dec) | ((with_reducible apply g_is_tuple_dict); array_get_dec) | ((with_reducible apply g_is_tuple_list); array_get_dec) | ((with_reducible apply g_is_tuple_tuple); array_get_dec) | ((with_reducible apply g_ixSL); array_mem_dec; (first | exact rfl | assumption)) | ((with_reducible apply g_ixST); array_mem_dec; (first | exact rfl | assumption)))
local macro_rules | `(tactic| walk_at "go") => `(tactic| repeat first | with_reducible refine g_ifS ?_ | walk_at "st")
local macro_rules | `(tactic| walk_at "dec") => `(tactic| first | with_reducible assumption | decide | omega)
local macro_rules | `(tactic| walk_at "goD") => `(tactic| repeat first | with_reducible refine g_ifS ?_ | walk_at "st" | ((with_reducible apply g_iteY); walk_at "dec") | ((with_reducible apply g_iteX); walk_at "dec") | ((with_reducible apply g_iteNY); walk_at "dec") | ((with_reducible apply g_iteNX); walk_at "dec"))
local macro_rules | `(tactic| walk_at "goI") => `(tactic| repeat walk_at "st")
section
open FabC
variable {P : Program} {w : World} {K : PySem.W.Frag} {mg : Str → Option Value} {base : Heap}
theorem ok__law_second (T : Txt P K mg) (G__law_draw : FnOk P w K mg base CX0 1 (ga K "_law_draw") (fdOf K "_law_draw") ["pool", "many"] (sp_draw)) (G__law_drawn : FnOk P w K mg base CX0 4 (ga K "_law_drawn") (fdOf K "_law_drawn") ["pools", "free", "count", "many"] (FabC.sp__law_drawn)) (G__law_wire : FnOk P w K mg base CX0 3 (ga K "_law_wire") (fdOf K "_law_wire") ["pools", "wires"] (FabC.sp__law_wire)) : FnOk P w K mg base CX0 5 (ga K "_law_second") (fdOf K "_law_second") ["pools", "side", "circuit"] (sp__law_second) := by
  refine T.f__law_second.f.ok sc__law_second (fun vs H Q E h => by obtain ⟨_, _, _, _, e, _⟩ := h; rw [e]; rfl) (fun cdv A outer s H vs Q E hr h => ⟨(d__law_second T G__law_draw (b__law_draw T) G__law_drawn (b__law_drawn T) G__law_wire (b__law_wire T) hr).1, PSs.nox (d__law_second T G__law_draw (b__law_draw T) G__law_drawn (b__law_drawn T) G__law_wire (b__law_wire T) hr).2, ?_⟩)
  dsimp only [d__law_second, cxOf]
  obtain ⟨v, sd, u, c, rfl, hv, hsd, hc, gd, q⟩ := h
  obtain ⟨a, ga, ea, vs0, rfl, h1, h2, h3, h4⟩ := id hc
  obtain ⟨pl, pp, rfl, _⟩ := id hv
  have gg := gd.g
  have ge := gd.e
  have gf := gd.f
  have f0 := gd.wf.f0
  have vl := h3.1
  rw [show start N__law_second [.ref pl, .ref sd, .ref a] = [some (.ref pl), some (.ref sd), some (.ref a), none, none, none, none, none, none] from rfl]
  walk_at "go"
  refine ⟨sd, _, rfl, hsd, .of (by decide) (by decide), fun kind k0 k1 => ?_⟩
  walk_at "go"
  intro lg hlg
  walk_at "go"
  intro le hle
  walk_at "go"
  refine ⟨_, _, rfl, ?_⟩
  walk_at "go"
  have hm : ∀ m : Int, m = (if ((vs0.length : Nat) : Int) > 1 then ((vs0.length : Nat) : Int) else 1) → 0 < m ∧ m ≤ 2000 := fun m e => by
    rw [e]
    split <;> omega
  have hm2 := hm _ rfl
  refine ⟨sd, _, rfl, at_new hle (at_new hlg hsd), .of hm2.1 (by omega), fun j j0 j1 => ?_⟩
  have jg : 0 < (vs0.length : Int) → j < (vs0.length : Nat) := fun z => by
    split at j1 <;> omega
  clear hm hm2 j1
  walk_at "goI"
  have nge : lg ≠ le := ne_of_free hle upd_same
  have nge' := nge.symm
  have s1 := (Same.new (x := .lst vs0) hlg).then (x := .lst (c.ends.map V.int)) hle
  have xg : upd (upd H lg (.lst vs0)) le (.lst (c.ends.map V.int)) lg = some (.lst vs0) := at_new hle upd_same
  have xe : upd (upd H lg (.lst vs0)) le (.lst (c.ends.map V.int)) le = some (.lst (c.ends.map V.int)) := upd_same
  have fe : H le = none := free_of hle
  generalize upd (upd H lg (.lst vs0)) le (.lst (c.ends.map V.int)) = H1 at *
  have h1' := s1 _ _ h1
  have h2' := s1 _ _ h2
  have hv1 := hv.same s1
  have hsd1 : IsPool H1 sd := s1 _ _ hsd
  have hg1 := h3.same s1
  have eml : (c.ends.map V.int).length = c.ends.length := by simp
  refine g_keep (fun σ H2 => ∃ (lg : Addr) (vs : List V) (gs : List Gate) (es : List Int) (o6 o7 o8 : Option V), σ = [some (.ref pl), some (.ref sd), some (.ref a), some (.int kind), some (.ref lg), some (.ref le), o6, o7, o8] ∧ Same H H2 ∧ H2 lg = some (.lst vs) ∧ gsV H2 vs gs ∧ H2 le = some (.lst (es.map V.int)) ∧ gs.length = c.gates.length ∧ es.length = c.ends.length ∧ GOk c.free gs ∧ EOk (c.free + (c.gates.length : Nat)) es) ?_ (fun f fin => ?_)
  · rintro σ H2 ⟨lg2, vs, gs, es, o6, o7, o8, rfl, sm, hlg2, hgs, hle2, gl, el, gok, eok⟩
    have h1'' := sm _ _ h1
    walk_at "go"
    intro y1 z1
    walk_at "go"
    intro y2 z2
    walk_at "go"
    intro y3 z3
    walk_at "go"
    exact q _ ⟨c.free, gs, es⟩ _ (sm.trans (((Same.new z1).then z2).then z3)) (cV.mk (by array_get_dec) (by array_get_dec) (hgs.same (((Same.new z1).then z2).then z3)) (by array_get_dec)) ⟨⟨f0, gok, fun i z h => by show wireOk z (c.free + (gs.length : Nat)) = true; rw [gl]; exact eok i z h⟩, gf, by show gs.length ≤ 2000; omega, by show es.length ≤ 2000; omega⟩ rfl el
  · have keep : ∀ o6 o7 o8, f [some (.ref pl), some (.ref sd), some (.ref a), some (.int kind), some (.ref lg), some (.ref le), o6, o7, o8] H1 := fun o6 o7 o8 => fin _ _ ⟨lg, vs0, c.gates, c.ends, o6, o7, o8, rfl, s1, xg, hg1, xe, rfl, rfl, gd.wf.g, gd.wf.e⟩
    have at_j : 0 < (vs0.length : Int) → ∃ (g : Gate) (t : Addr), c.gates[j.toNat]? = some g ∧ atI vs0 j = some (.ref t) ∧ H1 t = some (.tup [.int g.1, .int g.2.1, .int g.2.2]) := fun z => by
      have jl := jg z
      obtain ⟨x, hx⟩ : ∃ x, vs0[j.toNat]? = some x := ⟨_, List.getElem?_eq_getElem (by omega)⟩
      obtain ⟨g, hg⟩ : ∃ g, c.gates[j.toNat]? = some g := ⟨_, List.getElem?_eq_getElem (by omega)⟩
      obtain ⟨t, rfl, ht⟩ := hg1.2 _ x g hx hg
      exact ⟨g, t, hg, by rw [atI_pos j0]; exact hx, ht⟩
    rcases (show kind = 0 ∨ kind = 1 ∨ kind = 2 ∨ kind = 3 ∨ kind = 4 ∨ kind = 5 by omega) with rfl | rfl | rfl | rfl | rfl | rfl
    · walk_at "goD"
      exact keep _ _ _
    · walk_at "goD"
      refine g_ite (fun z => ?_) (fun z => ?_)
      · obtain ⟨g, t, hg, hat, ht⟩ := at_j z
        have gk := gateOk_iff.mp (gd.wf.g _ g hg)
        have hix : ixN vs0.length j = some j.toNat := ixN_pos j0 (jg z)
        walk_at "goD"
        refine ⟨sd, _, rfl, hsd1, .of (by decide) (by decide), fun d d0 d1 => ?_⟩
        walk_at "goD"
        intro pa hpa
        walk_at "goD"
        have hlk := at_new (x := .tup [.int (Builtin.bitXor g.1 (1 * 2 ^ d.toNat)), .int g.2.1, .int g.2.2]) hpa xg
        refine fin _ _ ?_
        exact ⟨lg, _, c.gates.set j.toNat (Builtin.bitXor g.1 (1 * 2 ^ d.toNat), g.2.1, g.2.2), c.ends, _, _, _, rfl, Same.setNew (s1.then hpa) hlg, upd_same, ((hg1.same (.new hpa)).set hlk).put ⟨pa, rfl, at_lstT hlk upd_same⟩, at_set nge' (at_new hpa xe), by simp, rfl, GOk.set gd.wf.g (gateOk_iff.mpr ⟨xor_ok gk.1.1 gk.1.2 d0 d1, gk.2⟩), gd.wf.e⟩
      · walk_at "goD"
        exact keep _ _ _
    · walk_at "goD"
      intro D hD
      refine lc_tup (fun i H2 => ∃ vs gs, Same H1 H2 ∧ H2 D = some (.lst vs) ∧ gsV H2 vs gs ∧ gs.length = i ∧ GOk c.free gs) ⟨[], [], .new hD, upd_same, .nil, rfl, fun k g h => by cases h⟩ (fun i H2 _ ⟨_, _, s2, _⟩ => .of (s2 _ _ h2')) ?_ ?_
      · rintro i x H2 hx ⟨vs, gs, s2, hD2, hg, gl, ok⟩
        have vl2 := hg.1
        have hi : i < c.gates.length := by
          have := (List.getElem?_eq_some_iff.mp hx).1
          omega
        obtain ⟨g, hgi⟩ : ∃ g, c.gates[i]? = some g := ⟨_, List.getElem?_eq_getElem hi⟩
        obtain ⟨t, rfl, ht⟩ := (hg1.2 i x g hx hgi).same s2
        have gk := gateOk_iff.mp (gd.wf.g _ g hgi)
        have ga2 := and_ok gk.1.1 gk.1.2
        dsimp only [wipe, List.map]
        walk_at "go"
        refine ⟨rfl, ?_⟩
        walk_at "go"
        intro pa hpa
        have hlk := at_new (x := .tup [.int (Builtin.bitAnd g.1 9 + Builtin.bitAnd g.1 2 * 2 ^ (1 : Int).toNat + Builtin.bitAnd g.1 4 / 2 ^ (1 : Int).toNat), .int g.2.2, .int g.2.1]) hpa hD2
        refine ⟨_, hlk, by rw [sizeLine_eq]; omega, _, gs ++ [(Builtin.bitAnd g.1 9 + Builtin.bitAnd g.1 2 * 2 ^ (1 : Int).toNat + Builtin.bitAnd g.1 4 / 2 ^ (1 : Int).toNat, g.2.2, g.2.1)], Same.setNew (s2.then hpa) hD, upd_same, ((hg.same (.new hpa)).set hlk).snoc ⟨pa, rfl, at_lstT hlk upd_same⟩, by simp [gl], fun k g' h => ?_⟩
        rcases snoc_get h with z | ⟨ek, rfl⟩
        · exact ok k g' z
        · rw [ek, gl]
          exact gateOk_iff.mpr ⟨swap_ok gk.1.1 gk.1.2, gk.2.2, gk.2.1⟩
      · rintro H2 ⟨vs, gs, s2, hD2, hg, gl, ok⟩
        walk_at "goD"
        refine fin _ _ ?_
        exact ⟨D, vs, gs, c.ends, _, _, _, rfl, s1.trans s2, hD2, hg, s2 _ _ xe, by omega, rfl, ok, gd.wf.e⟩
    · walk_at "goD"
      rw [eml]
      refine g_ite (fun z => ?_) (fun z => ?_)
      · walk_at "goD"
        rw [eml]
        refine ⟨sd, _, rfl, hsd1, .of z (by omega), fun d d0 d1 => ?_⟩
        walk_at "goD"
        refine ⟨_, _, rfl, hv1, by omega, by omega, fun x hx => ?_⟩
        have hix : ixN (c.ends.map V.int).length d = some d.toNat := ixN_pos d0 (by rw [eml]; exact d1)
        walk_at "goD"
        refine fin _ _ ?_
        rw [vl] at hx
        exact ⟨lg, vs0, c.gates, c.ends.set d.toNat x, _, _, _, rfl, Same.setNew s1 fe, at_set nge xg, hg1.set xe, by rw [upd_same, List.map_set], rfl, by simp, gd.wf.g, EOk.set gd.wf.e hx⟩
      · walk_at "goD"
        exact keep _ _ _
    · walk_at "goD"
      refine ⟨sd, _, rfl, hsd1, .of (by decide) (by decide), fun d d0 d1 => ?_⟩
      walk_at "goD"
      rw [eml]
      refine ⟨_, _, _, _, rfl, hv1, f0, by omega, d0, by omega, by omega, by omega, fun w e H2 s2 hw wf ef eg ee => ?_⟩
      walk_at "goD"
      exact q _ e _ (s1.trans s2) hw ⟨wf, by omega, by omega, by omega⟩ ef (by omega)
    · walk_at "goD"
      refine g_ite (fun z => ?_) (fun z => ?_)
      · obtain ⟨g, t, hg, hat, ht⟩ := at_j z
        have gk := gateOk_iff.mp (gd.wf.g _ g hg)
        have hix : ixN vs0.length j = some j.toNat := ixN_pos j0 (jg z)
        have jl := jg z
        walk_at "goD"
        refine ⟨_, _, rfl, hv1, by omega, by omega, fun x hx => ?_⟩
        walk_at "goD"
        intro pa hpa
        walk_at "goD"
        have hlk := at_new (x := .tup [.int g.1, .int x, .int g.2.2]) hpa xg
        refine fin _ _ ?_
        exact ⟨lg, _, c.gates.set j.toNat (g.1, x, g.2.2), c.ends, _, _, _, rfl, Same.setNew (s1.then hpa) hlg, upd_same, ((hg1.same (.new hpa)).set hlk).put ⟨pa, rfl, at_lstT hlk upd_same⟩, at_set nge' (at_new hpa xe), by simp, rfl, GOk.set gd.wf.g (gateOk_iff.mpr ⟨gk.1, by have := wireOk_iff.mp hx; dsimp only; omega, gk.2.2⟩), gd.wf.e⟩
      · walk_at "goD"
        exact keep _ _ _
end

end K19
set_option maxHeartbeats 4000000
namespace K19
open PySem PySem.Spec PyProof.Rows L2 FabH He
local macro_rules | `(tactic| array_mem_dec) => `(tactic| (first | with_reducible assumption | with_reducible exact SqL.of (by array_get_dec) | with_reducible exact SqT.of (by array_get_dec) | ((repeat (with_reducible first | refine Same.seq (Same.new (by assumption)) ?_ | refine Same.tup (Same.new (by assumption)) ?_)); with_reducible assumption)))
local macro_rules | `(tactic| array_get_dec) => `(tactic| (first | with_reducible assumption | with_reducible exact upd_same | ((repeat (first | with_reducible exact upd_same | ((with_reducible apply at_new); with_reducible assumption) | ((with_reducible apply at_lstT); with_reducible assumption) | ((with_reducible apply at_lstR); with_reducible assumption) | ((with_reducible apply at_set); with_reducible assumption))); done) | ((repeat (first | ((with_reducible apply at_new); with_reducible assumption) | ((with_reducible apply at_lstT); with_reducible assumption) | ((with_reducible apply at_lstR); with_reducible assumption) | ((with_reducible apply at_set); with_reducible assumption))); with_reducible assumption)))
local macro_rules | `(tactic| walk_at "side") => `(tactic| (first | with_reducible assumption | decide | exact MOk.div (by assumption) | exact MOk.div (MOk.of (by decide) (by decide)) | (simp only [List.length_append, List.length_map, List.length_replicate, List.length_cons, List.length_nil, sizeLine_eq, CMul, CDivW, CPow]; omega) | omega))
local macro_rules | `(tactic| walk_at "st") => `(tactic| first
  | with_reducible refine g_cons ?_ | ((with_reducible apply g_var); (first | exact rfl | assumption)) | with_reducible refine g_const ?_ | with_reducible refine g_nil ?_ | with_reducible refine g_op ?_ | with_reducible refine g_rI0 ?_ | with_reducible refine g_seq ?_ | with_reducible refine g_asg ?_ | ((with_reducible refine g_name ?_); dsimp only [List.set_cons_zero, List.set_cons_succ])
  | with_reducible refine g_nx ?_ | with_reducible refine g_rt ?_ | with_reducible refine g_call ?_ | with_reducible refine g_ret ?_ | with_reducible refine g_test ?_ | with_reducible refine g_bl ?_ | with_reducible refine g_cb ?_ | with_reducible refine g_tB ?_ | with_reducible refine g_un ?_ | with_reducible refine g_rU ?_
  | with_reducible refine g_eqi ?_ | with_reducible refine g_int ?_ | with_reducible refine g_and ?_ | with_reducible refine g_or ?_ | with_reducible refine g_not ?_ | with_reducible refine g_drop ?_ | with_reducible refine g_next ?_ | with_reducible refine g_retN ?_ | with_reducible refine g_iteT ?_ | with_reducible refine g_iteF ?_ | with_reducible refine g_iteNT ?_ | with_reducible refine g_iteNF ?_
  | ((with_reducible apply g_ixL); array_mem_dec; (first | exact rfl | assumption)) | ((with_reducible apply g_ixT); array_mem_dec; (first | exact rfl | assumption)) | ((with_reducible apply g_lenL); array_mem_dec) | ((with_reducible apply g_lenT); array_mem_dec) | ((with_reducible apply g_rI); walk_at "side")
  | ((with_reducible apply g_setL); array_get_dec; (first | exact rfl | assumption)) | ((with_reducible apply g_app); array_get_dec; walk_at "side") | with_reducible refine g_tup ?_ | with_reducible refine g_lst ?_ | ((with_reducible apply g_listL); array_mem_dec) | ((with_reducible apply g_listT); array_mem_dec) | ((with_reducible apply g_tupT); array_mem_dec) | ((with_reducible apply g_tupL); array_mem_dec)
  | ((with_reducible apply g_room); walk_at "side") | with_reducible refine g_abs ?_ | with_reducible refine g_chain ?_ | with_reducible refine g_andV ?_ | with_reducible refine g_orV ?_ | with_reducible refine g_notV ?_ | with_reducible refine g_gsub ?_ | ((with_reducible apply g_gtup); array_mem_dec; (first | exact rfl | assumption)) | with_reducible refine g_gcons ?_ | with_reducible refine g_gnil ?_ | with_reducible refine g_bm ?_ | ((with_reducible apply g_tyL); array_mem_dec) | with_reducible refine g_tyS ?_
  | with_reducible refine g_callS ?_ | with_reducible refine g_nei ?_ | with_reducible refine g_eqs ?_ | with_reducible refine g_nes ?_ | with_reducible refine g_eqb ?_ | with_reducible refine g_nonI ?_ | with_reducible refine g_nonN ?_ | with_reducible refine g_nonS ?_ | with_reducible refine g_nonB ?_ | with_reducible refine g_nonR ?_ | with_reducible refine g_isBB ?_ | with_reducible refine g_isBI ?_ | with_reducible refine g_isBS ?_ | with_reducible refine g_isBR ?_ | with_reducible refine g_isBN ?_
  | with_reducible refine g_rng1 ?_ | with_reducible refine g_rng2 ?_ | ((with_reducible apply g_notInR); array_get_dec) | ((with_reducible apply g_inR); array_get_dec) | with_reducible refine g_for ?_ | with_reducible refine g_iList ?_ | with_reducible refine g_iTup ?_ | with_reducible refine g_iR1 ?_ | with_reducible refine g_iEnum ?_ | with_reducible refine g_lc ?_ | with_reducible refine g_yes ?_ | with_reducible refine g_slc ?_ | with_reducible refine g_raise ?_ | with_reducible refine g_exv ?_ | with_reducible refine g_xf ?_ | ((with_reducible apply g_xfe); array_get_dec; (first | exact rfl | assumption)) | with_reducible refine g_part ?_ | with_reducible refine g_nopart ?_ | with_reducible refine g_exi ?_ | with_reducible refine g_brk ?_ | with_reducible refine g_cnt ?_ | with_reducible refine g_bk ?_ | with_reducible refine g_ct ?_ | with_reducible refine g_if ?_
  | with_reducible refine g_augS ?_ | with_reducible refine g_nnR ?_ | with_reducible refine g_nnN ?_ | with_reducible refine g_nnI ?_ | with_reducible refine g_ipI ?_ | ((with_reducible apply g_neL); array_mem_dec; array_mem_dec) | ((with_reducible apply g_eqL); array_mem_dec; array_mem_dec) | ((with_reducible apply g_slL); array_mem_dec) | ((with_reducible apply g_atL); array_mem_dec) | ((with_reducible apply g_atT); array_mem_dec) | ((with_reducible apply g_enum); array_mem_dec) | ((with_reducible apply g_R1); walk_at "side"; walk_at "side")
  | with_reducible refine g_is_int_int ?_ | with_reducible refine g_is_int_bool ?_ | with_reducible refine g_is_int_str ?_ | with_reducible refine g_is_int_dict ?_ | with_reducible refine g_is_int_list ?_ | with_reducible refine g_is_int_tuple ?_ | with_reducible refine g_is_bool_bool ?_ | with_reducible refine g_is_bool_int ?_ | with_reducible refine g_is_str_int ?_ | with_reducible refine g_is_str_str ?_ | with_reducible refine g_is_str_dict ?_ | with_reducible refine g_is_str_list ?_ | with_reducible refine g_is_str_tuple ?_ | ((with_reducible apply g_is_list_int); array_get_dec) | ((with_reducible apply g_is_list_str); array_get_dec) | ((with_reducible apply g_is_list_dict); array_get_dec) | ((with_reducible apply g_is_list_list); array_get_dec) | ((with_reducible apply g_is_list_tuple); array_get_dec) | ((with_reducible apply g_is_tuple_int); array_get_dec) | ((with_reducible apply g_is_tuple_str); array_get_dec) | ((with_reducible apply g_is_tuple_dict); array_get_dec) | ((with_reducible apply g_is_tuple_list); array_get_dec) | ((with_reducible apply g_is_tuple_tuple); array_get_dec) | ((with_reducible apply g_ixSL); array_mem_dec; (first | exact rfl | assumption)) | ((with_reducible apply g_ixST); array_mem_dec; (first | exact rfl | assumption)))
local macro_rules | `(tactic| walk_at "go") => `(tactic| repeat first | with_reducible refine g_ifS ?_ | walk_at "st")
local macro_rules | `(tactic| walk_at "dec") => `(tactic| first | with_reducible assumption | decide | omega)
local macro_rules | `(tactic| walk_at "goD") => `(tactic| repeat first | with_reducible refine g_ifS ?_ | walk_at "st" | ((with_reducible apply g_iteY); walk_at "dec") | ((with_reducible apply g_iteX); walk_at "dec") | ((with_reducible apply g_iteNY); walk_at "dec") | ((with_reducible apply g_iteNX); walk_at "dec"))
local macro_rules | `(tactic| walk_at "goI") => `(tactic| repeat walk_at "st")
section
open FabC
variable {P : Program} {w : World} {K : PySem.W.Frag} {mg : Str → Option Value} {base : Heap}
theorem ok__law_values_right (T : Txt P K mg) (G__law_same : FnOk P w K mg base CX0 6 (ga K "_law_same") (fdOf K "_law_same") ["told", "due"] (sp_same 4)) (G__law_shown : FnOk P w K mg base CX0 2 (ga K "_law_shown") (fdOf K "_law_shown") ["circuit", "values"] (sp__law_shown)) (G__law_worths : FnOk P w K mg base CX0 1 (ga K "_law_worths") (fdOf K "_law_worths") ["circuit", "values"] (sp__law_worths)) (G_evaluate : FnOk P w K mg base CX0 4 (ga K "evaluate") (fdOf K "evaluate") ["circuit", "values"] (sp0_evaluate)) (G_wire_values : FnOk P w K mg base CX0 3 (ga K "wire_values") (fdOf K "wire_values") ["circuit", "values"] (sp0_wire_values)) : FnOk P w K mg base CX0 7 (ga K "_law_values_right") (fdOf K "_law_values_right") ["circuit", "rows"] (sp__law_values_right) := by
  refine T.f__law_values_right.f.ok sc__law_values_right (fun vs H Q E h => by obtain ⟨_, _, _, _, e, _⟩ := h; rw [e]; rfl) (fun cdv A outer s H vs Q E hr h => ⟨(d__law_values_right T G__law_same (b__law_same T) G__law_shown (b__law_shown T) G__law_worths (b__law_worths T) G_evaluate (b_evaluate T) G_wire_values (b_wire_values T) hr).1, PSs.nox (d__law_values_right T G__law_same (b__law_same T) G__law_shown (b__law_shown T) G__law_worths (b__law_worths T) G_evaluate (b_evaluate T) G_wire_values (b_wire_values T) hr).2, ?_⟩)
  dsimp only [d__law_values_right, cxOf]
  obtain ⟨u, r, c, ls, rfl, hc, gd, hr, ok, ll, q⟩ := h
  obtain ⟨lr, vs, rfl, h1, h2, h3⟩ := hr.at
  rw [show start N__law_values_right [u, .ref lr] = [some (u), some (.ref lr), none, none, none, none, none, none] from rfl]
  walk_at "go"
  refine for_list (fun i σ H' => ∃ o2 o3 o4 o5 o6 o7, σ = [some u, some (.ref lr), o2, o3, o4, o5, o6, o7] ∧ Same H H') ⟨_, _, _, _, _, _, rfl, .refl H⟩ (fun i σ H' _ ⟨_, _, _, _, _, _, _, sm⟩ => .of (sm _ _ h1)) ?_ ?_
  · rintro i x σ H0 hx ⟨o2, o3, o4, o5, o6, o7, rfl, s0⟩
    obtain ⟨lv, xs, rfl, hxs, hv⟩ := h3 i x hx
    have hb := (ok xs (List.mem_of_getElem? hxs)).1
    have hz := (ok xs (List.mem_of_getElem? hxs)).2
    have gf := gd.f
    have gg := gd.g
    have ge := gd.e
    have hv := s0 _ _ hv
    have hc := hc.same s0
    walk_at "go"
    refine ⟨_, _, c, xs, rfl, hc, gd, ⟨lv, rfl, hv⟩, hb, hz, fun w1 H1 s1 hw1 => ?_⟩
    obtain ⟨l1, rfl, n1, hl1⟩ := hw1
    walk_at "go"
    refine ⟨_, _, c, xs, rfl, hc.same s1, gd, ⟨lv, rfl, s1 _ _ hv⟩, hb, hz, fun w2 H2 s2 hw2 => ?_⟩
    obtain ⟨l2, rfl, n2, hl2⟩ := hw2
    have hv2 := s2 _ _ (s1 _ _ hv)
    walk_at "go"
    intro lh nh
    walk_at "go"
    have hl1 := s2 _ _ hl1
    have wl := worths_length c.gates xs
    have sl := shown_length c xs
    have hlh : upd H2 lh (.lst (xs.map V.int)) lh = some (.lst (xs.map V.int)) := upd_same
    have S3 : Same H0 (upd H2 lh (.lst (xs.map V.int))) := (s1.trans s2).then nh
    have S23 : Same H2 (upd H2 lh (.lst (xs.map V.int))) := .new nh
    generalize upd H2 lh (.lst (xs.map V.int)) = H3 at *
    refine ⟨_, _, c, xs, rfl, hc.same S3, gd, ⟨lh, rfl, .inl hlh⟩, hb, by omega, hz, fun w4 H4 s4 hw4 => ?_⟩
    obtain ⟨lt, rfl, nt, hlt⟩ := hw4
    walk_at "go"
    refine ⟨_, _, c, xs, rfl, hc.same (S3.trans s4), gd, ⟨lh, rfl, .inl (s4 _ _ hlh)⟩, hb, by omega, hz, fun w5 H5 s5 hw5 => ?_⟩
    obtain ⟨le, rfl, ne, hle⟩ := hw5
    have s35 := s4.trans s5
    have ntl := ne_of_free ne hlt
    have ntl' := ntl.symm
    have hlt := s5 _ _ hlt
    walk_at "go"
    refine ⟨_, _, rfl, ds_ints hlt (s35 _ _ (S23 _ _ hl1)) (by omega), ?_⟩
    walk_at "go"
    refine ⟨_, _, rfl, ds_ints hle (s35 _ _ (S23 _ _ hl2)) (by omega), ?_⟩
    walk_at "go"
    refine ⟨_, _, rfl, ds_ints (s35 _ _ hlh) (s35 _ _ (S3 _ _ hv)) (by omega), ?_⟩
    walk_at "go"
    have S7 : Same H3 (upd (upd H5 lt (.lst ((worths c.gates xs).map V.int ++ [.int 1]))) le (.lst ((shown c xs).map V.int ++ [.int 1]))) := Same.setNew (Same.setNew s35 nt) (s4.free ne)
    generalize upd (upd H5 lt (.lst ((worths c.gates xs).map V.int ++ [.int 1]))) le (.lst ((shown c xs).map V.int ++ [.int 1])) = H7 at *
    have hv7 := S7 _ _ (S3 _ _ hv)
    have hl17 := S7 _ _ (S23 _ _ hl1)
    have hl27 := S7 _ _ (S23 _ _ hl2)
    have hc7 := hc.same (S3.trans S7)
    refine ⟨_, _, rfl, ds_ints (S7 _ _ hlh) hv7 (by omega), ?_⟩
    walk_at "go"
    intro tp ntp
    walk_at "go"
    refine ⟨_, _, c, xs, rfl, hc7.same (.new ntp), gd, ⟨tp, rfl, .inr upd_same⟩, hb, by omega, hz, fun w8 H8 s8 hw8 => ?_⟩
    obtain ⟨l8, rfl, n8, hl8⟩ := hw8
    have S8 : Same H7 H8 := (Same.new ntp).trans s8
    walk_at "go"
    refine ⟨_, _, rfl, ds_ints hl8 (S8 _ _ hl17) (by omega), ?_⟩
    have hv8 := S8 _ _ hv7
    walk_at "go"
    intro tq ntq
    walk_at "go"
    refine ⟨_, _, c, xs, rfl, hc7.same (S8.then ntq), gd, ⟨tq, rfl, .inr upd_same⟩, hb, by omega, hz, fun w9 H9 s9 hw9 => ?_⟩
    obtain ⟨l9, rfl, n9, hl9⟩ := hw9
    walk_at "go"
    refine ⟨_, _, rfl, ds_ints hl9 (((Same.new ntq).trans s9) _ _ (S8 _ _ hl27)) (by omega), ?_⟩
    walk_at "go"
    exact ⟨_, _, _, _, _, _, rfl, s0.trans (S3.trans (S7.trans (S8.trans ((Same.new ntq).trans s9))))⟩
  · rintro σ H' ⟨o2, o3, o4, o5, o6, o7, rfl, s0⟩
    walk_at "go"
    exact q _ s0
end

end K19
set_option maxHeartbeats 4000000
namespace K19
open PySem PySem.Spec PyProof.Rows L2 FabH He
local macro_rules | `(tactic| array_mem_dec) => `(tactic| (first | with_reducible assumption | with_reducible exact SqL.of (by array_get_dec) | with_reducible exact SqT.of (by array_get_dec) | ((repeat (with_reducible first | refine Same.seq (Same.new (by assumption)) ?_ | refine Same.tup (Same.new (by assumption)) ?_)); with_reducible assumption)))
local macro_rules | `(tactic| array_get_dec) => `(tactic| (first | with_reducible assumption | with_reducible exact upd_same | ((repeat (first | with_reducible exact upd_same | ((with_reducible apply at_new); with_reducible assumption) | ((with_reducible apply at_lstT); with_reducible assumption) | ((with_reducible apply at_lstR); with_reducible assumption) | ((with_reducible apply at_set); with_reducible assumption))); done) | ((repeat (first | ((with_reducible apply at_new); with_reducible assumption) | ((with_reducible apply at_lstT); with_reducible assumption) | ((with_reducible apply at_lstR); with_reducible assumption) | ((with_reducible apply at_set); with_reducible assumption))); with_reducible assumption)))
local macro_rules | `(tactic| walk_at "side") => `(tactic| (first | with_reducible assumption | decide | exact MOk.div (by assumption) | exact MOk.div (MOk.of (by decide) (by decide)) | (simp only [List.length_append, List.length_map, List.length_replicate, List.length_cons, List.length_nil, sizeLine_eq, CMul, CDivW, CPow]; omega) | omega))
local macro_rules | `(tactic| walk_at "st") => `(tactic| first
  | with_reducible refine g_cons ?_ | ((with_reducible apply g_var); (first | exact rfl | assumption)) | with_reducible refine g_const ?_ | with_reducible refine g_nil ?_ | with_reducible refine g_op ?_ | with_reducible refine g_rI0 ?_ | with_reducible refine g_seq ?_ | with_reducible refine g_asg ?_ | ((with_reducible refine g_name ?_); dsimp only [List.set_cons_zero, List.set_cons_succ])
  | with_reducible refine g_nx ?_ | with_reducible refine g_rt ?_ | with_reducible refine g_call ?_ | with_reducible refine g_ret ?_ | with_reducible refine g_test ?_ | with_reducible refine g_bl ?_ | with_reducible refine g_cb ?_ | with_reducible refine g_tB ?_ | with_reducible refine g_un ?_ | with_reducible refine g_rU ?_
  | with_reducible refine g_eqi ?_ | with_reducible refine g_int ?_ | with_reducible refine g_and ?_ | with_reducible refine g_or ?_ | with_reducible refine g_not ?_ | with_reducible refine g_drop ?_ | with_reducible refine g_next ?_ | with_reducible refine g_retN ?_ | with_reducible refine g_iteT ?_ | with_reducible refine g_iteF ?_ | with_reducible refine g_iteNT ?_ | with_reducible refine g_iteNF ?_
  | ((with_reducible apply g_ixL); array_mem_dec; (first | exact rfl | assumption)) | ((with_reducible apply g_ixT); array_mem_dec; (first | exact rfl | assumption)) | ((with_reducible apply g_lenL); array_mem_dec) | ((with_reducible apply g_lenT); array_mem_dec) | ((with_reducible apply g_rI); walk_at "side")
  | ((with_reducible apply g_setL); array_get_dec; (first | exact rfl | assumption)) | ((with_reducible apply g_app); array_get_dec; walk_at "side") | with_reducible refine g_tup ?_ | with_reducible refine g_lst ?_ | ((with_reducible apply g_listL); array_mem_dec) | ((with_reducible apply g_listT); array_mem_dec) | ((with_reducible apply g_tupT); array_mem_dec) | ((with_reducible apply g_tupL); array_mem_dec)
  | ((with_reducible apply g_room); walk_at "side") | with_reducible refine g_abs ?_ | with_reducible refine g_chain ?_ | with_reducible refine g_andV ?_ | with_reducible refine g_orV ?_ | with_reducible refine g_notV ?_ | with_reducible refine g_gsub ?_ | ((with_reducible apply g_gtup); array_mem_dec; (first | exact rfl | assumption)) | with_reducible refine g_gcons ?_ | with_reducible refine g_gnil ?_ | with_reducible refine g_bm ?_ | ((with_reducible apply g_tyL); array_mem_dec) | with_reducible refine g_tyS ?_
  | with_reducible refine g_callS ?_ | with_reducible refine g_nei ?_ | with_reducible refine g_eqs ?_ | with_reducible refine g_nes ?_ | with_reducible refine g_eqb ?_ | with_reducible refine g_nonI ?_ | with_reducible refine g_nonN ?_ | with_reducible refine g_nonS ?_ | with_reducible refine g_nonB ?_ | with_reducible refine g_nonR ?_ | with_reducible refine g_isBB ?_ | with_reducible refine g_isBI ?_ | with_reducible refine g_isBS ?_ | with_reducible refine g_isBR ?_ | with_reducible refine g_isBN ?_
  | with_reducible refine g_rng1 ?_ | with_reducible refine g_rng2 ?_ | ((with_reducible apply g_notInR); array_get_dec) | ((with_reducible apply g_inR); array_get_dec) | with_reducible refine g_for ?_ | with_reducible refine g_iList ?_ | with_reducible refine g_iTup ?_ | with_reducible refine g_iR1 ?_ | with_reducible refine g_iEnum ?_ | with_reducible refine g_lc ?_ | with_reducible refine g_yes ?_ | with_reducible refine g_slc ?_ | with_reducible refine g_raise ?_ | with_reducible refine g_exv ?_ | with_reducible refine g_xf ?_ | ((with_reducible apply g_xfe); array_get_dec; (first | exact rfl | assumption)) | with_reducible refine g_part ?_ | with_reducible refine g_nopart ?_ | with_reducible refine g_exi ?_ | with_reducible refine g_brk ?_ | with_reducible refine g_cnt ?_ | with_reducible refine g_bk ?_ | with_reducible refine g_ct ?_ | with_reducible refine g_if ?_
  | with_reducible refine g_augS ?_ | with_reducible refine g_nnR ?_ | with_reducible refine g_nnN ?_ | with_reducible refine g_nnI ?_ | with_reducible refine g_ipI ?_ | ((with_reducible apply g_neL); array_mem_dec; array_mem_dec) | ((with_reducible apply g_eqL); array_mem_dec; array_mem_dec) | ((with_reducible apply g_slL); array_mem_dec) | ((with_reducible apply g_atL); array_mem_dec) | ((with_reducible apply g_atT); array_mem_dec) | ((with_reducible apply g_enum); array_mem_dec) | ((with_reducible apply g_R1); walk_at "side"; walk_at "side")
  | with_reducible refine g_is_int_int ?_ | with_reducible refine g_is_int_bool ?_ | with_reducible refine g_is_int_str ?_ | with_reducible refine g_is_int_dict ?_ | with_reducible refine g_is_int_list ?_ | with_reducible refine g_is_int_tuple ?_ | with_reducible refine g_is_bool_bool ?_ | with_reducible refine g_is_bool_int ?_ | with_reducible refine g_is_str_int ?_ | with_reducible refine g_is_str_str ?_ | with_reducible refine g_is_str_dict ?_ | with_reducible refine g_is_str_list ?_ | with_reducible refine g_is_str_tuple ?_ | ((with_reducible apply g_is_list_int); array_get_dec) | ((with_reducible apply g_is_list_str); array_get_dec) | ((with_reducible apply g_is_list_dict); array_get_dec) | ((with_reducible apply g_is_list_list); array_get_dec) | ((with_reducible apply g_is_list_tuple); array_get_dec) | ((with_reducible apply g_is_tuple_int); array_get_dec) | ((with_reducible apply g_is_tuple_str); array_get_dec) | ((with_reducible apply g_is_tuple_dict); array_get_dec) | ((with_reducible apply g_is_tuple_list); array_get_dec) | ((with_reducible apply g_is_tuple_tuple); array_get_dec) | ((with_reducible apply g_ixSL); array_mem_dec; (first | exact rfl | assumption)) | ((with_reducible apply g_ixST); array_mem_dec; (first | exact rfl | assumption)))
local macro_rules | `(tactic| walk_at "go") => `(tactic| repeat first | with_reducible refine g_ifS ?_ | walk_at "st")
local macro_rules | `(tactic| walk_at "dec") => `(tactic| first | with_reducible assumption | decide | omega)
local macro_rules | `(tactic| walk_at "goD") => `(tactic| repeat first | with_reducible refine g_ifS ?_ | walk_at "st" | ((with_reducible apply g_iteY); walk_at "dec") | ((with_reducible apply g_iteX); walk_at "dec") | ((with_reducible apply g_iteNY); walk_at "dec") | ((with_reducible apply g_iteNX); walk_at "dec"))
local macro_rules | `(tactic| walk_at "goI") => `(tactic| repeat walk_at "st")
section
open FabC
variable {P : Program} {w : World} {K : PySem.W.Frag} {mg : Str → Option Value} {base : Heap}
theorem ok__law_counts_right (T : Txt P K mg) (G__law_readers : FnOk P w K mg base CX0 1 (ga K "_law_readers") (fdOf K "_law_readers") ["circuit"] (sp__law_readers)) (G__law_same : FnOk P w K mg base CX0 6 (ga K "_law_same") (fdOf K "_law_same") ["told", "due"] (sp_same 4)) (G_reader_counts : FnOk P w K mg base CX0 1 (ga K "reader_counts") (fdOf K "reader_counts") ["circuit"] (sp_reader_counts)) : FnOk P w K mg base CX0 7 (ga K "_law_counts_right") (fdOf K "_law_counts_right") ["circuit"] (sp__law_counts_right) := by
  refine T.f__law_counts_right.f.ok sc__law_counts_right (fun vs H Q E h => by obtain ⟨_, _, e, _⟩ := h; rw [e]; rfl) (fun cdv A outer s H vs Q E hr h => ⟨(d__law_counts_right T G__law_readers (b__law_readers T) G__law_same (b__law_same T) G_reader_counts (b_reader_counts T) hr).1, PSs.nox (d__law_counts_right T G__law_readers (b__law_readers T) G__law_same (b__law_same T) G_reader_counts (b_reader_counts T) hr).2, ?_⟩)
  dsimp only [d__law_counts_right, cxOf]
  obtain ⟨u, c, rfl, hc, gd, q⟩ := h
  have gf := gd.f
  have gg := gd.g
  have rl : (readers c).length ≤ 10000 := by rw [readers_eq, incrs_length, cntG_length, List.length_replicate]; omega
  rw [show start N__law_counts_right [u] = [some (u), none] from rfl]
  walk_at "go"
  refine ⟨_, c, rfl, hc, gd, fun w1 H1 s1 hw1 => ?_⟩
  obtain ⟨l1, rfl, n1, hl1⟩ := hw1
  walk_at "go"
  refine ⟨_, c, rfl, hc.same s1, gd, fun w2 H2 s2 hw2 => ?_⟩
  obtain ⟨l2, rfl, n2, hl2⟩ := hw2
  have hl1 := s2 _ _ hl1
  walk_at "go"
  refine ⟨_, _, rfl, ds_ints hl1 hl2 (by omega), ?_⟩
  walk_at "go"
  have S3 : Same H (upd H2 l1 (.lst ((readers c).map V.int ++ [.int 3]))) := Same.setNew (s1.trans s2) n1
  generalize upd H2 l1 (.lst ((readers c).map V.int ++ [.int 3])) = H3 at *
  refine ⟨_, c, rfl, hc.same S3, gd, fun w4 H4 s4 hw4 => ?_⟩
  obtain ⟨l4, rfl, n4, hl4⟩ := hw4
  walk_at "go"
  refine ⟨_, c, rfl, hc.same (S3.trans s4), gd, fun w5 H5 s5 hw5 => ?_⟩
  obtain ⟨l5, rfl, n5, hl5⟩ := hw5
  walk_at "go"
  refine ⟨_, _, rfl, ds_ints (s5 _ _ hl4) hl5 (by omega), ?_⟩
  walk_at "go"
  exact q _ (S3.trans (s4.trans s5))
end

end K19
set_option maxHeartbeats 4000000
namespace K19
open PySem PySem.Spec PyProof.Rows L2 FabH He
local macro_rules | `(tactic| array_mem_dec) => `(tactic| (first | with_reducible assumption | with_reducible exact SqL.of (by array_get_dec) | with_reducible exact SqT.of (by array_get_dec) | ((repeat (with_reducible first | refine Same.seq (Same.new (by assumption)) ?_ | refine Same.tup (Same.new (by assumption)) ?_)); with_reducible assumption)))
local macro_rules | `(tactic| array_get_dec) => `(tactic| (first | with_reducible assumption | with_reducible exact upd_same | ((repeat (first | with_reducible exact upd_same | ((with_reducible apply at_new); with_reducible assumption) | ((with_reducible apply at_lstT); with_reducible assumption) | ((with_reducible apply at_lstR); with_reducible assumption) | ((with_reducible apply at_set); with_reducible assumption))); done) | ((repeat (first | ((with_reducible apply at_new); with_reducible assumption) | ((with_reducible apply at_lstT); with_reducible assumption) | ((with_reducible apply at_lstR); with_reducible assumption) | ((with_reducible apply at_set); with_reducible assumption))); with_reducible assumption)))
local macro_rules | `(tactic| walk_at "side") => `(tactic| (first | with_reducible assumption | decide | exact MOk.div (by assumption) | exact MOk.div (MOk.of (by decide) (by decide)) | (simp only [List.length_append, List.length_map, List.length_replicate, List.length_cons, List.length_nil, sizeLine_eq, CMul, CDivW, CPow]; omega) | omega))
local macro_rules | `(tactic| walk_at "st") => `(tactic| first
  | with_reducible refine g_cons ?_ | ((with_reducible apply g_var); (first | exact rfl | assumption)) | with_reducible refine g_const ?_ | with_reducible refine g_nil ?_ | with_reducible refine g_op ?_ | with_reducible refine g_rI0 ?_ | with_reducible refine g_seq ?_ | with_reducible refine g_asg ?_ | ((with_reducible refine g_name ?_); dsimp only [List.set_cons_zero, List.set_cons_succ])
  | with_reducible refine g_nx ?_ | with_reducible refine g_rt ?_ | with_reducible refine g_call ?_ | with_reducible refine g_ret ?_ | with_reducible refine g_test ?_ | with_reducible refine g_bl ?_ | with_reducible refine g_cb ?_ | with_reducible refine g_tB ?_ | with_reducible refine g_un ?_ | with_reducible refine g_rU ?_
  | with_reducible refine g_eqi ?_ | with_reducible refine g_int ?_ | with_reducible refine g_and ?_ | with_reducible refine g_or ?_ | with_reducible refine g_not ?_ | with_reducible refine g_drop ?_ | with_reducible refine g_next ?_ | with_reducible refine g_retN ?_ | with_reducible refine g_iteT ?_ | with_reducible refine g_iteF ?_ | with_reducible refine g_iteNT ?_ | with_reducible refine g_iteNF ?_
  | ((with_reducible apply g_ixL); array_mem_dec; (first | exact rfl | assumption)) | ((with_reducible apply g_ixT); array_mem_dec; (first | exact rfl | assumption)) | ((with_reducible apply g_lenL); array_mem_dec) | ((with_reducible apply g_lenT); array_mem_dec) | ((with_reducible apply g_rI); walk_at "side")
  | ((with_reducible apply g_setL); array_get_dec; (first | exact rfl | assumption)) | ((with_reducible apply g_app); array_get_dec; walk_at "side") | with_reducible refine g_tup ?_ | with_reducible refine g_lst ?_ | ((with_reducible apply g_listL); array_mem_dec) | ((with_reducible apply g_listT); array_mem_dec) | ((with_reducible apply g_tupT); array_mem_dec) | ((with_reducible apply g_tupL); array_mem_dec)
  | ((with_reducible apply g_room); walk_at "side") | with_reducible refine g_abs ?_ | with_reducible refine g_chain ?_ | with_reducible refine g_andV ?_ | with_reducible refine g_orV ?_ | with_reducible refine g_notV ?_ | with_reducible refine g_gsub ?_ | ((with_reducible apply g_gtup); array_mem_dec; (first | exact rfl | assumption)) | with_reducible refine g_gcons ?_ | with_reducible refine g_gnil ?_ | with_reducible refine g_bm ?_ | ((with_reducible apply g_tyL); array_mem_dec) | with_reducible refine g_tyS ?_
  | with_reducible refine g_callS ?_ | with_reducible refine g_nei ?_ | with_reducible refine g_eqs ?_ | with_reducible refine g_nes ?_ | with_reducible refine g_eqb ?_ | with_reducible refine g_nonI ?_ | with_reducible refine g_nonN ?_ | with_reducible refine g_nonS ?_ | with_reducible refine g_nonB ?_ | with_reducible refine g_nonR ?_ | with_reducible refine g_isBB ?_ | with_reducible refine g_isBI ?_ | with_reducible refine g_isBS ?_ | with_reducible refine g_isBR ?_ | with_reducible refine g_isBN ?_
  | with_reducible refine g_rng1 ?_ | with_reducible refine g_rng2 ?_ | ((with_reducible apply g_notInR); array_get_dec) | ((with_reducible apply g_inR); array_get_dec) | with_reducible refine g_for ?_ | with_reducible refine g_iList ?_ | with_reducible refine g_iTup ?_ | with_reducible refine g_iR1 ?_ | with_reducible refine g_iEnum ?_ | with_reducible refine g_lc ?_ | with_reducible refine g_yes ?_ | with_reducible refine g_slc ?_ | with_reducible refine g_raise ?_ | with_reducible refine g_exv ?_ | with_reducible refine g_xf ?_ | ((with_reducible apply g_xfe); array_get_dec; (first | exact rfl | assumption)) | with_reducible refine g_part ?_ | with_reducible refine g_nopart ?_ | with_reducible refine g_exi ?_ | with_reducible refine g_brk ?_ | with_reducible refine g_cnt ?_ | with_reducible refine g_bk ?_ | with_reducible refine g_ct ?_ | with_reducible refine g_if ?_
  | with_reducible refine g_augS ?_ | with_reducible refine g_nnR ?_ | with_reducible refine g_nnN ?_ | with_reducible refine g_nnI ?_ | with_reducible refine g_ipI ?_ | ((with_reducible apply g_neL); array_mem_dec; array_mem_dec) | ((with_reducible apply g_eqL); array_mem_dec; array_mem_dec) | ((with_reducible apply g_slL); array_mem_dec) | ((with_reducible apply g_atL); array_mem_dec) | ((with_reducible apply g_atT); array_mem_dec) | ((with_reducible apply g_enum); array_mem_dec) | ((with_reducible apply g_R1); walk_at "side"; walk_at "side")
  | with_reducible refine g_is_int_int ?_ | with_reducible refine g_is_int_bool ?_ | with_reducible refine g_is_int_str ?_ | with_reducible refine g_is_int_dict ?_ | with_reducible refine g_is_int_list ?_ | with_reducible refine g_is_int_tuple ?_ | with_reducible refine g_is_bool_bool ?_ | with_reducible refine g_is_bool_int ?_ | with_reducible refine g_is_str_int ?_ | with_reducible refine g_is_str_str ?_ | with_reducible refine g_is_str_dict ?_ | with_reducible refine g_is_str_list ?_ | with_reducible refine g_is_str_tuple ?_ | ((with_reducible apply g_is_list_int); array_get_dec) | ((with_reducible apply g_is_list_str); array_get_dec) | ((with_reducible apply g_is_list_dict); array_get_dec) | ((with_reducible apply g_is_list_list); array_get_dec) | ((with_reducible apply g_is_list_tuple); array_get_dec) | ((with_reducible apply g_is_tuple_int); array_get_dec) | ((with_reducible apply g_is_tuple_str); array_get_dec) | ((with_reducible apply g_is_tuple_dict); array_get_dec) | ((with_reducible apply g_is_tuple_list); array_get_dec) | ((with_reducible apply g_is_tuple_tuple); array_get_dec) | ((with_reducible apply g_ixSL); array_mem_dec; (first | exact rfl | assumption)) | ((with_reducible apply g_ixST); array_mem_dec; (first | exact rfl | assumption)))
local macro_rules | `(tactic| walk_at "go") => `(tactic| repeat first | with_reducible refine g_ifS ?_ | walk_at "st")
local macro_rules | `(tactic| walk_at "dec") => `(tactic| first | with_reducible assumption | decide | omega)
local macro_rules | `(tactic| walk_at "goD") => `(tactic| repeat first | with_reducible refine g_ifS ?_ | walk_at "st" | ((with_reducible apply g_iteY); walk_at "dec") | ((with_reducible apply g_iteX); walk_at "dec") | ((with_reducible apply g_iteNY); walk_at "dec") | ((with_reducible apply g_iteNX); walk_at "dec"))
local macro_rules | `(tactic| walk_at "goI") => `(tactic| repeat walk_at "st")
section
open FabC
variable {P : Program} {w : World} {K : PySem.W.Frag} {mg : Str → Option Value} {base : Heap}
theorem ok__law_table_right (T : Txt P K mg) (G__law_same : FnOk P w K mg base CX0 6 (ga K "_law_same") (fdOf K "_law_same") ["told", "due"] (sp_same 4)) (G__law_shown : FnOk P w K mg base CX0 2 (ga K "_law_shown") (fdOf K "_law_shown") ["circuit", "values"] (sp__law_shown)) (G_truth_table : FnOk P w K mg base CX0 5 (ga K "truth_table") (fdOf K "truth_table") ["circuit"] (sp0_truth_table)) : FnOk P w K mg base CX0 7 (ga K "_law_table_right") (fdOf K "_law_table_right") ["circuit", "rows"] (sp__law_table_right) := by
  refine T.f__law_table_right.f.ok sc__law_table_right (fun vs H Q E h => by obtain ⟨_, _, _, e, _⟩ := h; rw [e]; rfl) (fun cdv A outer s H vs Q E hr h => ⟨(d__law_table_right T G__law_same (b__law_same T) G__law_shown (b__law_shown T) G_truth_table (b_truth_table T) hr).1, PSs.nox (d__law_table_right T G__law_same (b__law_same T) G__law_shown (b__law_shown T) G_truth_table (b_truth_table T) hr).2, ?_⟩)
  dsimp only [d__law_table_right, cxOf]
  obtain ⟨u, r, c, rfl, hc, gd, fine, hr, q⟩ := h
  obtain ⟨lr, vs, rfl, h1, h2, h3⟩ := hr.at
  have f0 := gd.wf.f0
  have ge := gd.e
  have p8 := pow8 f0 fine
  have rl := rowsOf_length c.free.toNat
  have rb : ((2 ^ c.free.toNat : Nat) : Int) ≤ 256 := by rw [powNat]; exact p8.1
  have rb1 : 1 ≤ ((2 ^ c.free.toNat : Nat) : Int) := by rw [powNat]; exact p8.2
  have tl : (tableOf c (rowsOf c.free.toNat)).length = 2 ^ c.free.toNat := by simp [tableOf, rowsOf]
  have tx : ∀ x ∈ tableOf c (rowsOf c.free.toNat), x.length ≤ 100000 := fun x hx => by
    obtain ⟨y, _, rfl⟩ := List.mem_map.mp hx
    rw [shown_length]
    omega
  rw [show start N__law_table_right [u, .ref lr] = [some (u), some (.ref lr), none, none, none] from rfl]
  walk_at "go"
  intro D hD
  refine lc_list (fun i H2 => ∃ rs, Grow H H2 D ((tableOf c (rowsOf c.free.toNat)).take i) rs ∧ rs.length = i) ⟨[], .start hD, rfl⟩ (fun i H2 _ ⟨_, gr, _⟩ => .of (gr.sm _ _ h1)) ?_ ?_
  · rintro i x H2 hx ⟨rs, gr, rl2⟩
    obtain ⟨lv, xs, rfl, hxs, hv⟩ := h3 i x hx
    have hi : i < 2 ^ c.free.toNat := by rw [← rl]; exact (List.getElem?_eq_some_iff.mp hxs).1
    rw [rowsOf_get hi] at hxs
    cases hxs
    dsimp only [wipe, List.map]
    walk_at "go"
    refine ⟨rfl, ?_⟩
    walk_at "go"
    refine ⟨_, _, c, _, rfl, hc.same gr.sm, gd, ⟨lv, rfl, gr.sm _ _ hv⟩, bitsOf_bits _ _, by rw [bitsOf_length]; omega, fun w2 H4 s4 hw2 => ?_⟩
    obtain ⟨r, rfl, nr, hr⟩ := hw2
    have tk : (tableOf c (rowsOf c.free.toNat)).take (i + 1) = (tableOf c (rowsOf c.free.toNat)).take i ++ [shown c (bitsOf (i : Int) c.free.toNat)] := take_snoc (by unfold tableOf; rw [List.getElem?_map, rowsOf_get hi]; rfl)
    refine ⟨_, s4 _ _ gr.at_, by rw [List.length_map, rl2, sizeLine_eq]; omega, rs ++ [r], ?_, by simp [rl2]⟩
    rw [tk]
    exact gr.push hD s4 nr hr
  · rintro H2 ⟨rs, gr, rl2⟩
    rw [h2, rl, ← tl, take_all] at gr
    have due := (gr.done hD).tab
    have s2 := gr.sm
    clear gr
    walk_at "go"
    refine ⟨_, c, rfl, hc.same s2, gd, fine, fun w3 H3 s3 hw3 => ?_⟩
    walk_at "go"
    refine ⟨_, _, rfl, ds_rows hw3.tab (due.same s3) (by omega) tx, ?_⟩
    obtain ⟨lt, rt, rfl, nt, ht, tl2, tn, tg⟩ := hw3
    obtain ⟨r0, rr, rfl⟩ : ∃ r0 rr, rt = r0 :: rr := by
      cases rt with
      | nil => exfalso; simp at tl2; omega
      | cons a b => exact ⟨a, b, rfl⟩
    have n0 := tn r0 (by simp)
    obtain ⟨x0, hx0⟩ : ∃ x0, (tableOf c (rowsOf c.free.toNat))[0]? = some x0 := ⟨_, List.getElem?_eq_getElem (by omega)⟩
    have hr0 := tg 0 r0 x0 rfl hx0
    have lx0 := tx x0 (List.mem_of_getElem? hx0)
    have n0' := n0.2.symm
    have rrl : rr.length ≤ 256 := by simp at tl2; omega
    have at0 : atI (List.map V.ref (r0 :: rr)) 0 = some (.ref r0) := atI_zero rfl
    walk_at "go"
    intro z0 nz
    walk_at "go"
    have S4 : Same H2 (upd (upd (upd H3 r0 (.lst (x0.map V.int ++ [.int 1]))) z0 (.lst [.int 0])) lt (.lst ((r0 :: rr).map V.ref ++ [.ref z0]))) := Same.setNew ((Same.setNew s3 n0.1).then nz) nt
    generalize upd (upd (upd H3 r0 (.lst (x0.map V.int ++ [.int 1]))) z0 (.lst [.int 0])) lt (.lst ((r0 :: rr).map V.ref ++ [.ref z0])) = H4 at *
    refine ⟨_, c, rfl, hc.same (s2.trans S4), gd, fine, fun w5 H5 s5 hw5 => ?_⟩
    walk_at "go"
    refine ⟨_, _, rfl, ds_rows hw5.tab (due.same (S4.trans s5)) (by omega) tx, ?_⟩
    walk_at "go"
    exact q _ (s2.trans (S4.trans s5))
end

end K19
set_option maxHeartbeats 4000000
namespace K19
open PySem PySem.Spec PyProof.Rows L2 FabH He
local macro_rules | `(tactic| array_mem_dec) => `(tactic| (first | with_reducible assumption | with_reducible exact SqL.of (by array_get_dec) | with_reducible exact SqT.of (by array_get_dec) | ((repeat (with_reducible first | refine Same.seq (Same.new (by assumption)) ?_ | refine Same.tup (Same.new (by assumption)) ?_)); with_reducible assumption)))
local macro_rules | `(tactic| array_get_dec) => `(tactic| (first | with_reducible assumption | with_reducible exact upd_same | ((repeat (first | with_reducible exact upd_same | ((with_reducible apply at_new); with_reducible assumption) | ((with_reducible apply at_lstT); with_reducible assumption) | ((with_reducible apply at_lstR); with_reducible assumption) | ((with_reducible apply at_set); with_reducible assumption))); done) | ((repeat (first | ((with_reducible apply at_new); with_reducible assumption) | ((with_reducible apply at_lstT); with_reducible assumption) | ((with_reducible apply at_lstR); with_reducible assumption) | ((with_reducible apply at_set); with_reducible assumption))); with_reducible assumption)))
local macro_rules | `(tactic| walk_at "side") => `(tactic| (first | with_reducible assumption | decide | exact MOk.div (by assumption) | exact MOk.div (MOk.of (by decide) (by decide)) | (simp only [List.length_append, List.length_map, List.length_replicate, List.length_cons, List.length_nil, sizeLine_eq, CMul, CDivW, CPow]; omega) | omega))
local macro_rules | `(tactic| walk_at "st") => `(tactic| first
  | with_reducible refine g_cons ?_ | ((with_reducible apply g_var); (first | exact rfl | assumption)) | with_reducible refine g_const ?_ | with_reducible refine g_nil ?_ | with_reducible refine g_op ?_ | with_reducible refine g_rI0 ?_ | with_reducible refine g_seq ?_ | with_reducible refine g_asg ?_ | ((with_reducible refine g_name ?_); dsimp only [List.set_cons_zero, List.set_cons_succ])
  | with_reducible refine g_nx ?_ | with_reducible refine g_rt ?_ | with_reducible refine g_call ?_ | with_reducible refine g_ret ?_ | with_reducible refine g_test ?_ | with_reducible refine g_bl ?_ | with_reducible refine g_cb ?_ | with_reducible refine g_tB ?_ | with_reducible refine g_un ?_ | with_reducible refine g_rU ?_
  | with_reducible refine g_eqi ?_ | with_reducible refine g_int ?_ | with_reducible refine g_and ?_ | with_reducible refine g_or ?_ | with_reducible refine g_not ?_ | with_reducible refine g_drop ?_ | with_reducible refine g_next ?_ | with_reducible refine g_retN ?_ | with_reducible refine g_iteT ?_ | with_reducible refine g_iteF ?_ | with_reducible refine g_iteNT ?_ | with_reducible refine g_iteNF ?_
  | ((with_reducible apply g_ixL); array_mem_dec; (first | exact rfl | assumption)) | ((with_reducible apply g_ixT); array_mem_dec; (first | exact rfl | assumption)) | ((with_reducible apply g_lenL); array_mem_dec) | ((with_reducible apply g_lenT); array_mem_dec) | ((with_reducible apply g_rI); walk_at "side")
  | ((with_reducible apply g_setL); array_get_dec; (first | exact rfl | assumption)) | ((with_reducible apply g_app); array_get_dec; walk_at "side") | with_reducible refine g_tup ?_ | with_reducible refine g_lst ?_ | ((with_reducible apply g_listL); array_mem_dec) | ((with_reducible apply g_listT); array_mem_dec) | ((with_reducible apply g_tupT); array_mem_dec) | ((with_reducible apply g_tupL); array_mem_dec)
  | ((with_reducible apply g_room); walk_at "side") | with_reducible refine g_abs ?_ | with_reducible refine g_chain ?_ | with_reducible refine g_andV ?_ | with_reducible refine g_orV ?_ | with_reducible refine g_notV ?_ | with_reducible refine g_gsub ?_ | ((with_reducible apply g_gtup); array_mem_dec; (first | exact rfl | assumption)) | with_reducible refine g_gcons ?_ | with_reducible refine g_gnil ?_ | with_reducible refine g_bm ?_ | ((with_reducible apply g_tyL); array_mem_dec) | with_reducible refine g_tyS ?_
  | with_reducible refine g_callS ?_ | with_reducible refine g_nei ?_ | with_reducible refine g_eqs ?_ | with_reducible refine g_nes ?_ | with_reducible refine g_eqb ?_ | with_reducible refine g_nonI ?_ | with_reducible refine g_nonN ?_ | with_reducible refine g_nonS ?_ | with_reducible refine g_nonB ?_ | with_reducible refine g_nonR ?_ | with_reducible refine g_isBB ?_ | with_reducible refine g_isBI ?_ | with_reducible refine g_isBS ?_ | with_reducible refine g_isBR ?_ | with_reducible refine g_isBN ?_
  | with_reducible refine g_rng1 ?_ | with_reducible refine g_rng2 ?_ | ((with_reducible apply g_notInR); array_get_dec) | ((with_reducible apply g_inR); array_get_dec) | with_reducible refine g_for ?_ | with_reducible refine g_iList ?_ | with_reducible refine g_iTup ?_ | with_reducible refine g_iR1 ?_ | with_reducible refine g_iEnum ?_ | with_reducible refine g_lc ?_ | with_reducible refine g_yes ?_ | with_reducible refine g_slc ?_ | with_reducible refine g_raise ?_ | with_reducible refine g_exv ?_ | with_reducible refine g_xf ?_ | ((with_reducible apply g_xfe); array_get_dec; (first | exact rfl | assumption)) | with_reducible refine g_part ?_ | with_reducible refine g_nopart ?_ | with_reducible refine g_exi ?_ | with_reducible refine g_brk ?_ | with_reducible refine g_cnt ?_ | with_reducible refine g_bk ?_ | with_reducible refine g_ct ?_ | with_reducible refine g_if ?_
  | with_reducible refine g_augS ?_ | with_reducible refine g_nnR ?_ | with_reducible refine g_nnN ?_ | with_reducible refine g_nnI ?_ | with_reducible refine g_ipI ?_ | ((with_reducible apply g_neL); array_mem_dec; array_mem_dec) | ((with_reducible apply g_eqL); array_mem_dec; array_mem_dec) | ((with_reducible apply g_slL); array_mem_dec) | ((with_reducible apply g_atL); array_mem_dec) | ((with_reducible apply g_atT); array_mem_dec) | ((with_reducible apply g_enum); array_mem_dec) | ((with_reducible apply g_R1); walk_at "side"; walk_at "side")
  | with_reducible refine g_is_int_int ?_ | with_reducible refine g_is_int_bool ?_ | with_reducible refine g_is_int_str ?_ | with_reducible refine g_is_int_dict ?_ | with_reducible refine g_is_int_list ?_ | with_reducible refine g_is_int_tuple ?_ | with_reducible refine g_is_bool_bool ?_ | with_reducible refine g_is_bool_int ?_ | with_reducible refine g_is_str_int ?_ | with_reducible refine g_is_str_str ?_ | with_reducible refine g_is_str_dict ?_ | with_reducible refine g_is_str_list ?_ | with_reducible refine g_is_str_tuple ?_ | ((with_reducible apply g_is_list_int); array_get_dec) | ((with_reducible apply g_is_list_str); array_get_dec) | ((with_reducible apply g_is_list_dict); array_get_dec) | ((with_reducible apply g_is_list_list); array_get_dec) | ((with_reducible apply g_is_list_tuple); array_get_dec) | ((with_reducible apply g_is_tuple_int); array_get_dec) | ((with_reducible apply g_is_tuple_str); array_get_dec) | ((with_reducible apply g_is_tuple_dict); array_get_dec) | ((with_reducible apply g_is_tuple_list); array_get_dec) | ((with_reducible apply g_is_tuple_tuple); array_get_dec) | ((with_reducible apply g_ixSL); array_mem_dec; (first | exact rfl | assumption)) | ((with_reducible apply g_ixST); array_mem_dec; (first | exact rfl | assumption)))
local macro_rules | `(tactic| walk_at "go") => `(tactic| repeat first | with_reducible refine g_ifS ?_ | walk_at "st")
local macro_rules | `(tactic| walk_at "dec") => `(tactic| first | with_reducible assumption | decide | omega)
local macro_rules | `(tactic| walk_at "goD") => `(tactic| repeat first | with_reducible refine g_ifS ?_ | walk_at "st" | ((with_reducible apply g_iteY); walk_at "dec") | ((with_reducible apply g_iteX); walk_at "dec") | ((with_reducible apply g_iteNY); walk_at "dec") | ((with_reducible apply g_iteNX); walk_at "dec"))
local macro_rules | `(tactic| walk_at "goI") => `(tactic| repeat walk_at "st")
section
open FabC
variable {P : Program} {w : World} {K : PySem.W.Frag} {mg : Str → Option Value} {base : Heap}
theorem ok__law_parted (T : Txt P K mg) (G__law_shown : FnOk P w K mg base CX0 2 (ga K "_law_shown") (fdOf K "_law_shown") ["circuit", "values"] (sp__law_shown)) : FnOk P w K mg base CX0 3 (ga K "_law_parted") (fdOf K "_law_parted") ["one", "two", "rows"] (sp__law_parted) := by
  refine T.f__law_parted.f.ok sc__law_parted (fun vs H Q E h => by obtain ⟨_, _, _, _, _, _, e, _⟩ := h; rw [e]; rfl) (fun cdv A outer s H vs Q E hr h => ⟨(d__law_parted T G__law_shown (b__law_shown T) hr).1, PSs.nox (d__law_parted T G__law_shown (b__law_shown T) hr).2, ?_⟩)
  dsimp only [d__law_parted, cxOf]
  obtain ⟨u, v, r, c, d, ls, rfl, hc, gc, hd, gd, hr, ok, eq, ll, q⟩ := h
  obtain ⟨lr, vs, rfl, h1, h2, h3⟩ := hr.at
  rw [show start N__law_parted [u, v, .ref lr] = [some (u), some (v), some (.ref lr), none] from rfl]
  walk_at "go"
  refine for_list (fun i σ H' => ∃ o3, σ = [some u, some v, some (.ref lr), o3] ∧ Same H H' ∧ ∀ k, k < i → ∀ x, ls[k]? = some x → shown c x = shown d x) ⟨_, rfl, .refl H, fun k z => absurd z (Nat.not_lt_zero k)⟩ (fun i σ H' _ ⟨_, _, sm, _⟩ => .of (sm _ _ h1)) ?_ ?_
  · rintro i x σ H0 hx ⟨o3, rfl, s0, same⟩
    obtain ⟨lv, xs, rfl, hxs, hv⟩ := h3 i x hx
    have hb := (ok xs (List.mem_of_getElem? hxs)).1
    have hz := (ok xs (List.mem_of_getElem? hxs)).2
    have hv := s0 _ _ hv
    walk_at "go"
    refine ⟨_, _, c, xs, rfl, hc.same s0, gc, ⟨lv, rfl, hv⟩, hb, hz, fun w1 H1 s1 hw1 => ?_⟩
    obtain ⟨l1, rfl, n1, hl1⟩ := hw1
    walk_at "go"
    refine ⟨_, _, d, xs, rfl, hd.same (s0.trans s1), gd, ⟨lv, rfl, s1 _ _ hv⟩, hb, by omega, fun w2 H2 s2 hw2 => ?_⟩
    obtain ⟨l2, rfl, n2, hl2⟩ := hw2
    have hl1 := s2 _ _ hl1
    have hv2 := s2 _ _ (s1 _ _ hv)
    walk_at "go"
    refine g_iteN (fun un => ?_) (fun al => ?_)
    · walk_at "go"
      intro l nl
      walk_at "go"
      refine q _ _ (s0.trans ((s1.trans s2).then nl)) ?_
      rw [parted_at hxs same un]
      exact ⟨l, rfl, (s0.trans (s1.trans s2)).free nl, upd_same⟩
    · walk_at "go"
      refine ⟨_, rfl, s0.trans (s1.trans s2), fun k hk y hy => ?_⟩
      by_cases e : k = i
      · rw [e, hxs] at hy
        cases hy
        exact al
      · exact same k (by omega) y hy
  · rintro σ H' ⟨o3, rfl, s0, same⟩
    walk_at "go"
    refine q _ _ s0 ?_
    rw [parted_none fun k r e => same k (by have := (List.getElem?_eq_some_iff.mp e).1; omega) r e]
    rfl
end

end K19
set_option maxHeartbeats 4000000
namespace K19
open PySem PySem.Spec PyProof.Rows L2 FabH He
local macro_rules | `(tactic| array_mem_dec) => `(tactic| (first | with_reducible assumption | with_reducible exact SqL.of (by array_get_dec) | with_reducible exact SqT.of (by array_get_dec) | ((repeat (with_reducible first | refine Same.seq (Same.new (by assumption)) ?_ | refine Same.tup (Same.new (by assumption)) ?_)); with_reducible assumption)))
local macro_rules | `(tactic| array_get_dec) => `(tactic| (first | with_reducible assumption | with_reducible exact upd_same | ((repeat (first | with_reducible exact upd_same | ((with_reducible apply at_new); with_reducible assumption) | ((with_reducible apply at_lstT); with_reducible assumption) | ((with_reducible apply at_lstR); with_reducible assumption) | ((with_reducible apply at_set); with_reducible assumption))); done) | ((repeat (first | ((with_reducible apply at_new); with_reducible assumption) | ((with_reducible apply at_lstT); with_reducible assumption) | ((with_reducible apply at_lstR); with_reducible assumption) | ((with_reducible apply at_set); with_reducible assumption))); with_reducible assumption)))
local macro_rules | `(tactic| walk_at "side") => `(tactic| (first | with_reducible assumption | decide | exact MOk.div (by assumption) | exact MOk.div (MOk.of (by decide) (by decide)) | (simp only [List.length_append, List.length_map, List.length_replicate, List.length_cons, List.length_nil, sizeLine_eq, CMul, CDivW, CPow]; omega) | omega))
local macro_rules | `(tactic| walk_at "st") => `(tactic| first
  | with_reducible refine g_cons ?_ | ((with_reducible apply g_var); (first | exact rfl | assumption)) | with_reducible refine g_const ?_ | with_reducible refine g_nil ?_ | with_reducible refine g_op ?_ | with_reducible refine g_rI0 ?_ | with_reducible refine g_seq ?_ | with_reducible refine g_asg ?_ | ((with_reducible refine g_name ?_); dsimp only [List.set_cons_zero, List.set_cons_succ])
  | with_reducible refine g_nx ?_ | with_reducible refine g_rt ?_ | with_reducible refine g_call ?_ | with_reducible refine g_ret ?_ | with_reducible refine g_test ?_ | with_reducible refine g_bl ?_ | with_reducible refine g_cb ?_ | with_reducible refine g_tB ?_ | with_reducible refine g_un ?_ | with_reducible refine g_rU ?_
  | with_reducible refine g_eqi ?_ | with_reducible refine g_int ?_ | with_reducible refine g_and ?_ | with_reducible refine g_or ?_ | with_reducible refine g_not ?_ | with_reducible refine g_drop ?_ | with_reducible refine g_next ?_ | with_reducible refine g_retN ?_ | with_reducible refine g_iteT ?_ | with_reducible refine g_iteF ?_ | with_reducible refine g_iteNT ?_ | with_reducible refine g_iteNF ?_
  | ((with_reducible apply g_ixL); array_mem_dec; (first | exact rfl | assumption)) | ((with_reducible apply g_ixT); array_mem_dec; (first | exact rfl | assumption)) | ((with_reducible apply g_lenL); array_mem_dec) | ((with_reducible apply g_lenT); array_mem_dec) | ((with_reducible apply g_rI); walk_at "side")
  | ((with_reducible apply g_setL); array_get_dec; (first | exact rfl | assumption)) | ((with_reducible apply g_app); array_get_dec; walk_at "side") | with_reducible refine g_tup ?_ | with_reducible refine g_lst ?_ | ((with_reducible apply g_listL); array_mem_dec) | ((with_reducible apply g_listT); array_mem_dec) | ((with_reducible apply g_tupT); array_mem_dec) | ((with_reducible apply g_tupL); array_mem_dec)
  | ((with_reducible apply g_room); walk_at "side") | with_reducible refine g_abs ?_ | with_reducible refine g_chain ?_ | with_reducible refine g_andV ?_ | with_reducible refine g_orV ?_ | with_reducible refine g_notV ?_ | with_reducible refine g_gsub ?_ | ((with_reducible apply g_gtup); array_mem_dec; (first | exact rfl | assumption)) | with_reducible refine g_gcons ?_ | with_reducible refine g_gnil ?_ | with_reducible refine g_bm ?_ | ((with_reducible apply g_tyL); array_mem_dec) | with_reducible refine g_tyS ?_
  | with_reducible refine g_callS ?_ | with_reducible refine g_nei ?_ | with_reducible refine g_eqs ?_ | with_reducible refine g_nes ?_ | with_reducible refine g_eqb ?_ | with_reducible refine g_nonI ?_ | with_reducible refine g_nonN ?_ | with_reducible refine g_nonS ?_ | with_reducible refine g_nonB ?_ | with_reducible refine g_nonR ?_ | with_reducible refine g_isBB ?_ | with_reducible refine g_isBI ?_ | with_reducible refine g_isBS ?_ | with_reducible refine g_isBR ?_ | with_reducible refine g_isBN ?_
  | with_reducible refine g_rng1 ?_ | with_reducible refine g_rng2 ?_ | ((with_reducible apply g_notInR); array_get_dec) | ((with_reducible apply g_inR); array_get_dec) | with_reducible refine g_for ?_ | with_reducible refine g_iList ?_ | with_reducible refine g_iTup ?_ | with_reducible refine g_iR1 ?_ | with_reducible refine g_iEnum ?_ | with_reducible refine g_lc ?_ | with_reducible refine g_yes ?_ | with_reducible refine g_slc ?_ | with_reducible refine g_raise ?_ | with_reducible refine g_exv ?_ | with_reducible refine g_xf ?_ | ((with_reducible apply g_xfe); array_get_dec; (first | exact rfl | assumption)) | with_reducible refine g_part ?_ | with_reducible refine g_nopart ?_ | with_reducible refine g_exi ?_ | with_reducible refine g_brk ?_ | with_reducible refine g_cnt ?_ | with_reducible refine g_bk ?_ | with_reducible refine g_ct ?_ | with_reducible refine g_if ?_
  | with_reducible refine g_augS ?_ | with_reducible refine g_nnR ?_ | with_reducible refine g_nnN ?_ | with_reducible refine g_nnI ?_ | with_reducible refine g_ipI ?_ | ((with_reducible apply g_neL); array_mem_dec; array_mem_dec) | ((with_reducible apply g_eqL); array_mem_dec; array_mem_dec) | ((with_reducible apply g_slL); array_mem_dec) | ((with_reducible apply g_atL); array_mem_dec) | ((with_reducible apply g_atT); array_mem_dec) | ((with_reducible apply g_enum); array_mem_dec) | ((with_reducible apply g_R1); walk_at "side"; walk_at "side")
  | with_reducible refine g_is_int_int ?_ | with_reducible refine g_is_int_bool ?_ | with_reducible refine g_is_int_str ?_ | with_reducible refine g_is_int_dict ?_ | with_reducible refine g_is_int_list ?_ | with_reducible refine g_is_int_tuple ?_ | with_reducible refine g_is_bool_bool ?_ | with_reducible refine g_is_bool_int ?_ | with_reducible refine g_is_str_int ?_ | with_reducible refine g_is_str_str ?_ | with_reducible refine g_is_str_dict ?_ | with_reducible refine g_is_str_list ?_ | with_reducible refine g_is_str_tuple ?_ | ((with_reducible apply g_is_list_int); array_get_dec) | ((with_reducible apply g_is_list_str); array_get_dec) | ((with_reducible apply g_is_list_dict); array_get_dec) | ((with_reducible apply g_is_list_list); array_get_dec) | ((with_reducible apply g_is_list_tuple); array_get_dec) | ((with_reducible apply g_is_tuple_int); array_get_dec) | ((with_reducible apply g_is_tuple_str); array_get_dec) | ((with_reducible apply g_is_tuple_dict); array_get_dec) | ((with_reducible apply g_is_tuple_list); array_get_dec) | ((with_reducible apply g_is_tuple_tuple); array_get_dec) | ((with_reducible apply g_ixSL); array_mem_dec; (first | exact rfl | assumption)) | ((with_reducible apply g_ixST); array_mem_dec; (first | exact rfl | assumption)))
local macro_rules | `(tactic| walk_at "go") => `(tactic| repeat first | with_reducible refine g_ifS ?_ | walk_at "st")
local macro_rules | `(tactic| walk_at "dec") => `(tactic| first | with_reducible assumption | decide | omega)
local macro_rules | `(tactic| walk_at "goD") => `(tactic| repeat first | with_reducible refine g_ifS ?_ | walk_at "st" | ((with_reducible apply g_iteY); walk_at "dec") | ((with_reducible apply g_iteX); walk_at "dec") | ((with_reducible apply g_iteNY); walk_at "dec") | ((with_reducible apply g_iteNX); walk_at "dec"))
local macro_rules | `(tactic| walk_at "goI") => `(tactic| repeat walk_at "st")
section
open FabC
variable {P : Program} {w : World} {K : PySem.W.Frag} {mg : Str → Option Value} {base : Heap}
theorem ok__law_difference_right (T : Txt P K mg) (G__law_parted : FnOk P w K mg base CX0 3 (ga K "_law_parted") (fdOf K "_law_parted") ["one", "two", "rows"] (sp__law_parted)) (G__law_same : FnOk P w K mg base CX0 6 (ga K "_law_same") (fdOf K "_law_same") ["told", "due"] (sp_same 4)) (G_difference : FnOk P w K mg base CX0 5 (ga K "difference") (fdOf K "difference") ["circuit", "other"] (sp0_difference)) : FnOk P w K mg base CX0 7 (ga K "_law_difference_right") (fdOf K "_law_difference_right") ["one", "two", "rows"] (sp__law_difference_right) := by
  refine T.f__law_difference_right.f.ok sc__law_difference_right (fun vs H Q E h => by obtain ⟨_, _, _, _, _, e, _⟩ := h; rw [e]; rfl) (fun cdv A outer s H vs Q E hr h => ⟨(d__law_difference_right T G__law_parted (b__law_parted T) G__law_same (b__law_same T) G_difference (b_difference T) hr).1, PSs.nox (d__law_difference_right T G__law_parted (b__law_parted T) G__law_same (b__law_same T) G_difference (b_difference T) hr).2, ?_⟩)
  dsimp only [d__law_difference_right, cxOf]
  obtain ⟨u, v, r, c, d, rfl, hc, gc, hd, gd, fine, eq, eqe, hr, q⟩ := h
  have f0 := gc.wf.f0
  have p8 := pow8 f0 fine
  have rb : ((2 ^ c.free.toNat : Nat) : Int) ≤ 256 := by rw [powNat]; exact p8.1
  have ro : RowsOk c (rowsOf c.free.toNat) := fun x hx => by
    obtain ⟨k, _, rfl⟩ := List.mem_map.mp hx
    exact ⟨bitsOf_bits _ _, by rw [bitsOf_length]; omega⟩
  have pl : ∀ x, parted c d (rowsOf c.free.toNat) = some x → x.length ≤ 100000 := fun x h => by
    rw [rows_len (parted_mem h)]
    omega
  have eqr : rowsOf d.free.toNat = rowsOf c.free.toNat := by rw [eq]
  rw [show start N__law_difference_right [u, v, r] = [some (u), some (v), some (r), none, none, none] from rfl]
  walk_at "go"
  refine ⟨_, _, _, c, d, _, rfl, hc, gc, hd, gd, hr, ro, eq, by rw [rowsOf_length]; omega, fun w H1 s1 hw => ?_⟩
  walk_at "go"
  intro t1 n1
  walk_at "go"
  intro t2 n2
  walk_at "go"
  intro t3 n3
  walk_at "go"
  intro lp n4
  walk_at "go"
  have S5 := (((Same.new (x := .tup [u, v]) n1).then (x := .tup [v, u]) n2).then (x := .tup [u, v]) n3).then (x := .lst [.ref t1, .ref t2, .ref t3]) n4
  have hlp : upd (upd (upd (upd H1 t1 (.tup [u, v])) t2 (.tup [v, u])) t3 (.tup [u, v])) lp (.lst [.ref t1, .ref t2, .ref t3]) lp = some (.lst [.ref t1, .ref t2, .ref t3]) := upd_same
  have ht1 : upd (upd (upd (upd H1 t1 (.tup [u, v])) t2 (.tup [v, u])) t3 (.tup [u, v])) lp (.lst [.ref t1, .ref t2, .ref t3]) t1 = some (.tup [u, v]) := by array_get_dec
  have ht2 : upd (upd (upd (upd H1 t1 (.tup [u, v])) t2 (.tup [v, u])) t3 (.tup [u, v])) lp (.lst [.ref t1, .ref t2, .ref t3]) t2 = some (.tup [v, u]) := by array_get_dec
  have ht3 : upd (upd (upd (upd H1 t1 (.tup [u, v])) t2 (.tup [v, u])) t3 (.tup [u, v])) lp (.lst [.ref t1, .ref t2, .ref t3]) t3 = some (.tup [u, v]) := by array_get_dec
  generalize upd (upd (upd (upd H1 t1 (.tup [u, v])) t2 (.tup [v, u])) t3 (.tup [u, v])) lp (.lst [.ref t1, .ref t2, .ref t3]) = H5 at *
  have hc5 := hc.same (s1.trans S5)
  have hd5 := hd.same (s1.trans S5)
  refine for_list (fun i σ H' => ∃ o4 o5, σ = [some u, some v, some r, some w, o4, o5] ∧ Same H5 H') ⟨_, _, rfl, .refl _⟩ (fun i σ H' _ ⟨_, _, _, sm⟩ => .of (sm _ _ hlp)) ?_ ?_
  · rintro i x σ H6 hx ⟨o4, o5, rfl, s6⟩
    have pair : ∃ (t : Addr) (p p' : V) (e e' : Circ), x = .ref t ∧ H6 t = some (.tup [p, p']) ∧ cV H6 p e ∧ Good e ∧ cV H6 p' e' ∧ Good e' ∧ e.free = c.free ∧ e'.free = c.free ∧ e'.ends.length = e.ends.length ∧ parted e e' (rowsOf e.free.toNat) = parted c d (rowsOf c.free.toNat) := by
      match i, hx with
      | 0, hx => exact ⟨t1, u, v, c, d, (Option.some.inj hx).symm, s6 _ _ ht1, hc5.same s6, gc, hd5.same s6, gd, rfl, eq, eqe, rfl⟩
      | 1, hx => exact ⟨t2, v, u, d, c, (Option.some.inj hx).symm, s6 _ _ ht2, hd5.same s6, gd, hc5.same s6, gc, eq, rfl, eqe.symm, by rw [eqr, parted_comm]⟩
      | 2, hx => exact ⟨t3, u, v, c, d, (Option.some.inj hx).symm, s6 _ _ ht3, hc5.same s6, gc, hd5.same s6, gd, rfl, eq, eqe, rfl⟩
    obtain ⟨t, p, p', e, e', rfl, ht, he, ge, he', ge', ef, ef', eel, pe⟩ := pair
    walk_at "go"
    refine ⟨_, _, e, e', rfl, he, ge, he', ge', by omega, by omega, eel, fun w7 H7 s7 hw7 => ?_⟩
    rw [pe] at hw7
    walk_at "go"
    cases pc : parted c d (rowsOf c.free.toNat) with
    | none =>
      rw [pc] at hw hw7
      have ew : w = .non := hw
      have ew7 : w7 = .non := hw7
      subst ew ew7
      refine ⟨_, _, rfl, .non, ?_⟩
      walk_at "go"
      exact ⟨_, _, rfl, s6.trans s7⟩
    | some xs =>
      rw [pc] at hw hw7
      have xl := pl xs pc
      obtain ⟨lw, rfl, nw, hlw⟩ := id hw
      obtain ⟨l7, rfl, n7, hl7⟩ := id hw7
      refine ⟨_, _, rfl, ds_ints hl7 (s7 _ _ (s6 _ _ (S5 _ _ hlw))) xl, ?_⟩
      walk_at "go"
      exact ⟨_, _, rfl, s6.trans (Same.setNew s7 n7)⟩
  · rintro σ H6 ⟨o4, o5, rfl, s6⟩
    walk_at "go"
    refine ⟨_, _, c, c, rfl, hc5.same s6, gc, hc5.same s6, gc, fine, rfl, rfl, fun w7 H7 s7 hw7 => ?_⟩
    rw [parted_self] at hw7
    have ew7 : w7 = .non := hw7
    subst ew7
    walk_at "go"
    exact q _ (s1.trans (S5.trans (s6.trans s7)))
end

end K19
set_option maxHeartbeats 4000000
namespace K19
open PySem PySem.Spec PyProof.Rows L2 FabH He
local macro_rules | `(tactic| array_mem_dec) => `(tactic| (first | with_reducible assumption | with_reducible exact SqL.of (by array_get_dec) | with_reducible exact SqT.of (by array_get_dec) | ((repeat (with_reducible first | refine Same.seq (Same.new (by assumption)) ?_ | refine Same.tup (Same.new (by assumption)) ?_)); with_reducible assumption)))
local macro_rules | `(tactic| array_get_dec) => `(tactic| (first | with_reducible assumption | with_reducible exact upd_same | ((repeat (first | with_reducible exact upd_same | ((with_reducible apply at_new); with_reducible assumption) | ((with_reducible apply at_lstT); with_reducible assumption) | ((with_reducible apply at_lstR); with_reducible assumption) | ((with_reducible apply at_set); with_reducible assumption))); done) | ((repeat (first | ((with_reducible apply at_new); with_reducible assumption) | ((with_reducible apply at_lstT); with_reducible assumption) | ((with_reducible apply at_lstR); with_reducible assumption) | ((with_reducible apply at_set); with_reducible assumption))); with_reducible assumption)))
local macro_rules | `(tactic| walk_at "side") => `(tactic| (first | with_reducible assumption | decide | exact MOk.div (by assumption) | exact MOk.div (MOk.of (by decide) (by decide)) | (simp only [List.length_append, List.length_map, List.length_replicate, List.length_cons, List.length_nil, sizeLine_eq, CMul, CDivW, CPow]; omega) | omega))
local macro_rules | `(tactic| walk_at "st") => `(tactic| first
  | with_reducible refine g_cons ?_ | ((with_reducible apply g_var); (first | exact rfl | assumption)) | with_reducible refine g_const ?_ | with_reducible refine g_nil ?_ | with_reducible refine g_op ?_ | with_reducible refine g_rI0 ?_ | with_reducible refine g_seq ?_ | with_reducible refine g_asg ?_ | ((with_reducible refine g_name ?_); dsimp only [List.set_cons_zero, List.set_cons_succ])
  | with_reducible refine g_nx ?_ | with_reducible refine g_rt ?_ | with_reducible refine g_call ?_ | with_reducible refine g_ret ?_ | with_reducible refine g_test ?_ | with_reducible refine g_bl ?_ | with_reducible refine g_cb ?_ | with_reducible refine g_tB ?_ | with_reducible refine g_un ?_ | with_reducible refine g_rU ?_
  | with_reducible refine g_eqi ?_ | with_reducible refine g_int ?_ | with_reducible refine g_and ?_ | with_reducible refine g_or ?_ | with_reducible refine g_not ?_ | with_reducible refine g_drop ?_ | with_reducible refine g_next ?_ | with_reducible refine g_retN ?_ | with_reducible refine g_iteT ?_ | with_reducible refine g_iteF ?_ | with_reducible refine g_iteNT ?_ | with_reducible refine g_iteNF ?_
  | ((with_reducible apply g_ixL); array_mem_dec; (first | exact rfl | assumption)) | ((with_reducible apply g_ixT); array_mem_dec; (first | exact rfl | assumption)) | ((with_reducible apply g_lenL); array_mem_dec) | ((with_reducible apply g_lenT); array_mem_dec) | ((with_reducible apply g_rI); walk_at "side")
  | ((with_reducible apply g_setL); array_get_dec; (first | exact rfl | assumption)) | ((with_reducible apply g_app); array_get_dec; walk_at "side") | with_reducible refine g_tup ?_ | with_reducible refine g_lst ?_ | ((with_reducible apply g_listL); array_mem_dec) | ((with_reducible apply g_listT); array_mem_dec) | ((with_reducible apply g_tupT); array_mem_dec) | ((with_reducible apply g_tupL); array_mem_dec)
  | ((with_reducible apply g_room); walk_at "side") | with_reducible refine g_abs ?_ | with_reducible refine g_chain ?_ | with_reducible refine g_andV ?_ | with_reducible refine g_orV ?_ | with_reducible refine g_notV ?_ | with_reducible refine g_gsub ?_ | ((with_reducible apply g_gtup); array_mem_dec; (first | exact rfl | assumption)) | with_reducible refine g_gcons ?_ | with_reducible refine g_gnil ?_ | with_reducible refine g_bm ?_ | ((with_reducible apply g_tyL); array_mem_dec) | with_reducible refine g_tyS ?_
  | with_reducible refine g_callS ?_ | with_reducible refine g_nei ?_ | with_reducible refine g_eqs ?_ | with_reducible refine g_nes ?_ | with_reducible refine g_eqb ?_ | with_reducible refine g_nonI ?_ | with_reducible refine g_nonN ?_ | with_reducible refine g_nonS ?_ | with_reducible refine g_nonB ?_ | with_reducible refine g_nonR ?_ | with_reducible refine g_isBB ?_ | with_reducible refine g_isBI ?_ | with_reducible refine g_isBS ?_ | with_reducible refine g_isBR ?_ | with_reducible refine g_isBN ?_
  | with_reducible refine g_rng1 ?_ | with_reducible refine g_rng2 ?_ | ((with_reducible apply g_notInR); array_get_dec) | ((with_reducible apply g_inR); array_get_dec) | with_reducible refine g_for ?_ | with_reducible refine g_iList ?_ | with_reducible refine g_iTup ?_ | with_reducible refine g_iR1 ?_ | with_reducible refine g_iEnum ?_ | with_reducible refine g_lc ?_ | with_reducible refine g_yes ?_ | with_reducible refine g_slc ?_ | with_reducible refine g_raise ?_ | with_reducible refine g_exv ?_ | with_reducible refine g_xf ?_ | ((with_reducible apply g_xfe); array_get_dec; (first | exact rfl | assumption)) | with_reducible refine g_part ?_ | with_reducible refine g_nopart ?_ | with_reducible refine g_exi ?_ | with_reducible refine g_brk ?_ | with_reducible refine g_cnt ?_ | with_reducible refine g_bk ?_ | with_reducible refine g_ct ?_ | with_reducible refine g_if ?_
  | with_reducible refine g_augS ?_ | with_reducible refine g_nnR ?_ | with_reducible refine g_nnN ?_ | with_reducible refine g_nnI ?_ | with_reducible refine g_ipI ?_ | ((with_reducible apply g_neL); array_mem_dec; array_mem_dec) | ((with_reducible apply g_eqL); array_mem_dec; array_mem_dec) | ((with_reducible apply g_slL); array_mem_dec) | ((with_reducible apply g_atL); array_mem_dec) | ((with_reducible apply g_atT); array_mem_dec) | ((with_reducible apply g_enum); array_mem_dec) | ((with_reducible apply g_R1); walk_at "side"; walk_at "side")
  | with_reducible refine g_is_int_int ?_ | with_reducible refine g_is_int_bool ?_ | with_reducible refine g_is_int_str ?_ | with_reducible refine g_is_int_dict ?_ | with_reducible refine g_is_int_list ?_ | with_reducible refine g_is_int_tuple ?_ | with_reducible refine g_is_bool_bool ?_ | with_reducible refine g_is_bool_int ?_ | with_reducible refine g_is_str_int ?_ | with_reducible refine g_is_str_str ?_ | with_reducible refine g_is_str_dict ?_ | with_reducible refine g_is_str_list ?_ | with_reducible refine g_is_str_tuple ?_ | ((with_reducible apply g_is_list_int); array_get_dec) | ((with_reducible apply g_is_list_str); array_get_dec) | ((with_reducible apply g_is_list_dict); array_get_dec) | ((with_reducible apply g_is_list_list); array_get_dec) | ((with_reducible apply g_is_list_tuple); array_get_dec) | ((with_reducible apply g_is_tuple_int); array_get_dec) | ((with_reducible apply g_is_tuple_str); array_get_dec) | ((with_reducible apply g_is_tuple_dict); array_get_dec) | ((with_reducible apply g_is_tuple_list); array_get_dec) | ((with_reducible apply g_is_tuple_tuple); array_get_dec) | ((with_reducible apply g_ixSL); array_mem_dec; (first | exact rfl | assumption)) | ((with_reducible apply g_ixST); array_mem_dec; (first | exact rfl | assumption)))
local macro_rules | `(tactic| walk_at "go") => `(tactic| repeat first | with_reducible refine g_ifS ?_ | walk_at "st")
local macro_rules | `(tactic| walk_at "dec") => `(tactic| first | with_reducible assumption | decide | omega)
local macro_rules | `(tactic| walk_at "goD") => `(tactic| repeat first | with_reducible refine g_ifS ?_ | walk_at "st" | ((with_reducible apply g_iteY); walk_at "dec") | ((with_reducible apply g_iteX); walk_at "dec") | ((with_reducible apply g_iteNY); walk_at "dec") | ((with_reducible apply g_iteNX); walk_at "dec"))
local macro_rules | `(tactic| walk_at "goI") => `(tactic| repeat walk_at "st")
section
open FabC
variable {P : Program} {w : World} {K : PySem.W.Frag} {mg : Str → Option Value} {base : Heap}
theorem ok__law_told_values (T : Txt P K mg) (G_wire_values : FnOk P w K mg base (L2.CX P w) 3 (ga K "wire_values") (fdOf K "wire_values") ["circuit", "values"] (sp_wire_values K)) : FnOk P w K mg base CX0 4 (ga K "_law_told_values") (fdOf K "_law_told_values") ["circuit", "values"] (sp__law_told_values) := by
  refine T.f__law_told_values.f.ok sc__law_told_values (fun vs H Q E h => by obtain ⟨_, _, _, _, e, _⟩ := h; rw [e]; rfl) (fun cdv A outer s H vs Q E hr h => ⟨(d__law_told_values T G_wire_values (b_wire_values T) hr).1, PSs.nox (d__law_told_values T G_wire_values (b_wire_values T) hr).2, ?_⟩)
  dsimp only [d__law_told_values, cxOf]
  obtain ⟨u, v, c, xs, rfl, hc, gd, hs, hb, hz, ne, q⟩ := h
  rw [show start N__law_told_values [u, v] = [some (u), some (v), none, none] from rfl]
  walk_at "go"
  intro d hd
  walk_at "go"
  refine ⟨_, _, c, xs, rfl, hc.same (.new hd), gd, hs.same (.new hd), hb, hz, fun e => absurd e ne, fun _ x H' sm hx => ?_⟩
  refine g_hit T.m_SizeError_SizeError (fun z hz => ?_)
  dsimp only [endsAs, setAs, List.set_cons_zero, List.set_cons_succ]
  walk_at "go"
  intro p hp
  walk_at "go"
  exact q _ _ ((Same.new hd).trans (sm.then hp)) ⟨p, rfl, upd_same⟩
end

end K19
set_option maxHeartbeats 4000000
namespace K19
open PySem PySem.Spec PyProof.Rows L2 FabH He
local macro_rules | `(tactic| array_mem_dec) => `(tactic| (first | with_reducible assumption | with_reducible exact SqL.of (by array_get_dec) | with_reducible exact SqT.of (by array_get_dec) | ((repeat (with_reducible first | refine Same.seq (Same.new (by assumption)) ?_ | refine Same.tup (Same.new (by assumption)) ?_)); with_reducible assumption)))
local macro_rules | `(tactic| array_get_dec) => `(tactic| (first | with_reducible assumption | with_reducible exact upd_same | ((repeat (first | with_reducible exact upd_same | ((with_reducible apply at_new); with_reducible assumption) | ((with_reducible apply at_lstT); with_reducible assumption) | ((with_reducible apply at_lstR); with_reducible assumption) | ((with_reducible apply at_set); with_reducible assumption))); done) | ((repeat (first | ((with_reducible apply at_new); with_reducible assumption) | ((with_reducible apply at_lstT); with_reducible assumption) | ((with_reducible apply at_lstR); with_reducible assumption) | ((with_reducible apply at_set); with_reducible assumption))); with_reducible assumption)))
local macro_rules | `(tactic| walk_at "side") => `(tactic| (first | with_reducible assumption | decide | exact MOk.div (by assumption) | exact MOk.div (MOk.of (by decide) (by decide)) | (simp only [List.length_append, List.length_map, List.length_replicate, List.length_cons, List.length_nil, sizeLine_eq, CMul, CDivW, CPow]; omega) | omega))
local macro_rules | `(tactic| walk_at "st") => `(tactic| first
  | with_reducible refine g_cons ?_ | ((with_reducible apply g_var); (first | exact rfl | assumption)) | with_reducible refine g_const ?_ | with_reducible refine g_nil ?_ | with_reducible refine g_op ?_ | with_reducible refine g_rI0 ?_ | with_reducible refine g_seq ?_ | with_reducible refine g_asg ?_ | ((with_reducible refine g_name ?_); dsimp only [List.set_cons_zero, List.set_cons_succ])
  | with_reducible refine g_nx ?_ | with_reducible refine g_rt ?_ | with_reducible refine g_call ?_ | with_reducible refine g_ret ?_ | with_reducible refine g_test ?_ | with_reducible refine g_bl ?_ | with_reducible refine g_cb ?_ | with_reducible refine g_tB ?_ | with_reducible refine g_un ?_ | with_reducible refine g_rU ?_
  | with_reducible refine g_eqi ?_ | with_reducible refine g_int ?_ | with_reducible refine g_and ?_ | with_reducible refine g_or ?_ | with_reducible refine g_not ?_ | with_reducible refine g_drop ?_ | with_reducible refine g_next ?_ | with_reducible refine g_retN ?_ | with_reducible refine g_iteT ?_ | with_reducible refine g_iteF ?_ | with_reducible refine g_iteNT ?_ | with_reducible refine g_iteNF ?_
  | ((with_reducible apply g_ixL); array_mem_dec; (first | exact rfl | assumption)) | ((with_reducible apply g_ixT); array_mem_dec; (first | exact rfl | assumption)) | ((with_reducible apply g_lenL); array_mem_dec) | ((with_reducible apply g_lenT); array_mem_dec) | ((with_reducible apply g_rI); walk_at "side")
  | ((with_reducible apply g_setL); array_get_dec; (first | exact rfl | assumption)) | ((with_reducible apply g_app); array_get_dec; walk_at "side") | with_reducible refine g_tup ?_ | with_reducible refine g_lst ?_ | ((with_reducible apply g_listL); array_mem_dec) | ((with_reducible apply g_listT); array_mem_dec) | ((with_reducible apply g_tupT); array_mem_dec) | ((with_reducible apply g_tupL); array_mem_dec)
  | ((with_reducible apply g_room); walk_at "side") | with_reducible refine g_abs ?_ | with_reducible refine g_chain ?_ | with_reducible refine g_andV ?_ | with_reducible refine g_orV ?_ | with_reducible refine g_notV ?_ | with_reducible refine g_gsub ?_ | ((with_reducible apply g_gtup); array_mem_dec; (first | exact rfl | assumption)) | with_reducible refine g_gcons ?_ | with_reducible refine g_gnil ?_ | with_reducible refine g_bm ?_ | ((with_reducible apply g_tyL); array_mem_dec) | with_reducible refine g_tyS ?_
  | with_reducible refine g_callS ?_ | with_reducible refine g_nei ?_ | with_reducible refine g_eqs ?_ | with_reducible refine g_nes ?_ | with_reducible refine g_eqb ?_ | with_reducible refine g_nonI ?_ | with_reducible refine g_nonN ?_ | with_reducible refine g_nonS ?_ | with_reducible refine g_nonB ?_ | with_reducible refine g_nonR ?_ | with_reducible refine g_isBB ?_ | with_reducible refine g_isBI ?_ | with_reducible refine g_isBS ?_ | with_reducible refine g_isBR ?_ | with_reducible refine g_isBN ?_
  | with_reducible refine g_rng1 ?_ | with_reducible refine g_rng2 ?_ | ((with_reducible apply g_notInR); array_get_dec) | ((with_reducible apply g_inR); array_get_dec) | with_reducible refine g_for ?_ | with_reducible refine g_iList ?_ | with_reducible refine g_iTup ?_ | with_reducible refine g_iR1 ?_ | with_reducible refine g_iEnum ?_ | with_reducible refine g_lc ?_ | with_reducible refine g_yes ?_ | with_reducible refine g_slc ?_ | with_reducible refine g_raise ?_ | with_reducible refine g_exv ?_ | with_reducible refine g_xf ?_ | ((with_reducible apply g_xfe); array_get_dec; (first | exact rfl | assumption)) | with_reducible refine g_part ?_ | with_reducible refine g_nopart ?_ | with_reducible refine g_exi ?_ | with_reducible refine g_brk ?_ | with_reducible refine g_cnt ?_ | with_reducible refine g_bk ?_ | with_reducible refine g_ct ?_ | with_reducible refine g_if ?_
  | with_reducible refine g_augS ?_ | with_reducible refine g_nnR ?_ | with_reducible refine g_nnN ?_ | with_reducible refine g_nnI ?_ | with_reducible refine g_ipI ?_ | ((with_reducible apply g_neL); array_mem_dec; array_mem_dec) | ((with_reducible apply g_eqL); array_mem_dec; array_mem_dec) | ((with_reducible apply g_slL); array_mem_dec) | ((with_reducible apply g_atL); array_mem_dec) | ((with_reducible apply g_atT); array_mem_dec) | ((with_reducible apply g_enum); array_mem_dec) | ((with_reducible apply g_R1); walk_at "side"; walk_at "side")
  | with_reducible refine g_is_int_int ?_ | with_reducible refine g_is_int_bool ?_ | with_reducible refine g_is_int_str ?_ | with_reducible refine g_is_int_dict ?_ | with_reducible refine g_is_int_list ?_ | with_reducible refine g_is_int_tuple ?_ | with_reducible refine g_is_bool_bool ?_ | with_reducible refine g_is_bool_int ?_ | with_reducible refine g_is_str_int ?_ | with_reducible refine g_is_str_str ?_ | with_reducible refine g_is_str_dict ?_ | with_reducible refine g_is_str_list ?_ | with_reducible refine g_is_str_tuple ?_ | ((with_reducible apply g_is_list_int); array_get_dec) | ((with_reducible apply g_is_list_str); array_get_dec) | ((with_reducible apply g_is_list_dict); array_get_dec) | ((with_reducible apply g_is_list_list); array_get_dec) | ((with_reducible apply g_is_list_tuple); array_get_dec) | ((with_reducible apply g_is_tuple_int); array_get_dec) | ((with_reducible apply g_is_tuple_str); array_get_dec) | ((with_reducible apply g_is_tuple_dict); array_get_dec) | ((with_reducible apply g_is_tuple_list); array_get_dec) | ((with_reducible apply g_is_tuple_tuple); array_get_dec) | ((with_reducible apply g_ixSL); array_mem_dec; (first | exact rfl | assumption)) | ((with_reducible apply g_ixST); array_mem_dec; (first | exact rfl | assumption)))
local macro_rules | `(tactic| walk_at "go") => `(tactic| repeat first | with_reducible refine g_ifS ?_ | walk_at "st")
local macro_rules | `(tactic| walk_at "dec") => `(tactic| first | with_reducible assumption | decide | omega)
local macro_rules | `(tactic| walk_at "goD") => `(tactic| repeat first | with_reducible refine g_ifS ?_ | walk_at "st" | ((with_reducible apply g_iteY); walk_at "dec") | ((with_reducible apply g_iteX); walk_at "dec") | ((with_reducible apply g_iteNY); walk_at "dec") | ((with_reducible apply g_iteNX); walk_at "dec"))
local macro_rules | `(tactic| walk_at "goI") => `(tactic| repeat walk_at "st")
section
open FabC
variable {P : Program} {w : World} {K : PySem.W.Frag} {mg : Str → Option Value} {base : Heap}
theorem ok__law_told_outputs (T : Txt P K mg) (G_evaluate : FnOk P w K mg base (L2.CX P w) 4 (ga K "evaluate") (fdOf K "evaluate") ["circuit", "values"] (sp_evaluate K)) : FnOk P w K mg base CX0 5 (ga K "_law_told_outputs") (fdOf K "_law_told_outputs") ["circuit", "values"] (sp__law_told_outputs) := by
  refine T.f__law_told_outputs.f.ok sc__law_told_outputs (fun vs H Q E h => by obtain ⟨_, _, _, _, e, _⟩ := h; rw [e]; rfl) (fun cdv A outer s H vs Q E hr h => ⟨(d__law_told_outputs T G_evaluate (b_evaluate T) hr).1, PSs.nox (d__law_told_outputs T G_evaluate (b_evaluate T) hr).2, ?_⟩)
  dsimp only [d__law_told_outputs, cxOf]
  obtain ⟨u, v, c, xs, rfl, hc, gd, hs, hb, hz, ne, q⟩ := h
  rw [show start N__law_told_outputs [u, v] = [some (u), some (v), none, none] from rfl]
  walk_at "go"
  intro d hd
  walk_at "go"
  refine ⟨_, _, c, xs, rfl, hc.same (.new hd), gd, hs.same (.new hd), hb, hz, fun e => absurd e ne, fun _ x H' sm hx => ?_⟩
  refine g_hit T.m_SizeError_SizeError (fun z hz => ?_)
  dsimp only [endsAs, setAs, List.set_cons_zero, List.set_cons_succ]
  walk_at "go"
  intro p hp
  walk_at "go"
  exact q _ _ ((Same.new hd).trans (sm.then hp)) ⟨p, rfl, upd_same⟩
end

end K19
set_option maxHeartbeats 4000000
namespace K19
open PySem PySem.Spec PyProof.Rows L2 FabH He
local macro_rules | `(tactic| array_mem_dec) => `(tactic| (first | with_reducible assumption | with_reducible exact SqL.of (by array_get_dec) | with_reducible exact SqT.of (by array_get_dec) | ((repeat (with_reducible first | refine Same.seq (Same.new (by assumption)) ?_ | refine Same.tup (Same.new (by assumption)) ?_)); with_reducible assumption)))
local macro_rules | `(tactic| array_get_dec) => `(tactic| (first | with_reducible assumption | with_reducible exact upd_same | ((repeat (first | with_reducible exact upd_same | ((with_reducible apply at_new); with_reducible assumption) | ((with_reducible apply at_lstT); with_reducible assumption) | ((with_reducible apply at_lstR); with_reducible assumption) | ((with_reducible apply at_set); with_reducible assumption))); done) | ((repeat (first | ((with_reducible apply at_new); with_reducible assumption) | ((with_reducible apply at_lstT); with_reducible assumption) | ((with_reducible apply at_lstR); with_reducible assumption) | ((with_reducible apply at_set); with_reducible assumption))); with_reducible assumption)))
local macro_rules | `(tactic| walk_at "side") => `(tactic| (first | with_reducible assumption | decide | exact MOk.div (by assumption) | exact MOk.div (MOk.of (by decide) (by decide)) | (simp only [List.length_append, List.length_map, List.length_replicate, List.length_cons, List.length_nil, sizeLine_eq, CMul, CDivW, CPow]; omega) | omega))
local macro_rules | `(tactic| walk_at "st") => `(tactic| first
  | with_reducible refine g_cons ?_ | ((with_reducible apply g_var); (first | exact rfl | assumption)) | with_reducible refine g_const ?_ | with_reducible refine g_nil ?_ | with_reducible refine g_op ?_ | with_reducible refine g_rI0 ?_ | with_reducible refine g_seq ?_ | with_reducible refine g_asg ?_ | ((with_reducible refine g_name ?_); dsimp only [List.set_cons_zero, List.set_cons_succ])
  | with_reducible refine g_nx ?_ | with_reducible refine g_rt ?_ | with_reducible refine g_call ?_ | with_reducible refine g_ret ?_ | with_reducible refine g_test ?_ | with_reducible refine g_bl ?_ | with_reducible refine g_cb ?_ | with_reducible refine g_tB ?_ | with_reducible refine g_un ?_ | with_reducible refine g_rU ?_
  | with_reducible refine g_eqi ?_ | with_reducible refine g_int ?_ | with_reducible refine g_and ?_ | with_reducible refine g_or ?_ | with_reducible refine g_not ?_ | with_reducible refine g_drop ?_ | with_reducible refine g_next ?_ | with_reducible refine g_retN ?_ | with_reducible refine g_iteT ?_ | with_reducible refine g_iteF ?_ | with_reducible refine g_iteNT ?_ | with_reducible refine g_iteNF ?_
  | ((with_reducible apply g_ixL); array_mem_dec; (first | exact rfl | assumption)) | ((with_reducible apply g_ixT); array_mem_dec; (first | exact rfl | assumption)) | ((with_reducible apply g_lenL); array_mem_dec) | ((with_reducible apply g_lenT); array_mem_dec) | ((with_reducible apply g_rI); walk_at "side")
  | ((with_reducible apply g_setL); array_get_dec; (first | exact rfl | assumption)) | ((with_reducible apply g_app); array_get_dec; walk_at "side") | with_reducible refine g_tup ?_ | with_reducible refine g_lst ?_ | ((with_reducible apply g_listL); array_mem_dec) | ((with_reducible apply g_listT); array_mem_dec) | ((with_reducible apply g_tupT); array_mem_dec) | ((with_reducible apply g_tupL); array_mem_dec)
  | ((with_reducible apply g_room); walk_at "side") | with_reducible refine g_abs ?_ | with_reducible refine g_chain ?_ | with_reducible refine g_andV ?_ | with_reducible refine g_orV ?_ | with_reducible refine g_notV ?_ | with_reducible refine g_gsub ?_ | ((with_reducible apply g_gtup); array_mem_dec; (first | exact rfl | assumption)) | with_reducible refine g_gcons ?_ | with_reducible refine g_gnil ?_ | with_reducible refine g_bm ?_ | ((with_reducible apply g_tyL); array_mem_dec) | with_reducible refine g_tyS ?_
  | with_reducible refine g_callS ?_ | with_reducible refine g_nei ?_ | with_reducible refine g_eqs ?_ | with_reducible refine g_nes ?_ | with_reducible refine g_eqb ?_ | with_reducible refine g_nonI ?_ | with_reducible refine g_nonN ?_ | with_reducible refine g_nonS ?_ | with_reducible refine g_nonB ?_ | with_reducible refine g_nonR ?_ | with_reducible refine g_isBB ?_ | with_reducible refine g_isBI ?_ | with_reducible refine g_isBS ?_ | with_reducible refine g_isBR ?_ | with_reducible refine g_isBN ?_
  | with_reducible refine g_rng1 ?_ | with_reducible refine g_rng2 ?_ | ((with_reducible apply g_notInR); array_get_dec) | ((with_reducible apply g_inR); array_get_dec) | with_reducible refine g_for ?_ | with_reducible refine g_iList ?_ | with_reducible refine g_iTup ?_ | with_reducible refine g_iR1 ?_ | with_reducible refine g_iEnum ?_ | with_reducible refine g_lc ?_ | with_reducible refine g_yes ?_ | with_reducible refine g_slc ?_ | with_reducible refine g_raise ?_ | with_reducible refine g_exv ?_ | with_reducible refine g_xf ?_ | ((with_reducible apply g_xfe); array_get_dec; (first | exact rfl | assumption)) | with_reducible refine g_part ?_ | with_reducible refine g_nopart ?_ | with_reducible refine g_exi ?_ | with_reducible refine g_brk ?_ | with_reducible refine g_cnt ?_ | with_reducible refine g_bk ?_ | with_reducible refine g_ct ?_ | with_reducible refine g_if ?_
  | with_reducible refine g_augS ?_ | with_reducible refine g_nnR ?_ | with_reducible refine g_nnN ?_ | with_reducible refine g_nnI ?_ | with_reducible refine g_ipI ?_ | ((with_reducible apply g_neL); array_mem_dec; array_mem_dec) | ((with_reducible apply g_eqL); array_mem_dec; array_mem_dec) | ((with_reducible apply g_slL); array_mem_dec) | ((with_reducible apply g_atL); array_mem_dec) | ((with_reducible apply g_atT); array_mem_dec) | ((with_reducible apply g_enum); array_mem_dec) | ((with_reducible apply g_R1); walk_at "side"; walk_at "side")
  | with_reducible refine g_is_int_int ?_ | with_reducible refine g_is_int_bool ?_ | with_reducible refine g_is_int_str ?_ | with_reducible refine g_is_int_dict ?_ | with_reducible refine g_is_int_list ?_ | with_reducible refine g_is_int_tuple ?_ | with_reducible refine g_is_bool_bool ?_ | with_reducible refine g_is_bool_int ?_ | with_reducible refine g_is_str_int ?_ | with_reducible refine g_is_str_str ?_ | with_reducible refine g_is_str_dict ?_ | with_reducible refine g_is_str_list ?_ | with_reducible refine g_is_str_tuple ?_ | ((with_reducible apply g_is_list_int); array_get_dec) | ((with_reducible apply g_is_list_str); array_get_dec) | ((with_reducible apply g_is_list_dict); array_get_dec) | ((with_reducible apply g_is_list_list); array_get_dec) | ((with_reducible apply g_is_list_tuple); array_get_dec) | ((with_reducible apply g_is_tuple_int); array_get_dec) | ((with_reducible apply g_is_tuple_str); array_get_dec) | ((with_reducible apply g_is_tuple_dict); array_get_dec) | ((with_reducible apply g_is_tuple_list); array_get_dec) | ((with_reducible apply g_is_tuple_tuple); array_get_dec) | ((with_reducible apply g_ixSL); array_mem_dec; (first | exact rfl | assumption)) | ((with_reducible apply g_ixST); array_mem_dec; (first | exact rfl | assumption)))
local macro_rules | `(tactic| walk_at "go") => `(tactic| repeat first | with_reducible refine g_ifS ?_ | walk_at "st")
local macro_rules | `(tactic| walk_at "dec") => `(tactic| first | with_reducible assumption | decide | omega)
local macro_rules | `(tactic| walk_at "goD") => `(tactic| repeat first | with_reducible refine g_ifS ?_ | walk_at "st" | ((with_reducible apply g_iteY); walk_at "dec") | ((with_reducible apply g_iteX); walk_at "dec") | ((with_reducible apply g_iteNY); walk_at "dec") | ((with_reducible apply g_iteNX); walk_at "dec"))
local macro_rules | `(tactic| walk_at "goI") => `(tactic| repeat walk_at "st")
section
open FabC
variable {P : Program} {w : World} {K : PySem.W.Frag} {mg : Str → Option Value} {base : Heap}
theorem ok__law_told_table (T : Txt P K mg) (G_truth_table : FnOk P w K mg base (L2.CX P w) 5 (ga K "truth_table") (fdOf K "truth_table") ["circuit"] (sp_truth_table K)) : FnOk P w K mg base CX0 6 (ga K "_law_told_table") (fdOf K "_law_told_table") ["circuit"] (sp__law_told_table) := by
  refine T.f__law_told_table.f.ok sc__law_told_table (fun vs H Q E h => by obtain ⟨_, _, e, _⟩ := h; rw [e]; rfl) (fun cdv A outer s H vs Q E hr h => ⟨(d__law_told_table T G_truth_table (b_truth_table T) hr).1, PSs.nox (d__law_told_table T G_truth_table (b_truth_table T) hr).2, ?_⟩)
  dsimp only [d__law_told_table, cxOf]
  obtain ⟨u, c, rfl, hc, gd, wide, q⟩ := h
  rw [show start N__law_told_table [u] = [some (u), none, none] from rfl]
  walk_at "go"
  intro d hd
  walk_at "go"
  refine ⟨_, c, rfl, hc.same (.new hd), gd, fun e => absurd e (by omega), fun _ x H' sm hx => ?_⟩
  refine g_hit T.m_SizeError_SizeError (fun z hz => ?_)
  dsimp only [endsAs, setAs, List.set_cons_zero, List.set_cons_succ]
  walk_at "go"
  intro p hp
  walk_at "go"
  exact q _ _ ((Same.new hd).trans (sm.then hp)) ⟨p, rfl, upd_same⟩
end

end K19
set_option maxHeartbeats 4000000
namespace K19
open PySem PySem.Spec PyProof.Rows L2 FabH He
local macro_rules | `(tactic| array_mem_dec) => `(tactic| (first | with_reducible assumption | with_reducible exact SqL.of (by array_get_dec) | with_reducible exact SqT.of (by array_get_dec) | ((repeat (with_reducible first | refine Same.seq (Same.new (by assumption)) ?_ | refine Same.tup (Same.new (by assumption)) ?_)); with_reducible assumption)))
local macro_rules | `(tactic| array_get_dec) => `(tactic| (first | with_reducible assumption | with_reducible exact upd_same | ((repeat (first | with_reducible exact upd_same | ((with_reducible apply at_new); with_reducible assumption) | ((with_reducible apply at_lstT); with_reducible assumption) | ((with_reducible apply at_lstR); with_reducible assumption) | ((with_reducible apply at_set); with_reducible assumption))); done) | ((repeat (first | ((with_reducible apply at_new); with_reducible assumption) | ((with_reducible apply at_lstT); with_reducible assumption) | ((with_reducible apply at_lstR); with_reducible assumption) | ((with_reducible apply at_set); with_reducible assumption))); with_reducible assumption)))
local macro_rules | `(tactic| walk_at "side") => `(tactic| (first | with_reducible assumption | decide | exact MOk.div (by assumption) | exact MOk.div (MOk.of (by decide) (by decide)) | (simp only [List.length_append, List.length_map, List.length_replicate, List.length_cons, List.length_nil, sizeLine_eq, CMul, CDivW, CPow]; omega) | omega))
local macro_rules | `(tactic| walk_at "st") => `(tactic| first
  | with_reducible refine g_cons ?_ | ((with_reducible apply g_var); (first | exact rfl | assumption)) | with_reducible refine g_const ?_ | with_reducible refine g_nil ?_ | with_reducible refine g_op ?_ | with_reducible refine g_rI0 ?_ | with_reducible refine g_seq ?_ | with_reducible refine g_asg ?_ | ((with_reducible refine g_name ?_); dsimp only [List.set_cons_zero, List.set_cons_succ])
  | with_reducible refine g_nx ?_ | with_reducible refine g_rt ?_ | with_reducible refine g_call ?_ | with_reducible refine g_ret ?_ | with_reducible refine g_test ?_ | with_reducible refine g_bl ?_ | with_reducible refine g_cb ?_ | with_reducible refine g_tB ?_ | with_reducible refine g_un ?_ | with_reducible refine g_rU ?_
  | with_reducible refine g_eqi ?_ | with_reducible refine g_int ?_ | with_reducible refine g_and ?_ | with_reducible refine g_or ?_ | with_reducible refine g_not ?_ | with_reducible refine g_drop ?_ | with_reducible refine g_next ?_ | with_reducible refine g_retN ?_ | with_reducible refine g_iteT ?_ | with_reducible refine g_iteF ?_ | with_reducible refine g_iteNT ?_ | with_reducible refine g_iteNF ?_
  | ((with_reducible apply g_ixL); array_mem_dec; (first | exact rfl | assumption)) | ((with_reducible apply g_ixT); array_mem_dec; (first | exact rfl | assumption)) | ((with_reducible apply g_lenL); array_mem_dec) | ((with_reducible apply g_lenT); array_mem_dec) | ((with_reducible apply g_rI); walk_at "side")
  | ((with_reducible apply g_setL); array_get_dec; (first | exact rfl | assumption)) | ((with_reducible apply g_app); array_get_dec; walk_at "side") | with_reducible refine g_tup ?_ | with_reducible refine g_lst ?_ | ((with_reducible apply g_listL); array_mem_dec) | ((with_reducible apply g_listT); array_mem_dec) | ((with_reducible apply g_tupT); array_mem_dec) | ((with_reducible apply g_tupL); array_mem_dec)
  | ((with_reducible apply g_room); walk_at "side") | with_reducible refine g_abs ?_ | with_reducible refine g_chain ?_ | with_reducible refine g_andV ?_ | with_reducible refine g_orV ?_ | with_reducible refine g_notV ?_ | with_reducible refine g_gsub ?_ | ((with_reducible apply g_gtup); array_mem_dec; (first | exact rfl | assumption)) | with_reducible refine g_gcons ?_ | with_reducible refine g_gnil ?_ | with_reducible refine g_bm ?_ | ((with_reducible apply g_tyL); array_mem_dec) | with_reducible refine g_tyS ?_
  | with_reducible refine g_callS ?_ | with_reducible refine g_nei ?_ | with_reducible refine g_eqs ?_ | with_reducible refine g_nes ?_ | with_reducible refine g_eqb ?_ | with_reducible refine g_nonI ?_ | with_reducible refine g_nonN ?_ | with_reducible refine g_nonS ?_ | with_reducible refine g_nonB ?_ | with_reducible refine g_nonR ?_ | with_reducible refine g_isBB ?_ | with_reducible refine g_isBI ?_ | with_reducible refine g_isBS ?_ | with_reducible refine g_isBR ?_ | with_reducible refine g_isBN ?_
  | with_reducible refine g_rng1 ?_ | with_reducible refine g_rng2 ?_ | ((with_reducible apply g_notInR); array_get_dec) | ((with_reducible apply g_inR); array_get_dec) | with_reducible refine g_for ?_ | with_reducible refine g_iList ?_ | with_reducible refine g_iTup ?_ | with_reducible refine g_iR1 ?_ | with_reducible refine g_iEnum ?_ | with_reducible refine g_lc ?_ | with_reducible refine g_yes ?_ | with_reducible refine g_slc ?_ | with_reducible refine g_raise ?_ | with_reducible refine g_exv ?_ | with_reducible refine g_xf ?_ | ((with_reducible apply g_xfe); array_get_dec; (first | exact rfl | assumption)) | with_reducible refine g_part ?_ | with_reducible refine g_nopart ?_ | with_reducible refine g_exi ?_ | with_reducible refine g_brk ?_ | with_reducible refine g_cnt ?_ | with_reducible refine g_bk ?_ | with_reducible refine g_ct ?_ | with_reducible refine g_if ?_
  | with_reducible refine g_augS ?_ | with_reducible refine g_nnR ?_ | with_reducible refine g_nnN ?_ | with_reducible refine g_nnI ?_ | with_reducible refine g_ipI ?_ | ((with_reducible apply g_neL); array_mem_dec; array_mem_dec) | ((with_reducible apply g_eqL); array_mem_dec; array_mem_dec) | ((with_reducible apply g_slL); array_mem_dec) | ((with_reducible apply g_atL); array_mem_dec) | ((with_reducible apply g_atT); array_mem_dec) | ((with_reducible apply g_enum); array_mem_dec) | ((with_reducible apply g_R1); walk_at "side"; walk_at "side")
  | with_reducible refine g_is_int_int ?_ | with_reducible refine g_is_int_bool ?_ | with_reducible refine g_is_int_str ?_ | with_reducible refine g_is_int_dict ?_ | with_reducible refine g_is_int_list ?_ | with_reducible refine g_is_int_tuple ?_ | with_reducible refine g_is_bool_bool ?_ | with_reducible refine g_is_bool_int ?_ | with_reducible refine g_is_str_int ?_ | with_reducible refine g_is_str_str ?_ | with_reducible refine g_is_str_dict ?_ | with_reducible refine g_is_str_list ?_ | with_reducible refine g_is_str_tuple ?_ | ((with_reducible apply g_is_list_int); array_get_dec) | ((with_reducible apply g_is_list_str); array_get_dec) | ((with_reducible apply g_is_list_dict); array_get_dec) | ((with_reducible apply g_is_list_list); array_get_dec) | ((with_reducible apply g_is_list_tuple); array_get_dec) | ((with_reducible apply g_is_tuple_int); array_get_dec) | ((with_reducible apply g_is_tuple_str); array_get_dec) | ((with_reducible apply g_is_tuple_dict); array_get_dec) | ((with_reducible apply g_is_tuple_list); array_get_dec) | ((with_reducible apply g_is_tuple_tuple); array_get_dec) | ((with_reducible apply g_ixSL); array_mem_dec; (first | exact rfl | assumption)) | ((with_reducible apply g_ixST); array_mem_dec; (first | exact rfl | assumption)))
local macro_rules | `(tactic| walk_at "go") => `(tactic| repeat first | with_reducible refine g_ifS ?_ | walk_at "st")
local macro_rules | `(tactic| walk_at "dec") => `(tactic| first | with_reducible assumption | decide | omega)
local macro_rules | `(tactic| walk_at "goD") => `(tactic| repeat first | with_reducible refine g_ifS ?_ | walk_at "st" | ((with_reducible apply g_iteY); walk_at "dec") | ((with_reducible apply g_iteX); walk_at "dec") | ((with_reducible apply g_iteNY); walk_at "dec") | ((with_reducible apply g_iteNX); walk_at "dec"))
local macro_rules | `(tactic| walk_at "goI") => `(tactic| repeat walk_at "st")
section
open FabC
variable {P : Program} {w : World} {K : PySem.W.Frag} {mg : Str → Option Value} {base : Heap}
theorem ok__law_told_difference (T : Txt P K mg) (G_difference : FnOk P w K mg base (L2.CX P w) 5 (ga K "difference") (fdOf K "difference") ["circuit", "other"] (sp_difference K)) : FnOk P w K mg base CX0 6 (ga K "_law_told_difference") (fdOf K "_law_told_difference") ["one", "two"] (sp__law_told_difference) := by
  refine T.f__law_told_difference.f.ok sc__law_told_difference (fun vs H Q E h => by obtain ⟨_, _, _, _, _, e, _⟩ := h; rw [e]; rfl) (fun cdv A outer s H vs Q E hr h => ⟨(d__law_told_difference T G_difference (b_difference T) hr).1, PSs.nox (d__law_told_difference T G_difference (b_difference T) hr).2, ?_⟩)
  dsimp only [d__law_told_difference, cxOf]
  obtain ⟨u, v, c, e, n, rfl, hc, gc, he, ge, un, q⟩ := h
  rw [show start N__law_told_difference [u, v] = [some (u), some (v), none, none] from rfl]
  walk_at "go"
  intro d hd
  walk_at "go"
  unfold unlikeOf at un
  refine ⟨_, _, c, e, rfl, hc.same (.new hd), gc, he.same (.new hd), ge, fun a b c' => ?_, fun a x H' sm hx => ?_, fun a b x H' sm hx => ?_, fun a b c' x H' sm hx => ?_⟩
  · rw [if_neg (by omega), if_neg (by omega), if_neg (by omega)] at un
    cases un
  · rw [if_pos a] at un
    cases un
    refine g_hit T.m_SizeError_SizeError (fun z hz => ?_)
    dsimp only [endsAs, setAs, List.set_cons_zero, List.set_cons_succ]
    walk_at "go"
    intro p hp
    walk_at "go"
    exact q _ _ ((Same.new hd).trans (sm.then hp)) ⟨p, rfl, upd_same⟩
  · rw [if_neg (by omega), if_pos b] at un
    cases un
    refine g_hit T.m_SizeError_SizeError (fun z hz => ?_)
    dsimp only [endsAs, setAs, List.set_cons_zero, List.set_cons_succ]
    walk_at "go"
    intro p hp
    walk_at "go"
    exact q _ _ ((Same.new hd).trans (sm.then hp)) ⟨p, rfl, upd_same⟩
  · rw [if_neg (by omega), if_neg (by omega), if_pos c'] at un
    cases un
    refine g_hit T.m_SizeError_SizeError (fun z hz => ?_)
    dsimp only [endsAs, setAs, List.set_cons_zero, List.set_cons_succ]
    walk_at "go"
    intro p hp
    walk_at "go"
    exact q _ _ ((Same.new hd).trans (sm.then hp)) ⟨p, rfl, upd_same⟩
end

end K19
set_option maxHeartbeats 4000000
namespace K19
open PySem PySem.Spec PyProof.Rows L2 FabH He
local macro_rules | `(tactic| array_mem_dec) => `(tactic| (first | with_reducible assumption | with_reducible exact SqL.of (by array_get_dec) | with_reducible exact SqT.of (by array_get_dec) | ((repeat (with_reducible first | refine Same.seq (Same.new (by assumption)) ?_ | refine Same.tup (Same.new (by assumption)) ?_)); with_reducible assumption)))
local macro_rules | `(tactic| array_get_dec) => `(tactic| (first | with_reducible assumption | with_reducible exact upd_same | ((repeat (first | with_reducible exact upd_same | ((with_reducible apply at_new); with_reducible assumption) | ((with_reducible apply at_lstT); with_reducible assumption) | ((with_reducible apply at_lstR); with_reducible assumption) | ((with_reducible apply at_set); with_reducible assumption))); done) | ((repeat (first | ((with_reducible apply at_new); with_reducible assumption) | ((with_reducible apply at_lstT); with_reducible assumption) | ((with_reducible apply at_lstR); with_reducible assumption) | ((with_reducible apply at_set); with_reducible assumption))); with_reducible assumption)))
local macro_rules | `(tactic| walk_at "side") => `(tactic| (first | with_reducible assumption | decide | exact MOk.div (by assumption) | exact MOk.div (MOk.of (by decide) (by decide)) | (simp only [List.length_append, List.length_map, List.length_replicate, List.length_cons, List.length_nil, sizeLine_eq, CMul, CDivW, CPow]; omega) | omega))
local macro_rules | `(tactic| walk_at "st") => `(tactic| first
  | with_reducible refine g_cons ?_ | ((with_reducible apply g_var); (first | exact rfl | assumption)) | with_reducible refine g_const ?_ | with_reducible refine g_nil ?_ | with_reducible refine g_op ?_ | with_reducible refine g_rI0 ?_ | with_reducible refine g_seq ?_ | with_reducible refine g_asg ?_ | ((with_reducible refine g_name ?_); dsimp only [List.set_cons_zero, List.set_cons_succ])
  | with_reducible refine g_nx ?_ | with_reducible refine g_rt ?_ | with_reducible refine g_call ?_ | with_reducible refine g_ret ?_ | with_reducible refine g_test ?_ | with_reducible refine g_bl ?_ | with_reducible refine g_cb ?_ | with_reducible refine g_tB ?_ | with_reducible refine g_un ?_ | with_reducible refine g_rU ?_
  | with_reducible refine g_eqi ?_ | with_reducible refine g_int ?_ | with_reducible refine g_and ?_ | with_reducible refine g_or ?_ | with_reducible refine g_not ?_ | with_reducible refine g_drop ?_ | with_reducible refine g_next ?_ | with_reducible refine g_retN ?_ | with_reducible refine g_iteT ?_ | with_reducible refine g_iteF ?_ | with_reducible refine g_iteNT ?_ | with_reducible refine g_iteNF ?_
  | ((with_reducible apply g_ixL); array_mem_dec; (first | exact rfl | assumption)) | ((with_reducible apply g_ixT); array_mem_dec; (first | exact rfl | assumption)) | ((with_reducible apply g_lenL); array_mem_dec) | ((with_reducible apply g_lenT); array_mem_dec) | ((with_reducible apply g_rI); walk_at "side")
  | ((with_reducible apply g_setL); array_get_dec; (first | exact rfl | assumption)) | ((with_reducible apply g_app); array_get_dec; walk_at "side") | with_reducible refine g_tup ?_ | with_reducible refine g_lst ?_ | ((with_reducible apply g_listL); array_mem_dec) | ((with_reducible apply g_listT); array_mem_dec) | ((with_reducible apply g_tupT); array_mem_dec) | ((with_reducible apply g_tupL); array_mem_dec)
  | ((with_reducible apply g_room); walk_at "side") | with_reducible refine g_abs ?_ | with_reducible refine g_chain ?_ | with_reducible refine g_andV ?_ | with_reducible refine g_orV ?_ | with_reducible refine g_notV ?_ | with_reducible refine g_gsub ?_ | ((with_reducible apply g_gtup); array_mem_dec; (first | exact rfl | assumption)) | with_reducible refine g_gcons ?_ | with_reducible refine g_gnil ?_ | with_reducible refine g_bm ?_ | ((with_reducible apply g_tyL); array_mem_dec) | with_reducible refine g_tyS ?_
  | with_reducible refine g_callS ?_ | with_reducible refine g_nei ?_ | with_reducible refine g_eqs ?_ | with_reducible refine g_nes ?_ | with_reducible refine g_eqb ?_ | with_reducible refine g_nonI ?_ | with_reducible refine g_nonN ?_ | with_reducible refine g_nonS ?_ | with_reducible refine g_nonB ?_ | with_reducible refine g_nonR ?_ | with_reducible refine g_isBB ?_ | with_reducible refine g_isBI ?_ | with_reducible refine g_isBS ?_ | with_reducible refine g_isBR ?_ | with_reducible refine g_isBN ?_
  | with_reducible refine g_rng1 ?_ | with_reducible refine g_rng2 ?_ | ((with_reducible apply g_notInR); array_get_dec) | ((with_reducible apply g_inR); array_get_dec) | with_reducible refine g_for ?_ | with_reducible refine g_iList ?_ | with_reducible refine g_iTup ?_ | with_reducible refine g_iR1 ?_ | with_reducible refine g_iEnum ?_ | with_reducible refine g_lc ?_ | with_reducible refine g_yes ?_ | with_reducible refine g_slc ?_ | with_reducible refine g_raise ?_ | with_reducible refine g_exv ?_ | with_reducible refine g_xf ?_ | ((with_reducible apply g_xfe); array_get_dec; (first | exact rfl | assumption)) | with_reducible refine g_part ?_ | with_reducible refine g_nopart ?_ | with_reducible refine g_exi ?_ | with_reducible refine g_brk ?_ | with_reducible refine g_cnt ?_ | with_reducible refine g_bk ?_ | with_reducible refine g_ct ?_ | with_reducible refine g_if ?_
  | with_reducible refine g_augS ?_ | with_reducible refine g_nnR ?_ | with_reducible refine g_nnN ?_ | with_reducible refine g_nnI ?_ | with_reducible refine g_ipI ?_ | ((with_reducible apply g_neL); array_mem_dec; array_mem_dec) | ((with_reducible apply g_eqL); array_mem_dec; array_mem_dec) | ((with_reducible apply g_slL); array_mem_dec) | ((with_reducible apply g_atL); array_mem_dec) | ((with_reducible apply g_atT); array_mem_dec) | ((with_reducible apply g_enum); array_mem_dec) | ((with_reducible apply g_R1); walk_at "side"; walk_at "side")
  | with_reducible refine g_is_int_int ?_ | with_reducible refine g_is_int_bool ?_ | with_reducible refine g_is_int_str ?_ | with_reducible refine g_is_int_dict ?_ | with_reducible refine g_is_int_list ?_ | with_reducible refine g_is_int_tuple ?_ | with_reducible refine g_is_bool_bool ?_ | with_reducible refine g_is_bool_int ?_ | with_reducible refine g_is_str_int ?_ | with_reducible refine g_is_str_str ?_ | with_reducible refine g_is_str_dict ?_ | with_reducible refine g_is_str_list ?_ | with_reducible refine g_is_str_tuple ?_ | ((with_reducible apply g_is_list_int); array_get_dec) | ((with_reducible apply g_is_list_str); array_get_dec) | ((with_reducible apply g_is_list_dict); array_get_dec) | ((with_reducible apply g_is_list_list); array_get_dec) | ((with_reducible apply g_is_list_tuple); array_get_dec) | ((with_reducible apply g_is_tuple_int); array_get_dec) | ((with_reducible apply g_is_tuple_str); array_get_dec) | ((with_reducible apply g_is_tuple_dict); array_get_dec) | ((with_reducible apply g_is_tuple_list); array_get_dec) | ((with_reducible apply g_is_tuple_tuple); array_get_dec) | ((with_reducible apply g_ixSL); array_mem_dec; (first | exact rfl | assumption)) | ((with_reducible apply g_ixST); array_mem_dec; (first | exact rfl | assumption)))
local macro_rules | `(tactic| walk_at "go") => `(tactic| repeat first | with_reducible refine g_ifS ?_ | walk_at "st")
local macro_rules | `(tactic| walk_at "dec") => `(tactic| first | with_reducible assumption | decide | omega)
local macro_rules | `(tactic| walk_at "goD") => `(tactic| repeat first | with_reducible refine g_ifS ?_ | walk_at "st" | ((with_reducible apply g_iteY); walk_at "dec") | ((with_reducible apply g_iteX); walk_at "dec") | ((with_reducible apply g_iteNY); walk_at "dec") | ((with_reducible apply g_iteNX); walk_at "dec"))
local macro_rules | `(tactic| walk_at "goI") => `(tactic| repeat walk_at "st")
section
open FabC
variable {P : Program} {w : World} {K : PySem.W.Frag} {mg : Str → Option Value} {base : Heap}
theorem ok__law_by_base (T : Txt P K mg) (G_evaluate : FnOk P w K mg base (L2.CX P w) 4 (ga K "evaluate") (fdOf K "evaluate") ["circuit", "values"] (sp_evaluate K)) : FnOk P w K mg base CX0 5 (ga K "_law_by_base") (fdOf K "_law_by_base") ["circuit", "values"] (sp__law_by_base) := by
  refine T.f__law_by_base.f.ok sc__law_by_base (fun vs H Q E h => by obtain ⟨_, _, _, _, e, _⟩ := h; rw [e]; rfl) (fun cdv A outer s H vs Q E hr h => ⟨(d__law_by_base T G_evaluate (b_evaluate T) hr).1, PSs.nox (d__law_by_base T G_evaluate (b_evaluate T) hr).2, ?_⟩)
  dsimp only [d__law_by_base, cxOf]
  obtain ⟨u, v, c, xs, rfl, hc, gd, hs, hb, hz, ne, q⟩ := h
  rw [show start N__law_by_base [u, v] = [some (u), some (v), none, none, none] from rfl]
  walk_at "go"
  refine ⟨_, _, c, xs, rfl, hc, gd, hs, hb, hz, fun e => absurd e ne, fun _ x H' sm hx => ?_⟩
  refine g_hit T.m_SizeError_FabricError (fun z hz => ?_)
  dsimp only [endsAs, setAs, List.set_cons_zero, List.set_cons_succ]
  walk_at "go"
  intro tp htp
  walk_at "go"
  refine g_isXT (us := [.ref (ga K "BitsError"), .ref (ga K "CircuitError"), .ref (ga K "FanoutError"), .ref (ga K "MachineError")]) T.x_SizeError.1 (at_new htp hx) upd_same (.cons (.own _) (.cons (.own _) (.cons (.own _) (.cons (.own _) .nil)))) (b := false) (by simp only [PySem.W.kitAny, T.k_SizeError_BitsError, T.k_SizeError_CircuitError, T.k_SizeError_FanoutError, T.k_SizeError_MachineError]) ?_
  walk_at "go"
  refine g_isX T.x_SizeError.1 (at_new htp hx) (.ty _) T.k_SizeError_ValueError ?_
  walk_at "go"
  refine g_isX T.x_SizeError.1 (at_new htp hx) (.own _) T.k_SizeError_SizeError ?_
  walk_at "go"
  exact q _ (sm.then htp)
end

end K19
set_option maxHeartbeats 4000000
namespace K19
open PySem PySem.Spec PyProof.Rows L2 FabH He
local macro_rules | `(tactic| array_mem_dec) => `(tactic| (first | with_reducible assumption | with_reducible exact SqL.of (by array_get_dec) | with_reducible exact SqT.of (by array_get_dec) | ((repeat (with_reducible first | refine Same.seq (Same.new (by assumption)) ?_ | refine Same.tup (Same.new (by assumption)) ?_)); with_reducible assumption)))
local macro_rules | `(tactic| array_get_dec) => `(tactic| (first | with_reducible assumption | with_reducible exact upd_same | ((repeat (first | with_reducible exact upd_same | ((with_reducible apply at_new); with_reducible assumption) | ((with_reducible apply at_lstT); with_reducible assumption) | ((with_reducible apply at_lstR); with_reducible assumption) | ((with_reducible apply at_set); with_reducible assumption))); done) | ((repeat (first | ((with_reducible apply at_new); with_reducible assumption) | ((with_reducible apply at_lstT); with_reducible assumption) | ((with_reducible apply at_lstR); with_reducible assumption) | ((with_reducible apply at_set); with_reducible assumption))); with_reducible assumption)))
local macro_rules | `(tactic| walk_at "side") => `(tactic| (first | with_reducible assumption | decide | exact MOk.div (by assumption) | exact MOk.div (MOk.of (by decide) (by decide)) | (simp only [List.length_append, List.length_map, List.length_replicate, List.length_cons, List.length_nil, sizeLine_eq, CMul, CDivW, CPow]; omega) | omega))
local macro_rules | `(tactic| walk_at "st") => `(tactic| first
  | with_reducible refine g_cons ?_ | ((with_reducible apply g_var); (first | exact rfl | assumption)) | with_reducible refine g_const ?_ | with_reducible refine g_nil ?_ | with_reducible refine g_op ?_ | with_reducible refine g_rI0 ?_ | with_reducible refine g_seq ?_ | with_reducible refine g_asg ?_ | ((with_reducible refine g_name ?_); dsimp only [List.set_cons_zero, List.set_cons_succ])
  | with_reducible refine g_nx ?_ | with_reducible refine g_rt ?_ | with_reducible refine g_call ?_ | with_reducible refine g_ret ?_ | with_reducible refine g_test ?_ | with_reducible refine g_bl ?_ | with_reducible refine g_cb ?_ | with_reducible refine g_tB ?_ | with_reducible refine g_un ?_ | with_reducible refine g_rU ?_
  | with_reducible refine g_eqi ?_ | with_reducible refine g_int ?_ | with_reducible refine g_and ?_ | with_reducible refine g_or ?_ | with_reducible refine g_not ?_ | with_reducible refine g_drop ?_ | with_reducible refine g_next ?_ | with_reducible refine g_retN ?_ | with_reducible refine g_iteT ?_ | with_reducible refine g_iteF ?_ | with_reducible refine g_iteNT ?_ | with_reducible refine g_iteNF ?_
  | ((with_reducible apply g_ixL); array_mem_dec; (first | exact rfl | assumption)) | ((with_reducible apply g_ixT); array_mem_dec; (first | exact rfl | assumption)) | ((with_reducible apply g_lenL); array_mem_dec) | ((with_reducible apply g_lenT); array_mem_dec) | ((with_reducible apply g_rI); walk_at "side")
  | ((with_reducible apply g_setL); array_get_dec; (first | exact rfl | assumption)) | ((with_reducible apply g_app); array_get_dec; walk_at "side") | with_reducible refine g_tup ?_ | with_reducible refine g_lst ?_ | ((with_reducible apply g_listL); array_mem_dec) | ((with_reducible apply g_listT); array_mem_dec) | ((with_reducible apply g_tupT); array_mem_dec) | ((with_reducible apply g_tupL); array_mem_dec)
  | ((with_reducible apply g_room); walk_at "side") | with_reducible refine g_abs ?_ | with_reducible refine g_chain ?_ | with_reducible refine g_andV ?_ | with_reducible refine g_orV ?_ | with_reducible refine g_notV ?_ | with_reducible refine g_gsub ?_ | ((with_reducible apply g_gtup); array_mem_dec; (first | exact rfl | assumption)) | with_reducible refine g_gcons ?_ | with_reducible refine g_gnil ?_ | with_reducible refine g_bm ?_ | ((with_reducible apply g_tyL); array_mem_dec) | with_reducible refine g_tyS ?_
  | with_reducible refine g_callS ?_ | with_reducible refine g_nei ?_ | with_reducible refine g_eqs ?_ | with_reducible refine g_nes ?_ | with_reducible refine g_eqb ?_ | with_reducible refine g_nonI ?_ | with_reducible refine g_nonN ?_ | with_reducible refine g_nonS ?_ | with_reducible refine g_nonB ?_ | with_reducible refine g_nonR ?_ | with_reducible refine g_isBB ?_ | with_reducible refine g_isBI ?_ | with_reducible refine g_isBS ?_ | with_reducible refine g_isBR ?_ | with_reducible refine g_isBN ?_
  | with_reducible refine g_rng1 ?_ | with_reducible refine g_rng2 ?_ | ((with_reducible apply g_notInR); array_get_dec) | ((with_reducible apply g_inR); array_get_dec) | with_reducible refine g_for ?_ | with_reducible refine g_iList ?_ | with_reducible refine g_iTup ?_ | with_reducible refine g_iR1 ?_ | with_reducible refine g_iEnum ?_ | with_reducible refine g_lc ?_ | with_reducible refine g_yes ?_ | with_reducible refine g_slc ?_ | with_reducible refine g_raise ?_ | with_reducible refine g_exv ?_ | with_reducible refine g_xf ?_ | ((with_reducible apply g_xfe); array_get_dec; (first | exact rfl | assumption)) | with_reducible refine g_part ?_ | with_reducible refine g_nopart ?_ | with_reducible refine g_exi ?_ | with_reducible refine g_brk ?_ | with_reducible refine g_cnt ?_ | with_reducible refine g_bk ?_ | with_reducible refine g_ct ?_ | with_reducible refine g_if ?_
  | with_reducible refine g_augS ?_ | with_reducible refine g_nnR ?_ | with_reducible refine g_nnN ?_ | with_reducible refine g_nnI ?_ | with_reducible refine g_ipI ?_ | ((with_reducible apply g_neL); array_mem_dec; array_mem_dec) | ((with_reducible apply g_eqL); array_mem_dec; array_mem_dec) | ((with_reducible apply g_slL); array_mem_dec) | ((with_reducible apply g_atL); array_mem_dec) | ((with_reducible apply g_atT); array_mem_dec) | ((with_reducible apply g_enum); array_mem_dec) | ((with_reducible apply g_R1); walk_at "side"; walk_at "side")
  | with_reducible refine g_is_int_int ?_ | with_reducible refine g_is_int_bool ?_ | with_reducible refine g_is_int_str ?_ | with_reducible refine g_is_int_dict ?_ | with_reducible refine g_is_int_list ?_ | with_reducible refine g_is_int_tuple ?_ | with_reducible refine g_is_bool_bool ?_ | with_reducible refine g_is_bool_int ?_ | with_reducible refine g_is_str_int ?_ | with_reducible refine g_is_str_str ?_ | with_reducible refine g_is_str_dict ?_ | with_reducible refine g_is_str_list ?_ | with_reducible refine g_is_str_tuple ?_ | ((with_reducible apply g_is_list_int); array_get_dec) | ((with_reducible apply g_is_list_str); array_get_dec) | ((with_reducible apply g_is_list_dict); array_get_dec) | ((with_reducible apply g_is_list_list); array_get_dec) | ((with_reducible apply g_is_list_tuple); array_get_dec) | ((with_reducible apply g_is_tuple_int); array_get_dec) | ((with_reducible apply g_is_tuple_str); array_get_dec) | ((with_reducible apply g_is_tuple_dict); array_get_dec) | ((with_reducible apply g_is_tuple_list); array_get_dec) | ((with_reducible apply g_is_tuple_tuple); array_get_dec) | ((with_reducible apply g_ixSL); array_mem_dec; (first | exact rfl | assumption)) | ((with_reducible apply g_ixST); array_mem_dec; (first | exact rfl | assumption)))
local macro_rules | `(tactic| walk_at "go") => `(tactic| repeat first | with_reducible refine g_ifS ?_ | walk_at "st")
local macro_rules | `(tactic| walk_at "dec") => `(tactic| first | with_reducible assumption | decide | omega)
local macro_rules | `(tactic| walk_at "goD") => `(tactic| repeat first | with_reducible refine g_ifS ?_ | walk_at "st" | ((with_reducible apply g_iteY); walk_at "dec") | ((with_reducible apply g_iteX); walk_at "dec") | ((with_reducible apply g_iteNY); walk_at "dec") | ((with_reducible apply g_iteNX); walk_at "dec"))
local macro_rules | `(tactic| walk_at "goI") => `(tactic| repeat walk_at "st")
section
open FabC
variable {P : Program} {w : World} {K : PySem.W.Frag} {mg : Str → Option Value} {base : Heap}
theorem ok__law_values_refused (T : Txt P K mg) (G__law_by_base : FnOk P w K mg base CX0 5 (ga K "_law_by_base") (fdOf K "_law_by_base") ["circuit", "values"] (sp__law_by_base)) (G__law_same : FnOk P w K mg base CX0 6 (ga K "_law_same") (fdOf K "_law_same") ["told", "due"] (sp_same 4)) (G__law_told_outputs : FnOk P w K mg base CX0 5 (ga K "_law_told_outputs") (fdOf K "_law_told_outputs") ["circuit", "values"] (sp__law_told_outputs)) (G__law_told_values : FnOk P w K mg base CX0 4 (ga K "_law_told_values") (fdOf K "_law_told_values") ["circuit", "values"] (sp__law_told_values)) : FnOk P w K mg base CX0 7 (ga K "_law_values_refused") (fdOf K "_law_values_refused") ["circuit", "bits"] (sp__law_values_refused) := by
  refine T.f__law_values_refused.f.ok sc__law_values_refused (fun vs H Q E h => by obtain ⟨_, _, _, _, e, _⟩ := h; rw [e]; rfl) (fun cdv A outer s H vs Q E hr h => ⟨(d__law_values_refused T G__law_by_base (b__law_by_base T) G__law_same (b__law_same T) G__law_told_outputs (b__law_told_outputs T) G__law_told_values (b__law_told_values T) hr).1, PSs.nox (d__law_values_refused T G__law_by_base (b__law_by_base T) G__law_same (b__law_same T) G__law_told_outputs (b__law_told_outputs T) G__law_told_values (b__law_told_values T) hr).2, ?_⟩)
  dsimp only [d__law_values_refused, cxOf]
  obtain ⟨u, v, c, bs, rfl, hc, gd, ⟨lb, rfl, hb⟩, bb, ne, bl, q⟩ := h
  obtain ⟨a, ga, ea, vs0, rfl, h1, h2, h3, h4⟩ := id hc
  have f0 := gd.wf.f0
  have gf := gd.f
  obtain ⟨b0, br, rfl⟩ : ∃ b0 br, bs = b0 :: br := by
    cases bs with
    | nil => exact absurd rfl ne
    | cons x y => exact ⟨x, y, rfl⟩
  rw [show start N__law_values_refused [.ref a, .ref lb] = [some (.ref a), some (.ref lb), none, none, none, none] from rfl]
  walk_at "go"
  intro x1 y1
  walk_at "go"
  refine g_repL upd_same (by omega) (by omega) (fun x2 y2 => ?_)
  walk_at "go"
  refine g_catL (xs := List.replicate c.free.toNat (.int 0)) (ys := (b0 :: br).map V.int) upd_same (at_new y2 (at_new y1 hb)) (by rw [List.length_replicate, List.length_map, sizeLine_eq]; omega) (fun x3 y3 => ?_)
  walk_at "go"
  intro lw nw
  walk_at "goI"
  have S4 := (((Same.new (x := .lst [.int 0]) y1).then (x := .lst (List.replicate c.free.toNat (.int 0))) y2).then (x := .lst (List.replicate c.free.toNat (.int 0) ++ (b0 :: br).map V.int)) y3).then (x := .lst [.ref x3]) nw
  have hx3 : upd (upd (upd (upd H x1 (.lst [.int 0])) x2 (.lst (List.replicate c.free.toNat (.int 0)))) x3 (.lst (List.replicate c.free.toNat (.int 0) ++ (b0 :: br).map V.int))) lw (.lst [.ref x3]) x3 = some (.lst ((List.replicate c.free.toNat 0 ++ (b0 :: br)).map V.int)) := by
    rw [List.map_append, List.map_replicate]
    array_get_dec
  have hlw : upd (upd (upd (upd H x1 (.lst [.int 0])) x2 (.lst (List.replicate c.free.toNat (.int 0)))) x3 (.lst (List.replicate c.free.toNat (.int 0) ++ (b0 :: br).map V.int))) lw (.lst [.ref x3]) lw = some (.lst [.ref x3]) := upd_same
  have nx : lw ≠ x3 := fun e => by rw [e, upd_same] at nw; cases nw
  have flw : H lw = none := free_of (free_of (free_of nw))
  generalize upd (upd (upd (upd H x1 (.lst [.int 0])) x2 (.lst (List.replicate c.free.toNat (.int 0)))) x3 (.lst (List.replicate c.free.toNat (.int 0) ++ (b0 :: br).map V.int))) lw (.lst [.ref x3]) = H4 at *
  have b01 := bb b0 (by simp)
  have first : Bits (List.replicate c.free.toNat 0 ++ (b0 :: br)) := fun z hz => by
    rcases List.mem_append.mp hz with hz | hz
    · exact .inl (List.eq_of_mem_replicate hz)
    · exact bb z hz
  have flen : ((List.replicate c.free.toNat (0 : Int) ++ (b0 :: br)).length : Int) ≠ c.free ∧ (List.replicate c.free.toNat (0 : Int) ++ (b0 :: br)).length ≤ 10000 := by
    rw [List.length_append, List.length_replicate]
    simp at bl ⊢
    omega
  refine g_keep (fun σ H5 => ∃ vs : List V, σ = [some (.ref a), some (.ref lb), some (.int c.free), some (.ref lw), none, none] ∧ Same H H5 ∧ H5 lw = some (.lst vs) ∧ ∀ x ∈ vs, ∃ l xs, x = .ref l ∧ H5 l = some (.lst (xs.map V.int)) ∧ Bits xs ∧ (xs.length : Int) ≠ c.free ∧ xs.length ≤ 10000) ?_ (fun f fin => ?_)
  · rintro σ H5 ⟨vs, rfl, s5, hvs, all⟩
    walk_at "go"
    refine for_list (fun i σ H' => ∃ o4 o5, σ = [some (.ref a), some (.ref lb), some (.int c.free), some (.ref lw), o4, o5] ∧ Same H5 H') ⟨_, _, rfl, .refl _⟩ (fun i σ H' _ ⟨_, _, _, sm⟩ => .of (sm _ _ hvs)) ?_ ?_
    · rintro i x σ H6 hx ⟨o4, o5, rfl, s6⟩
      obtain ⟨l, xs, rfl, hl, xb, xn, xl⟩ := all x (List.mem_of_getElem? hx)
      have hl := s6 _ _ hl
      have hc6 := hc.same (s5.trans s6)
      walk_at "go"
      intro d nd
      have ed : upd H6 d (.tup [.str "size", .int ((xs.map V.int).length : Nat)]) d = some (.tup [.str "size", .int (xs.length : Nat)]) := by rw [upd_same, List.length_map]
      walk_at "go"
      intro p np
      walk_at "go"
      have s7 := (Same.new (x := .tup [.str "size", .int ((xs.map V.int).length : Nat)]) nd).then (x := .lst (xs.map V.int)) np
      refine ⟨_, _, c, xs, rfl, hc6.same s7, gd, ⟨p, rfl, .inl upd_same⟩, xb, xl, xn, fun w8 H8 s8 hw8 => ?_⟩
      have td : tagV H8 (.ref d) (xs.length : Nat) := ⟨d, rfl, s8 _ _ (at_new np ed)⟩
      walk_at "go"
      refine ⟨_, _, rfl, ds_tag hw8 td, ?_⟩
      have hl8 := s8 _ _ (s7 _ _ hl)
      walk_at "go"
      intro p2 np2
      walk_at "go"
      refine ⟨_, _, c, xs, rfl, hc6.same (s7.trans (s8.then np2)), gd, ⟨p2, rfl, .inr upd_same⟩, xb, xl, xn, fun w9 H9 s9 hw9 => ?_⟩
      walk_at "go"
      refine ⟨_, _, rfl, ds_tag hw9 (td.same ((Same.new np2).trans s9)), ?_⟩
      walk_at "go"
      refine ⟨_, _, c, xs, rfl, hc6.same (s7.trans ((s8.then np2).trans s9)), gd, ⟨l, rfl, .inl (s9 _ _ (at_new np2 hl8))⟩, xb, xl, xn, fun H10 s10 => ?_⟩
      walk_at "go"
      exact ⟨_, _, rfl, s6.trans (s7.trans ((s8.then np2).trans (s9.trans s10)))⟩
    · rintro σ H6 ⟨o4, o5, rfl, s6⟩
      walk_at "go"
      exact q _ (s5.trans s6)
  · have hb4 := S4 _ _ hb
    walk_at "go"
    refine g_ite (fun z => ?_) (fun z => ?_)
    · walk_at "go"
      intro p np
      walk_at "go"
      refine g_repL (by rw [upd_same, cut1]) (by omega) (by omega) (fun p2 np2 => ?_)
      have hlw2 := at_new (x := .lst (List.replicate (c.free - 1).toNat (.int b0))) np2 (at_new (x := .lst (cutV ((b0 :: br).map V.int) none (some 1))) np hlw)
      have np3 : lw ≠ p2 := ne_of_free np2 (at_new np hlw)
      walk_at "go"
      refine fin _ _ ?_
      refine ⟨_, rfl, Same.setNew (S4.trans ((Same.new np).then np2)) flw, upd_same, fun x hx => ?_⟩
      have hx : x = .ref x3 ∨ x = .ref p2 := by simpa using hx
      rcases hx with rfl | rfl
      · exact ⟨x3, _, rfl, at_set nx.symm (at_new np2 (at_new np hx3)), first, flen⟩
      · refine ⟨p2, List.replicate (c.free - 1).toNat b0, rfl, ?_, fun y hy => by rw [List.eq_of_mem_replicate hy]; exact b01, by rw [List.length_replicate]; omega, by rw [List.length_replicate]; omega⟩
        rw [List.map_replicate]
        exact at_set np3.symm upd_same
    · walk_at "go"
      refine fin _ _ ?_
      refine ⟨_, rfl, S4, hlw, fun x hx => ?_⟩
      have hx : x = .ref x3 := by simpa using hx
      subst hx
      exact ⟨x3, _, rfl, hx3, first, flen⟩
end

end K19
set_option maxHeartbeats 4000000
namespace K19
open PySem PySem.Spec PyProof.Rows L2 FabH He
local macro_rules | `(tactic| array_mem_dec) => `(tactic| (first | with_reducible assumption | with_reducible exact SqL.of (by array_get_dec) | with_reducible exact SqT.of (by array_get_dec) | ((repeat (with_reducible first | refine Same.seq (Same.new (by assumption)) ?_ | refine Same.tup (Same.new (by assumption)) ?_)); with_reducible assumption)))
local macro_rules | `(tactic| array_get_dec) => `(tactic| (first | with_reducible assumption | with_reducible exact upd_same | ((repeat (first | with_reducible exact upd_same | ((with_reducible apply at_new); with_reducible assumption) | ((with_reducible apply at_lstT); with_reducible assumption) | ((with_reducible apply at_lstR); with_reducible assumption) | ((with_reducible apply at_set); with_reducible assumption))); done) | ((repeat (first | ((with_reducible apply at_new); with_reducible assumption) | ((with_reducible apply at_lstT); with_reducible assumption) | ((with_reducible apply at_lstR); with_reducible assumption) | ((with_reducible apply at_set); with_reducible assumption))); with_reducible assumption)))
local macro_rules | `(tactic| walk_at "side") => `(tactic| (first | with_reducible assumption | decide | exact MOk.div (by assumption) | exact MOk.div (MOk.of (by decide) (by decide)) | (simp only [List.length_append, List.length_map, List.length_replicate, List.length_cons, List.length_nil, sizeLine_eq, CMul, CDivW, CPow]; omega) | omega))
local macro_rules | `(tactic| walk_at "st") => `(tactic| first
  | with_reducible refine g_cons ?_ | ((with_reducible apply g_var); (first | exact rfl | assumption)) | with_reducible refine g_const ?_ | with_reducible refine g_nil ?_ | with_reducible refine g_op ?_ | with_reducible refine g_rI0 ?_ | with_reducible refine g_seq ?_ | with_reducible refine g_asg ?_ | ((with_reducible refine g_name ?_); dsimp only [List.set_cons_zero, List.set_cons_succ])
  | with_reducible refine g_nx ?_ | with_reducible refine g_rt ?_ | with_reducible refine g_call ?_ | with_reducible refine g_ret ?_ | with_reducible refine g_test ?_ | with_reducible refine g_bl ?_ | with_reducible refine g_cb ?_ | with_reducible refine g_tB ?_ | with_reducible refine g_un ?_ | with_reducible refine g_rU ?_
  | with_reducible refine g_eqi ?_ | with_reducible refine g_int ?_ | with_reducible refine g_and ?_ | with_reducible refine g_or ?_ | with_reducible refine g_not ?_ | with_reducible refine g_drop ?_ | with_reducible refine g_next ?_ | with_reducible refine g_retN ?_ | with_reducible refine g_iteT ?_ | with_reducible refine g_iteF ?_ | with_reducible refine g_iteNT ?_ | with_reducible refine g_iteNF ?_
  | ((with_reducible apply g_ixL); array_mem_dec; (first | exact rfl | assumption)) | ((with_reducible apply g_ixT); array_mem_dec; (first | exact rfl | assumption)) | ((with_reducible apply g_lenL); array_mem_dec) | ((with_reducible apply g_lenT); array_mem_dec) | ((with_reducible apply g_rI); walk_at "side")
  | ((with_reducible apply g_setL); array_get_dec; (first | exact rfl | assumption)) | ((with_reducible apply g_app); array_get_dec; walk_at "side") | with_reducible refine g_tup ?_ | with_reducible refine g_lst ?_ | ((with_reducible apply g_listL); array_mem_dec) | ((with_reducible apply g_listT); array_mem_dec) | ((with_reducible apply g_tupT); array_mem_dec) | ((with_reducible apply g_tupL); array_mem_dec)
  | ((with_reducible apply g_room); walk_at "side") | with_reducible refine g_abs ?_ | with_reducible refine g_chain ?_ | with_reducible refine g_andV ?_ | with_reducible refine g_orV ?_ | with_reducible refine g_notV ?_ | with_reducible refine g_gsub ?_ | ((with_reducible apply g_gtup); array_mem_dec; (first | exact rfl | assumption)) | with_reducible refine g_gcons ?_ | with_reducible refine g_gnil ?_ | with_reducible refine g_bm ?_ | ((with_reducible apply g_tyL); array_mem_dec) | with_reducible refine g_tyS ?_
  | with_reducible refine g_callS ?_ | with_reducible refine g_nei ?_ | with_reducible refine g_eqs ?_ | with_reducible refine g_nes ?_ | with_reducible refine g_eqb ?_ | with_reducible refine g_nonI ?_ | with_reducible refine g_nonN ?_ | with_reducible refine g_nonS ?_ | with_reducible refine g_nonB ?_ | with_reducible refine g_nonR ?_ | with_reducible refine g_isBB ?_ | with_reducible refine g_isBI ?_ | with_reducible refine g_isBS ?_ | with_reducible refine g_isBR ?_ | with_reducible refine g_isBN ?_
  | with_reducible refine g_rng1 ?_ | with_reducible refine g_rng2 ?_ | ((with_reducible apply g_notInR); array_get_dec) | ((with_reducible apply g_inR); array_get_dec) | with_reducible refine g_for ?_ | with_reducible refine g_iList ?_ | with_reducible refine g_iTup ?_ | with_reducible refine g_iR1 ?_ | with_reducible refine g_iEnum ?_ | with_reducible refine g_lc ?_ | with_reducible refine g_yes ?_ | with_reducible refine g_slc ?_ | with_reducible refine g_raise ?_ | with_reducible refine g_exv ?_ | with_reducible refine g_xf ?_ | ((with_reducible apply g_xfe); array_get_dec; (first | exact rfl | assumption)) | with_reducible refine g_part ?_ | with_reducible refine g_nopart ?_ | with_reducible refine g_exi ?_ | with_reducible refine g_brk ?_ | with_reducible refine g_cnt ?_ | with_reducible refine g_bk ?_ | with_reducible refine g_ct ?_ | with_reducible refine g_if ?_
  | with_reducible refine g_augS ?_ | with_reducible refine g_nnR ?_ | with_reducible refine g_nnN ?_ | with_reducible refine g_nnI ?_ | with_reducible refine g_ipI ?_ | ((with_reducible apply g_neL); array_mem_dec; array_mem_dec) | ((with_reducible apply g_eqL); array_mem_dec; array_mem_dec) | ((with_reducible apply g_slL); array_mem_dec) | ((with_reducible apply g_atL); array_mem_dec) | ((with_reducible apply g_atT); array_mem_dec) | ((with_reducible apply g_enum); array_mem_dec) | ((with_reducible apply g_R1); walk_at "side"; walk_at "side")
  | with_reducible refine g_is_int_int ?_ | with_reducible refine g_is_int_bool ?_ | with_reducible refine g_is_int_str ?_ | with_reducible refine g_is_int_dict ?_ | with_reducible refine g_is_int_list ?_ | with_reducible refine g_is_int_tuple ?_ | with_reducible refine g_is_bool_bool ?_ | with_reducible refine g_is_bool_int ?_ | with_reducible refine g_is_str_int ?_ | with_reducible refine g_is_str_str ?_ | with_reducible refine g_is_str_dict ?_ | with_reducible refine g_is_str_list ?_ | with_reducible refine g_is_str_tuple ?_ | ((with_reducible apply g_is_list_int); array_get_dec) | ((with_reducible apply g_is_list_str); array_get_dec) | ((with_reducible apply g_is_list_dict); array_get_dec) | ((with_reducible apply g_is_list_list); array_get_dec) | ((with_reducible apply g_is_list_tuple); array_get_dec) | ((with_reducible apply g_is_tuple_int); array_get_dec) | ((with_reducible apply g_is_tuple_str); array_get_dec) | ((with_reducible apply g_is_tuple_dict); array_get_dec) | ((with_reducible apply g_is_tuple_list); array_get_dec) | ((with_reducible apply g_is_tuple_tuple); array_get_dec) | ((with_reducible apply g_ixSL); array_mem_dec; (first | exact rfl | assumption)) | ((with_reducible apply g_ixST); array_mem_dec; (first | exact rfl | assumption)))
local macro_rules | `(tactic| walk_at "go") => `(tactic| repeat first | with_reducible refine g_ifS ?_ | walk_at "st")
local macro_rules | `(tactic| walk_at "dec") => `(tactic| first | with_reducible assumption | decide | omega)
local macro_rules | `(tactic| walk_at "goD") => `(tactic| repeat first | with_reducible refine g_ifS ?_ | walk_at "st" | ((with_reducible apply g_iteY); walk_at "dec") | ((with_reducible apply g_iteX); walk_at "dec") | ((with_reducible apply g_iteNY); walk_at "dec") | ((with_reducible apply g_iteNX); walk_at "dec"))
local macro_rules | `(tactic| walk_at "goI") => `(tactic| repeat walk_at "st")
section
open FabC
variable {P : Program} {w : World} {K : PySem.W.Frag} {mg : Str → Option Value} {base : Heap}
theorem ok__law_sizes_refused (T : Txt P K mg) (G__law_same : FnOk P w K mg base CX0 6 (ga K "_law_same") (fdOf K "_law_same") ["told", "due"] (sp_same 4)) (G__law_told_difference : FnOk P w K mg base CX0 6 (ga K "_law_told_difference") (fdOf K "_law_told_difference") ["one", "two"] (sp__law_told_difference)) (G__law_told_table : FnOk P w K mg base CX0 6 (ga K "_law_told_table") (fdOf K "_law_told_table") ["circuit"] (sp__law_told_table)) : FnOk P w K mg base CX0 7 (ga K "_law_sizes_refused") (fdOf K "_law_sizes_refused") ["circuit", "far", "unlike"] (sp__law_sizes_refused) := by
  refine T.f__law_sizes_refused.f.ok sc__law_sizes_refused (fun vs H Q E h => by obtain ⟨_, _, _, _, _, _, e, _⟩ := h; rw [e]; rfl) (fun cdv A outer s H vs Q E hr h => ⟨(d__law_sizes_refused T G__law_same (b__law_same T) G__law_told_difference (b__law_told_difference T) G__law_told_table (b__law_told_table T) hr).1, PSs.nox (d__law_sizes_refused T G__law_same (b__law_same T) G__law_told_difference (b__law_told_difference T) G__law_told_table (b__law_told_table T) hr).2, ?_⟩)
  dsimp only [d__law_sizes_refused, cxOf]
  obtain ⟨u, f, v, c, far, d, rfl, hc, gc, hf, gf, hd, gd, fine, wide, nd, ce, q⟩ := h
  obtain ⟨a, ga, ea, vs, rfl, h1, h2, h3, h4⟩ := id hc
  obtain ⟨fa', gfa, efa, fvs, rfl, f1, f2, f3, f4⟩ := id hf
  obtain ⟨da, gda, eda, dvs, rfl, d1, d2, d3, d4⟩ := id hd
  have c0 := gc.wf.f0
  have cf := gc.f
  rw [show start N__law_sizes_refused [.ref a, .ref fa', .ref da] = [some (.ref a), some (.ref fa'), some (.ref da), none, none] from rfl]
  walk_at "go"
  intro x1 y1
  walk_at "go"
  refine g_cat2 (at_new y1 h4) upd_same (by rw [List.length_map, sizeLine_eq]; simp; omega) (fun p2 H2 s2 e2 => ?_)
  have S2 := (Same.new (x := .tup [.int (-1)]) y1).trans s2
  have h1' := S2 _ _ h1
  have h2' := S2 _ _ h2
  walk_at "go"
  intro pl npl
  walk_at "go"
  have ee : c.ends.map V.int ++ [.int (-1)] = (c.ends ++ [-1]).map V.int := by simp
  have hlong : cV (upd H2 pl (.tup [.int c.free, .ref ga, .ref p2])) (.ref pl) ⟨c.free, c.gates, c.ends ++ [-1]⟩ := cV.mk upd_same (at_new npl h2') (h3.same (S2.then npl)) (by rw [← ee]; exact at_new npl e2)
  have glong : Good ⟨c.free, c.gates, c.ends ++ [-1]⟩ := ⟨⟨c0, gc.wf.g, fun i z h => by
    rcases snoc_get h with h | ⟨_, rfl⟩
    · exact gc.wf.e i z h
    · exact wireOk_iff.mpr (by dsimp only; omega)⟩, cf, gc.g, by simp; omega⟩
  have S3 := S2.then (x := .tup [.int c.free, .ref ga, .ref p2]) npl
  have hp2 : upd H2 pl (.tup [.int c.free, .ref ga, .ref p2]) p2 = some (.tup (c.ends.map V.int ++ [.int (-1)])) := at_new npl e2
  have hpl : upd H2 pl (.tup [.int c.free, .ref ga, .ref p2]) pl = some (.tup [.int c.free, .ref ga, .ref p2]) := upd_same
  generalize upd H2 pl (.tup [.int c.free, .ref ga, .ref p2]) = H3 at *
  refine ⟨_, far, rfl, hf.same S3, gf, wide, fun w4 H4 s4 hw4 => ?_⟩
  have f1' := s4 _ _ (S3 _ _ f1)
  walk_at "go"
  intro t4 n4
  walk_at "go"
  refine ⟨_, _, rfl, ds_tag (hw4.same (.new n4)) ⟨t4, rfl, upd_same⟩, ?_⟩
  walk_at "go"
  intro l5 n5
  walk_at "go"
  have S5 := (s4.then (x := .tup [.str "size", .int far.free]) n4).then (x := .lst [.ref fa', .ref da, .ref a]) n5
  have hl5 : upd (upd H4 t4 (.tup [.str "size", .int far.free])) l5 (.lst [.ref fa', .ref da, .ref a]) l5 = some (.lst [.ref fa', .ref da, .ref a]) := upd_same
  generalize upd (upd H4 t4 (.tup [.str "size", .int far.free])) l5 (.lst [.ref fa', .ref da, .ref a]) = H5 at *
  refine for_list (fun i σ H' => ∃ o4, σ = [some (.ref a), some (.ref fa'), some (.ref da), some (.ref pl), o4] ∧ Same H5 H') ⟨_, rfl, .refl _⟩ (fun i σ H' _ ⟨_, _, sm⟩ => .of (sm _ _ hl5)) ?_ ?_
  · rintro i x σ H6 hx ⟨o4, rfl, s6⟩
    have S6 := S3.trans (S5.trans s6)
    have pick : ∃ e, cV H6 x e ∧ Good e := by
      match i, hx with
      | 0, hx => cases hx; exact ⟨far, hf.same S6, gf⟩
      | 1, hx => cases hx; exact ⟨d, hd.same S6, gd⟩
      | 2, hx => cases hx; exact ⟨c, hc.same S6, gc⟩
    obtain ⟨e, he, ge⟩ := pick
    walk_at "go"
    refine ⟨_, _, far, e, far.free, rfl, hf.same S6, gf, he, ge, by unfold unlikeOf; rw [if_pos wide], fun w7 H7 s7 hw7 => ?_⟩
    have f1'' := s7 _ _ (S6 _ _ f1)
    walk_at "go"
    intro t n
    walk_at "go"
    refine ⟨_, _, rfl, ds_tag (hw7.same (.new n)) ⟨t, rfl, upd_same⟩, ?_⟩
    walk_at "go"
    exact ⟨_, rfl, s6.trans (s7.then n)⟩
  rintro σ H6 ⟨o4, rfl, s6⟩
  walk_at "go"
  intro l7 n7
  walk_at "go"
  have S7 := S3.trans (S5.trans (s6.then (x := .lst [.ref fa', .ref da]) n7))
  have S37 := S5.trans (s6.then (x := .lst [.ref fa', .ref da]) n7)
  have hl7 : upd H6 l7 (.lst [.ref fa', .ref da]) l7 = some (.lst [.ref fa', .ref da]) := upd_same
  generalize upd H6 l7 (.lst [.ref fa', .ref da]) = H7 at *
  refine for_list (fun i σ H' => ∃ o4, σ = [some (.ref a), some (.ref fa'), some (.ref da), some (.ref pl), o4] ∧ Same H7 H') ⟨_, rfl, .refl _⟩ (fun i σ H' _ ⟨_, _, sm⟩ => .of (sm _ _ hl7)) ?_ ?_
  · rintro i x σ H8 hx ⟨o4, rfl, s8⟩
    have S8 := S7.trans s8
    have pick : ∃ (e : Circ) (t g k : Addr), x = .ref t ∧ H8 t = some (.tup [.int e.free, .ref g, .ref k]) ∧ cV H8 x e ∧ Good e ∧ e.free ≠ c.free := by
      match i, hx with
      | 0, hx => cases hx; exact ⟨far, fa', _, _, rfl, S8 _ _ f1, hf.same S8, gf, by omega⟩
      | 1, hx => cases hx; exact ⟨d, da, _, _, rfl, S8 _ _ d1, hd.same S8, gd, nd⟩
    obtain ⟨e, t0, g0, k0, rfl, ht0, he, ge, ne⟩ := pick
    walk_at "go"
    refine ⟨_, _, c, e, e.free, rfl, hc.same S8, gc, he, ge, by unfold unlikeOf; rw [if_neg (by omega), if_pos ne], fun w9 H9 s9 hw9 => ?_⟩
    have ht9 := s9 _ _ ht0
    walk_at "go"
    intro t n
    walk_at "go"
    refine ⟨_, _, rfl, ds_tag (hw9.same (.new n)) ⟨t, rfl, upd_same⟩, ?_⟩
    walk_at "go"
    exact ⟨_, rfl, s8.trans (s9.then n)⟩
  rintro σ H8 ⟨o4, rfl, s8⟩
  have S8 := S7.trans s8
  have S38 := S37.trans s8
  have ll : (c.ends ++ [-1]).length = c.ends.length + 1 := by simp
  walk_at "go"
  refine ⟨_, _, c, ⟨c.free, c.gates, c.ends ++ [-1]⟩, ((c.ends ++ [-1]).length : Nat), rfl, hc.same S8, gc, hlong.same S38, glong, by unfold unlikeOf; rw [if_neg (by omega), if_neg (by simp), if_pos (by simp)], fun w9 H9 s9 hw9 => ?_⟩
  have hpl9 := s9 _ _ (S38 _ _ hpl)
  have hp29 := s9 _ _ (S38 _ _ hp2)
  walk_at "go"
  intro t n
  walk_at "go"
  refine ⟨_, _, rfl, ds_tag (hw9.same (.new n)) ⟨t, rfl, by rw [upd_same]; simp⟩, ?_⟩
  walk_at "go"
  have S10 : Same H8 (upd H9 t (.tup [.str "size", .int ((c.ends.map V.int ++ [V.int (-1)]).length : Nat)])) := s9.then n
  generalize upd H9 t (.tup [.str "size", .int ((c.ends.map V.int ++ [V.int (-1)]).length : Nat)]) = H10 at *
  refine ⟨_, _, ⟨c.free, c.gates, c.ends ++ [-1]⟩, c, (c.ends.length : Nat), rfl, hlong.same (S38.trans S10), glong, hc.same (S8.trans S10), gc, by unfold unlikeOf; rw [if_neg (by dsimp only; omega), if_neg (by simp), if_pos (by simp)], fun w11 H11 s11 hw11 => ?_⟩
  have h1' := s11 _ _ (S10 _ _ (S8 _ _ h1))
  have h4' := s11 _ _ (S10 _ _ (S8 _ _ h4))
  walk_at "go"
  intro t2 n2
  walk_at "go"
  refine ⟨_, _, rfl, ds_tag (hw11.same (.new n2)) ⟨t2, rfl, by rw [upd_same]; simp⟩, ?_⟩
  walk_at "go"
  exact q _ (S8.trans (S10.trans (s11.then n2)))
end

end K19
set_option maxHeartbeats 4000000
namespace K19
open PySem PySem.Spec PyProof.Rows L2 FabH He
local macro_rules | `(tactic| array_mem_dec) => `(tactic| (first | with_reducible assumption | with_reducible exact SqL.of (by array_get_dec) | with_reducible exact SqT.of (by array_get_dec) | ((repeat (with_reducible first | refine Same.seq (Same.new (by assumption)) ?_ | refine Same.tup (Same.new (by assumption)) ?_)); with_reducible assumption)))
local macro_rules | `(tactic| array_get_dec) => `(tactic| (first | with_reducible assumption | with_reducible exact upd_same | ((repeat (first | with_reducible exact upd_same | ((with_reducible apply at_new); with_reducible assumption) | ((with_reducible apply at_lstT); with_reducible assumption) | ((with_reducible apply at_lstR); with_reducible assumption) | ((with_reducible apply at_set); with_reducible assumption))); done) | ((repeat (first | ((with_reducible apply at_new); with_reducible assumption) | ((with_reducible apply at_lstT); with_reducible assumption) | ((with_reducible apply at_lstR); with_reducible assumption) | ((with_reducible apply at_set); with_reducible assumption))); with_reducible assumption)))
local macro_rules | `(tactic| walk_at "side") => `(tactic| (first | with_reducible assumption | decide | exact MOk.div (by assumption) | exact MOk.div (MOk.of (by decide) (by decide)) | (simp only [List.length_append, List.length_map, List.length_replicate, List.length_cons, List.length_nil, sizeLine_eq, CMul, CDivW, CPow]; omega) | omega))
local macro_rules | `(tactic| walk_at "st") => `(tactic| first
  | with_reducible refine g_cons ?_ | ((with_reducible apply g_var); (first | exact rfl | assumption)) | with_reducible refine g_const ?_ | with_reducible refine g_nil ?_ | with_reducible refine g_op ?_ | with_reducible refine g_rI0 ?_ | with_reducible refine g_seq ?_ | with_reducible refine g_asg ?_ | ((with_reducible refine g_name ?_); dsimp only [List.set_cons_zero, List.set_cons_succ])
  | with_reducible refine g_nx ?_ | with_reducible refine g_rt ?_ | with_reducible refine g_call ?_ | with_reducible refine g_ret ?_ | with_reducible refine g_test ?_ | with_reducible refine g_bl ?_ | with_reducible refine g_cb ?_ | with_reducible refine g_tB ?_ | with_reducible refine g_un ?_ | with_reducible refine g_rU ?_
  | with_reducible refine g_eqi ?_ | with_reducible refine g_int ?_ | with_reducible refine g_and ?_ | with_reducible refine g_or ?_ | with_reducible refine g_not ?_ | with_reducible refine g_drop ?_ | with_reducible refine g_next ?_ | with_reducible refine g_retN ?_ | with_reducible refine g_iteT ?_ | with_reducible refine g_iteF ?_ | with_reducible refine g_iteNT ?_ | with_reducible refine g_iteNF ?_
  | ((with_reducible apply g_ixL); array_mem_dec; (first | exact rfl | assumption)) | ((with_reducible apply g_ixT); array_mem_dec; (first | exact rfl | assumption)) | ((with_reducible apply g_lenL); array_mem_dec) | ((with_reducible apply g_lenT); array_mem_dec) | ((with_reducible apply g_rI); walk_at "side")
  | ((with_reducible apply g_setL); array_get_dec; (first | exact rfl | assumption)) | ((with_reducible apply g_app); array_get_dec; walk_at "side") | with_reducible refine g_tup ?_ | with_reducible refine g_lst ?_ | ((with_reducible apply g_listL); array_mem_dec) | ((with_reducible apply g_listT); array_mem_dec) | ((with_reducible apply g_tupT); array_mem_dec) | ((with_reducible apply g_tupL); array_mem_dec)
  | ((with_reducible apply g_room); walk_at "side") | with_reducible refine g_abs ?_ | with_reducible refine g_chain ?_ | with_reducible refine g_andV ?_ | with_reducible refine g_orV ?_ | with_reducible refine g_notV ?_ | with_reducible refine g_gsub ?_ | ((with_reducible apply g_gtup); array_mem_dec; (first | exact rfl | assumption)) | with_reducible refine g_gcons ?_ | with_reducible refine g_gnil ?_ | with_reducible refine g_bm ?_ | ((with_reducible apply g_tyL); array_mem_dec) | with_reducible refine g_tyS ?_
  | with_reducible refine g_callS ?_ | with_reducible refine g_nei ?_ | with_reducible refine g_eqs ?_ | with_reducible refine g_nes ?_ | with_reducible refine g_eqb ?_ | with_reducible refine g_nonI ?_ | with_reducible refine g_nonN ?_ | with_reducible refine g_nonS ?_ | with_reducible refine g_nonB ?_ | with_reducible refine g_nonR ?_ | with_reducible refine g_isBB ?_ | with_reducible refine g_isBI ?_ | with_reducible refine g_isBS ?_ | with_reducible refine g_isBR ?_ | with_reducible refine g_isBN ?_
  | with_reducible refine g_rng1 ?_ | with_reducible refine g_rng2 ?_ | ((with_reducible apply g_notInR); array_get_dec) | ((with_reducible apply g_inR); array_get_dec) | with_reducible refine g_for ?_ | with_reducible refine g_iList ?_ | with_reducible refine g_iTup ?_ | with_reducible refine g_iR1 ?_ | with_reducible refine g_iEnum ?_ | with_reducible refine g_lc ?_ | with_reducible refine g_yes ?_ | with_reducible refine g_slc ?_ | with_reducible refine g_raise ?_ | with_reducible refine g_exv ?_ | with_reducible refine g_xf ?_ | ((with_reducible apply g_xfe); array_get_dec; (first | exact rfl | assumption)) | with_reducible refine g_part ?_ | with_reducible refine g_nopart ?_ | with_reducible refine g_exi ?_ | with_reducible refine g_brk ?_ | with_reducible refine g_cnt ?_ | with_reducible refine g_bk ?_ | with_reducible refine g_ct ?_ | with_reducible refine g_if ?_
  | with_reducible refine g_augS ?_ | with_reducible refine g_nnR ?_ | with_reducible refine g_nnN ?_ | with_reducible refine g_nnI ?_ | with_reducible refine g_ipI ?_ | ((with_reducible apply g_neL); array_mem_dec; array_mem_dec) | ((with_reducible apply g_eqL); array_mem_dec; array_mem_dec) | ((with_reducible apply g_slL); array_mem_dec) | ((with_reducible apply g_atL); array_mem_dec) | ((with_reducible apply g_atT); array_mem_dec) | ((with_reducible apply g_enum); array_mem_dec) | ((with_reducible apply g_R1); walk_at "side"; walk_at "side")
  | with_reducible refine g_is_int_int ?_ | with_reducible refine g_is_int_bool ?_ | with_reducible refine g_is_int_str ?_ | with_reducible refine g_is_int_dict ?_ | with_reducible refine g_is_int_list ?_ | with_reducible refine g_is_int_tuple ?_ | with_reducible refine g_is_bool_bool ?_ | with_reducible refine g_is_bool_int ?_ | with_reducible refine g_is_str_int ?_ | with_reducible refine g_is_str_str ?_ | with_reducible refine g_is_str_dict ?_ | with_reducible refine g_is_str_list ?_ | with_reducible refine g_is_str_tuple ?_ | ((with_reducible apply g_is_list_int); array_get_dec) | ((with_reducible apply g_is_list_str); array_get_dec) | ((with_reducible apply g_is_list_dict); array_get_dec) | ((with_reducible apply g_is_list_list); array_get_dec) | ((with_reducible apply g_is_list_tuple); array_get_dec) | ((with_reducible apply g_is_tuple_int); array_get_dec) | ((with_reducible apply g_is_tuple_str); array_get_dec) | ((with_reducible apply g_is_tuple_dict); array_get_dec) | ((with_reducible apply g_is_tuple_list); array_get_dec) | ((with_reducible apply g_is_tuple_tuple); array_get_dec) | ((with_reducible apply g_ixSL); array_mem_dec; (first | exact rfl | assumption)) | ((with_reducible apply g_ixST); array_mem_dec; (first | exact rfl | assumption)))
local macro_rules | `(tactic| walk_at "go") => `(tactic| repeat first | with_reducible refine g_ifS ?_ | walk_at "st")
local macro_rules | `(tactic| walk_at "dec") => `(tactic| first | with_reducible assumption | decide | omega)
local macro_rules | `(tactic| walk_at "goD") => `(tactic| repeat first | with_reducible refine g_ifS ?_ | walk_at "st" | ((with_reducible apply g_iteY); walk_at "dec") | ((with_reducible apply g_iteX); walk_at "dec") | ((with_reducible apply g_iteNY); walk_at "dec") | ((with_reducible apply g_iteNX); walk_at "dec"))
local macro_rules | `(tactic| walk_at "goI") => `(tactic| repeat walk_at "st")
section
open FabC
variable {P : Program} {w : World} {K : PySem.W.Frag} {mg : Str → Option Value} {base : Heap}
theorem ok__law_wide_refused (T : Txt P K mg) (G__law_same : FnOk P w K mg base CX0 6 (ga K "_law_same") (fdOf K "_law_same") ["told", "due"] (sp_same 4)) (G__law_told_difference : FnOk P w K mg base CX0 6 (ga K "_law_told_difference") (fdOf K "_law_told_difference") ["one", "two"] (sp__law_told_difference)) (G__law_told_table : FnOk P w K mg base CX0 6 (ga K "_law_told_table") (fdOf K "_law_told_table") ["circuit"] (sp__law_told_table)) : FnOk P w K mg base CX0 7 (ga K "_law_wide_refused") (fdOf K "_law_wide_refused") ["circuit", "other", "unlike"] (sp__law_wide_refused) := by
  refine T.f__law_wide_refused.f.ok sc__law_wide_refused (fun vs H Q E h => by obtain ⟨_, _, _, _, _, _, e, _⟩ := h; rw [e]; rfl) (fun cdv A outer s H vs Q E hr h => ⟨(d__law_wide_refused T G__law_same (b__law_same T) G__law_told_difference (b__law_told_difference T) G__law_told_table (b__law_told_table T) hr).1, PSs.nox (d__law_wide_refused T G__law_same (b__law_same T) G__law_told_difference (b__law_told_difference T) G__law_told_table (b__law_told_table T) hr).2, ?_⟩)
  dsimp only [d__law_wide_refused, cxOf]
  obtain ⟨u, o, v, c, e, d, rfl, hc, gc, he, ge, hd, gd, wide, nd, q⟩ := h
  obtain ⟨a, ga, ea, vs, rfl, h1, h2, h3, h4⟩ := id hc
  obtain ⟨da, gda, eda, dvs, rfl, d1, d2, d3, d4⟩ := id hd
  rw [show start N__law_wide_refused [.ref a, o, .ref da] = [some (.ref a), some (o), some (.ref da), none] from rfl]
  walk_at "go"
  intro t nt
  walk_at "go"
  have S1 : Same H (upd H t (.tup [.str "size", .int c.free])) := .new nt
  have td : tagV (upd H t (.tup [.str "size", .int c.free])) (.ref t) c.free := ⟨t, rfl, upd_same⟩
  generalize upd H t (.tup [.str "size", .int c.free]) = H1 at *
  refine ⟨_, c, rfl, hc.same S1, gc, wide, fun w2 H2 s2 hw2 => ?_⟩
  walk_at "go"
  refine ⟨_, _, rfl, ds_tag hw2 (td.same s2), ?_⟩
  walk_at "go"
  refine ⟨_, _, c, e, c.free, rfl, hc.same (S1.trans s2), gc, he.same (S1.trans s2), ge, by unfold unlikeOf; rw [if_pos wide], fun w3 H3 s3 hw3 => ?_⟩
  walk_at "go"
  refine ⟨_, _, rfl, ds_tag hw3 (td.same (s2.trans s3)), ?_⟩
  walk_at "go"
  have S3 := S1.trans (s2.trans s3)
  refine ⟨_, _, c, d, c.free, rfl, hc.same S3, gc, hd.same S3, gd, by unfold unlikeOf; rw [if_pos wide], fun w4 H4 s4 hw4 => ?_⟩
  have td4 := td.same (s2.trans (s3.trans s4))
  have S4 := S3.trans s4
  have d1' := S4 _ _ d1
  walk_at "go"
  refine ⟨_, _, rfl, ds_tag hw4 td4, ?_⟩
  walk_at "goI"
  refine g_keep (fun σ H5 => ∃ due n, σ = [some (.ref a), some o, some (.ref da), some due] ∧ Same H4 H5 ∧ tagV H5 due n ∧ unlikeOf d c = some n) ?_ (fun f fin => ?_)
  · rintro σ H5 ⟨due, n, rfl, s5, ht, un⟩
    walk_at "go"
    refine ⟨_, _, d, c, n, rfl, hd.same (S4.trans s5), gd, hc.same (S4.trans s5), gc, un, fun w6 H6 s6 hw6 => ?_⟩
    walk_at "go"
    refine ⟨_, _, rfl, ds_tag hw6 (ht.same s6), ?_⟩
    walk_at "go"
    exact q _ (S4.trans (s5.trans s6))
  · walk_at "go"
    refine g_ite (fun z => ?_) (fun z => ?_)
    · walk_at "go"
      intro t2 n2
      walk_at "go"
      refine fin _ _ ?_
      exact ⟨_, d.free, rfl, .new n2, ⟨t2, rfl, upd_same⟩, by unfold unlikeOf; rw [if_pos z]⟩
    · walk_at "go"
      refine fin _ _ ?_
      exact ⟨_, c.free, rfl, .refl _, td4, by unfold unlikeOf; rw [if_neg z, if_pos (Ne.symm nd)]⟩
end

end K19
set_option maxHeartbeats 4000000
namespace K19
open PySem PySem.Spec PyProof.Rows L2 FabH He
local macro_rules | `(tactic| array_mem_dec) => `(tactic| (first | with_reducible assumption | with_reducible exact SqL.of (by array_get_dec) | with_reducible exact SqT.of (by array_get_dec) | ((repeat (with_reducible first | refine Same.seq (Same.new (by assumption)) ?_ | refine Same.tup (Same.new (by assumption)) ?_)); with_reducible assumption)))
local macro_rules | `(tactic| array_get_dec) => `(tactic| (first | with_reducible assumption | with_reducible exact upd_same | ((repeat (first | with_reducible exact upd_same | ((with_reducible apply at_new); with_reducible assumption) | ((with_reducible apply at_lstT); with_reducible assumption) | ((with_reducible apply at_lstR); with_reducible assumption) | ((with_reducible apply at_set); with_reducible assumption))); done) | ((repeat (first | ((with_reducible apply at_new); with_reducible assumption) | ((with_reducible apply at_lstT); with_reducible assumption) | ((with_reducible apply at_lstR); with_reducible assumption) | ((with_reducible apply at_set); with_reducible assumption))); with_reducible assumption)))
local macro_rules | `(tactic| walk_at "side") => `(tactic| (first | with_reducible assumption | decide | exact MOk.div (by assumption) | exact MOk.div (MOk.of (by decide) (by decide)) | (simp only [List.length_append, List.length_map, List.length_replicate, List.length_cons, List.length_nil, sizeLine_eq, CMul, CDivW, CPow]; omega) | omega))
local macro_rules | `(tactic| walk_at "st") => `(tactic| first
  | with_reducible refine g_cons ?_ | ((with_reducible apply g_var); (first | exact rfl | assumption)) | with_reducible refine g_const ?_ | with_reducible refine g_nil ?_ | with_reducible refine g_op ?_ | with_reducible refine g_rI0 ?_ | with_reducible refine g_seq ?_ | with_reducible refine g_asg ?_ | ((with_reducible refine g_name ?_); dsimp only [List.set_cons_zero, List.set_cons_succ])
  | with_reducible refine g_nx ?_ | with_reducible refine g_rt ?_ | with_reducible refine g_call ?_ | with_reducible refine g_ret ?_ | with_reducible refine g_test ?_ | with_reducible refine g_bl ?_ | with_reducible refine g_cb ?_ | with_reducible refine g_tB ?_ | with_reducible refine g_un ?_ | with_reducible refine g_rU ?_
  | with_reducible refine g_eqi ?_ | with_reducible refine g_int ?_ | with_reducible refine g_and ?_ | with_reducible refine g_or ?_ | with_reducible refine g_not ?_ | with_reducible refine g_drop ?_ | with_reducible refine g_next ?_ | with_reducible refine g_retN ?_ | with_reducible refine g_iteT ?_ | with_reducible refine g_iteF ?_ | with_reducible refine g_iteNT ?_ | with_reducible refine g_iteNF ?_
  | ((with_reducible apply g_ixL); array_mem_dec; (first | exact rfl | assumption)) | ((with_reducible apply g_ixT); array_mem_dec; (first | exact rfl | assumption)) | ((with_reducible apply g_lenL); array_mem_dec) | ((with_reducible apply g_lenT); array_mem_dec) | ((with_reducible apply g_rI); walk_at "side")
  | ((with_reducible apply g_setL); array_get_dec; (first | exact rfl | assumption)) | ((with_reducible apply g_app); array_get_dec; walk_at "side") | with_reducible refine g_tup ?_ | with_reducible refine g_lst ?_ | ((with_reducible apply g_listL); array_mem_dec) | ((with_reducible apply g_listT); array_mem_dec) | ((with_reducible apply g_tupT); array_mem_dec) | ((with_reducible apply g_tupL); array_mem_dec)
  | ((with_reducible apply g_room); walk_at "side") | with_reducible refine g_abs ?_ | with_reducible refine g_chain ?_ | with_reducible refine g_andV ?_ | with_reducible refine g_orV ?_ | with_reducible refine g_notV ?_ | with_reducible refine g_gsub ?_ | ((with_reducible apply g_gtup); array_mem_dec; (first | exact rfl | assumption)) | with_reducible refine g_gcons ?_ | with_reducible refine g_gnil ?_ | with_reducible refine g_bm ?_ | ((with_reducible apply g_tyL); array_mem_dec) | with_reducible refine g_tyS ?_
  | with_reducible refine g_callS ?_ | with_reducible refine g_nei ?_ | with_reducible refine g_eqs ?_ | with_reducible refine g_nes ?_ | with_reducible refine g_eqb ?_ | with_reducible refine g_nonI ?_ | with_reducible refine g_nonN ?_ | with_reducible refine g_nonS ?_ | with_reducible refine g_nonB ?_ | with_reducible refine g_nonR ?_ | with_reducible refine g_isBB ?_ | with_reducible refine g_isBI ?_ | with_reducible refine g_isBS ?_ | with_reducible refine g_isBR ?_ | with_reducible refine g_isBN ?_
  | with_reducible refine g_rng1 ?_ | with_reducible refine g_rng2 ?_ | ((with_reducible apply g_notInR); array_get_dec) | ((with_reducible apply g_inR); array_get_dec) | with_reducible refine g_for ?_ | with_reducible refine g_iList ?_ | with_reducible refine g_iTup ?_ | with_reducible refine g_iR1 ?_ | with_reducible refine g_iEnum ?_ | with_reducible refine g_lc ?_ | with_reducible refine g_yes ?_ | with_reducible refine g_slc ?_ | with_reducible refine g_raise ?_ | with_reducible refine g_exv ?_ | with_reducible refine g_xf ?_ | ((with_reducible apply g_xfe); array_get_dec; (first | exact rfl | assumption)) | with_reducible refine g_part ?_ | with_reducible refine g_nopart ?_ | with_reducible refine g_exi ?_ | with_reducible refine g_brk ?_ | with_reducible refine g_cnt ?_ | with_reducible refine g_bk ?_ | with_reducible refine g_ct ?_ | with_reducible refine g_if ?_
  | with_reducible refine g_augS ?_ | with_reducible refine g_nnR ?_ | with_reducible refine g_nnN ?_ | with_reducible refine g_nnI ?_ | with_reducible refine g_ipI ?_ | ((with_reducible apply g_neL); array_mem_dec; array_mem_dec) | ((with_reducible apply g_eqL); array_mem_dec; array_mem_dec) | ((with_reducible apply g_slL); array_mem_dec) | ((with_reducible apply g_atL); array_mem_dec) | ((with_reducible apply g_atT); array_mem_dec) | ((with_reducible apply g_enum); array_mem_dec) | ((with_reducible apply g_R1); walk_at "side"; walk_at "side")
  | with_reducible refine g_is_int_int ?_ | with_reducible refine g_is_int_bool ?_ | with_reducible refine g_is_int_str ?_ | with_reducible refine g_is_int_dict ?_ | with_reducible refine g_is_int_list ?_ | with_reducible refine g_is_int_tuple ?_ | with_reducible refine g_is_bool_bool ?_ | with_reducible refine g_is_bool_int ?_ | with_reducible refine g_is_str_int ?_ | with_reducible refine g_is_str_str ?_ | with_reducible refine g_is_str_dict ?_ | with_reducible refine g_is_str_list ?_ | with_reducible refine g_is_str_tuple ?_ | ((with_reducible apply g_is_list_int); array_get_dec) | ((with_reducible apply g_is_list_str); array_get_dec) | ((with_reducible apply g_is_list_dict); array_get_dec) | ((with_reducible apply g_is_list_list); array_get_dec) | ((with_reducible apply g_is_list_tuple); array_get_dec) | ((with_reducible apply g_is_tuple_int); array_get_dec) | ((with_reducible apply g_is_tuple_str); array_get_dec) | ((with_reducible apply g_is_tuple_dict); array_get_dec) | ((with_reducible apply g_is_tuple_list); array_get_dec) | ((with_reducible apply g_is_tuple_tuple); array_get_dec) | ((with_reducible apply g_ixSL); array_mem_dec; (first | exact rfl | assumption)) | ((with_reducible apply g_ixST); array_mem_dec; (first | exact rfl | assumption)))
local macro_rules | `(tactic| walk_at "go") => `(tactic| repeat first | with_reducible refine g_ifS ?_ | walk_at "st")
local macro_rules | `(tactic| walk_at "dec") => `(tactic| first | with_reducible assumption | decide | omega)
local macro_rules | `(tactic| walk_at "goD") => `(tactic| repeat first | with_reducible refine g_ifS ?_ | walk_at "st" | ((with_reducible apply g_iteY); walk_at "dec") | ((with_reducible apply g_iteX); walk_at "dec") | ((with_reducible apply g_iteNY); walk_at "dec") | ((with_reducible apply g_iteNX); walk_at "dec"))
local macro_rules | `(tactic| walk_at "goI") => `(tactic| repeat walk_at "st")
section
open FabC
variable {P : Program} {w : World} {K : PySem.W.Frag} {mg : Str → Option Value} {base : Heap}
theorem ok_law (T : Txt P K mg) (G__law_bits : FnOk P w K mg base CX0 1 (ga K "_law_bits") (fdOf K "_law_bits") ["value", "count"] (sp__law_bits)) (G__law_chain : FnOk P w K mg base CX0 2 (ga K "_law_chain") (fdOf K "_law_chain") ["side"] (sp__law_chain)) (G__law_counts_right : FnOk P w K mg base CX0 7 (ga K "_law_counts_right") (fdOf K "_law_counts_right") ["circuit"] (sp__law_counts_right)) (G__law_difference_right : FnOk P w K mg base CX0 7 (ga K "_law_difference_right") (fdOf K "_law_difference_right") ["one", "two", "rows"] (sp__law_difference_right)) (G__law_draw : FnOk P w K mg base CX0 1 (ga K "_law_draw") (fdOf K "_law_draw") ["pool", "many"] (sp_draw)) (G__law_drawn : FnOk P w K mg base CX0 4 (ga K "_law_drawn") (fdOf K "_law_drawn") ["pools", "free", "count", "many"] (FabC.sp__law_drawn)) (G__law_pool : FnOk P w K mg base CX0 1 (ga K "_law_pool") (fdOf K "_law_pool") ["script", "place"] (sp_pool K)) (G__law_second : FnOk P w K mg base CX0 5 (ga K "_law_second") (fdOf K "_law_second") ["pools", "side", "circuit"] (sp__law_second)) (G__law_sizes_refused : FnOk P w K mg base CX0 7 (ga K "_law_sizes_refused") (fdOf K "_law_sizes_refused") ["circuit", "far", "unlike"] (sp__law_sizes_refused)) (G__law_table_right : FnOk P w K mg base CX0 7 (ga K "_law_table_right") (fdOf K "_law_table_right") ["circuit", "rows"] (sp__law_table_right)) (G__law_values_refused : FnOk P w K mg base CX0 7 (ga K "_law_values_refused") (fdOf K "_law_values_refused") ["circuit", "bits"] (sp__law_values_refused)) (G__law_values_right : FnOk P w K mg base CX0 7 (ga K "_law_values_right") (fdOf K "_law_values_right") ["circuit", "rows"] (sp__law_values_right)) (G__law_wide_refused : FnOk P w K mg base CX0 7 (ga K "_law_wide_refused") (fdOf K "_law_wide_refused") ["circuit", "other", "unlike"] (sp__law_wide_refused)) : FnOk P w K mg base CX0 8 (ga K "law") (fdOf K "law") ["script"] (sp_law K) := by
  refine T.f_law.f.ok sc_law (fun vs H Q E h => by obtain ⟨_, _, e, _⟩ := h; rw [e]; rfl) (fun cdv A outer s H vs Q E hr h => ⟨(d_law T G__law_bits (b__law_bits T) G__law_chain (b__law_chain T) G__law_counts_right (b__law_counts_right T) G__law_difference_right (b__law_difference_right T) G__law_draw (b__law_draw T) G__law_drawn (b__law_drawn T) G__law_pool (b__law_pool T) G__law_second (b__law_second T) G__law_sizes_refused (b__law_sizes_refused T) G__law_table_right (b__law_table_right T) G__law_values_refused (b__law_values_refused T) G__law_values_right (b__law_values_right T) G__law_wide_refused (b__law_wide_refused T) hr).1, PSs.nox (d_law T G__law_bits (b__law_bits T) G__law_chain (b__law_chain T) G__law_counts_right (b__law_counts_right T) G__law_difference_right (b__law_difference_right T) G__law_draw (b__law_draw T) G__law_drawn (b__law_drawn T) G__law_pool (b__law_pool T) G__law_second (b__law_second T) G__law_sizes_refused (b__law_sizes_refused T) G__law_table_right (b__law_table_right T) G__law_values_refused (b__law_values_refused T) G__law_values_right (b__law_values_right T) G__law_wide_refused (b__law_wide_refused T) hr).2, ?_⟩)
  dsimp only [d_law, cxOf]
  obtain ⟨a, ns, rfl, hS, hlen, q⟩ := h
  rw [show start N_law [.ref a] = [some (.ref a), none, none, none, none, none, none, none, none, none, none, none, none, none, none, none, none, none, none, none] from rfl]
  walk_at "go"
  refine ⟨a, ns, 6, rfl, hS, by decide, by decide, fun sd hsd0 => ?_⟩
  have s1 : Same H (upd H sd (poolO sd)) := .new hsd0
  have hsd : IsPool (upd H sd (poolO sd)) sd := upd_same
  generalize upd H sd (poolO sd) = H1 at *
  walk_at "go"
  refine ⟨sd, _, rfl, hsd, .of (by decide) (by decide), fun free fr0 fr1 => ?_⟩
  walk_at "go"
  refine ⟨sd, _, rfl, hsd, .of (by decide) (by decide), fun count ct0 ct1 => ?_⟩
  walk_at "go"
  refine ⟨sd, _, rfl, hsd, .of (by decide) (by decide), fun many mn0 mn1 => ?_⟩
  walk_at "go"
  refine ⟨sd, _, rfl, hsd, .of (by decide) (by decide), fun size sz0 sz1 => ?_⟩
  walk_at "goI"
  refine g_keep (fun σ H' => ∃ free : Int, σ = [some (.ref a), some (.ref sd), some (.int free), some (.int count), some (.int many), some (.int size), none, none, none, none, none, none, none, none, none, none, none, none, none, none] ∧ H' = H1 ∧ 0 ≤ free ∧ free ≤ 8) ?_ (fun f fin => ?_)
  rotate_left
  · walk_at "go"
    refine g_ite (fun z => ?_) (fun z => ?_)
    · walk_at "go"
      refine ⟨sd, _, rfl, hsd, .of (by decide) (by decide), fun x x0 x1 => ?_⟩
      walk_at "go"
      refine fin _ _ ?_
      exact ⟨_, rfl, rfl, by omega, by omega⟩
    · walk_at "go"
      refine fin _ _ ?_
      exact ⟨_, rfl, rfl, by omega, by omega⟩
  clear fr0 fr1
  rintro σ H1' ⟨free, rfl, e1, fr0, fr1⟩
  cases e1
  walk_at "goI"
  refine g_keep (fun σ H' => ∃ count many : Int, σ = [some (.ref a), some (.ref sd), some (.int free), some (.int count), some (.int many), some (.int size), none, none, none, none, none, none, none, none, none, none, none, none, none, none] ∧ H' = H1 ∧ 0 ≤ count ∧ count ≤ 40 ∧ 0 ≤ many ∧ many ≤ 12) ?_ (fun f fin => ?_)
  rotate_left
  · walk_at "go"
    refine g_ite (fun z => ?_) (fun z => ?_)
    · walk_at "go"
      refine ⟨sd, _, rfl, hsd, .of (by decide) (by decide), fun x x0 x1 => ?_⟩
      walk_at "go"
      refine ⟨sd, _, rfl, hsd, .of (by decide) (by decide), fun y y0 y1 => ?_⟩
      walk_at "go"
      refine fin _ _ ?_
      exact ⟨_, _, rfl, rfl, by omega, by omega, by omega, by omega⟩
    · walk_at "go"
      refine fin _ _ ?_
      exact ⟨_, _, rfl, rfl, by omega, by omega, by omega, by omega⟩
  clear ct0 ct1 mn0 mn1
  rintro σ H1' ⟨count, many, rfl, e1, ct0, ct1, mn0, mn1⟩
  cases e1
  walk_at "goI"
  refine g_keep (fun σ H' => ∃ free : Int, σ = [some (.ref a), some (.ref sd), some (.int free), some (.int count), some (.int many), some (.int size), none, none, none, none, none, none, none, none, none, none, none, none, none, none] ∧ H' = H1 ∧ 0 ≤ free ∧ free ≤ 48) ?_ (fun f fin => ?_)
  rotate_left
  · walk_at "go"
    refine g_ite (fun z => ?_) (fun z => ?_)
    · walk_at "go"
      refine ⟨sd, _, rfl, hsd, .of (by decide) (by decide), fun x x0 x1 => ?_⟩
      walk_at "go"
      refine fin _ _ ?_
      exact ⟨_, rfl, rfl, by omega, by omega⟩
    · walk_at "go"
      refine fin _ _ ?_
      exact ⟨_, rfl, rfl, by omega, by omega⟩
  clear fr0 fr1
  rintro σ H1' ⟨free, rfl, e1, fr0, fr1⟩
  cases e1
  walk_at "go"
  intro D hD
  refine lc_range (fun i H2 => ∃ ps : List Addr, Same H1 H2 ∧ H2 D = some (.lst (ps.map V.ref)) ∧ ps.length = i ∧ ∀ p ∈ ps, IsPool H2 p) ⟨[], .new hD, upd_same, rfl, fun p h => by cases h⟩ ?_ ?_
  · rintro i H2 hi ⟨ps, sm2, hD2, pl, hps⟩
    dsimp only [wipe, List.map]
    walk_at "go"
    refine ⟨rfl, ?_⟩
    walk_at "go"
    refine ⟨a, ns, _, rfl, (s1.trans sm2).seq hS, by omega, by omega, fun p hp => ?_⟩
    have hDp : upd H2 p (poolO p) D = some (.lst (ps.map V.ref)) := at_new hp hD2
    refine ⟨_, hDp, by walk_at "side", ps ++ [p], Same.setNew (sm2.then hp) hD, by rw [upd_same]; simp, by simp [pl], fun p' hp' => ?_⟩
    rcases List.mem_append.mp hp' with z | z
    · exact at_lstP hDp (at_new hp (hps p' z))
    · have e : p' = p := by simpa using z
      rw [e]
      exact at_lstP hDp upd_same
  rintro H2 ⟨ps, s2, hD2, pl, hps⟩
  have hsd : IsPool H2 sd := s2 _ _ hsd
  have hpl : poolsV H2 (.ref D) := ⟨D, ps, rfl, hD2, (fun e => by rw [e] at pl; cases pl), hps⟩
  walk_at "go"
  refine ⟨_, _, _, _, rfl, hpl, fr0, by omega, ct0, by omega, mn0, by omega, fun cu c0 H3 s3 hc0 wf0 cf0 cg0 ce0 => ?_⟩
  have hsd : IsPool H3 sd := s3 _ _ hsd
  walk_at "goI"
  refine g_keep (fun σ H' => ∃ (free : Int) (cu : V) (c : Circ), σ = [some (.ref a), some (.ref sd), some (.int free), some (.int count), some (.int many), some (.int size), some cu, none, none, none, none, none, none, none, none, none, none, none, none, none] ∧ Same H3 H' ∧ cV H' cu c ∧ Good c ∧ c.free = free ∧ 0 ≤ free ∧ free ≤ 48 ∧ c.ends.length ≤ 1000) ?_ (fun f fin => ?_)
  rotate_left
  · have done0 : f [some (.ref a), some (.ref sd), some (.int free), some (.int count), some (.int many), some (.int size), some cu, none, none, none, none, none, none, none, none, none, none, none, none, none] H3 :=
      fin _ _ ⟨free, cu, c0, rfl, .refl _, hc0, ⟨wf0, by omega, by omega, by omega⟩, cf0, fr0, fr1, by omega⟩
    walk_at "go"
    refine g_ite (fun z => ?_) (fun z => ?_)
    · walk_at "go"
      refine ⟨sd, _, rfl, hsd, .of (by decide) (by decide), fun x x0 x1 => ?_⟩
      walk_at "go"
      refine g_ite (fun z => ?_) (fun z => ?_)
      · walk_at "go"
        refine ⟨sd, rfl, hsd, fun u c H4 s4 hc gd cf ce => ?_⟩
        walk_at "go"
        refine fin _ _ ?_
        exact ⟨2, u, c, rfl, s4, hc, gd, cf, by decide, by decide, by omega⟩
      · walk_at "go"
        exact done0
    · walk_at "go"
      exact done0
  clear wf0 cf0 cg0 ce0 hc0 fr0 fr1
  rintro σ H4 ⟨free, cu, c, rfl, s4, hc, gc, cf, fr0, fr1, cel⟩
  have hsd : IsPool H4 sd := s4 _ _ hsd
  have hS4 := (s1.trans (s2.trans (s3.trans s4))).seq hS
  have S4 := s1.trans (s2.trans (s3.trans s4))
  walk_at "go"
  intro D2 hD2n
  refine lc_range (fun i H2 => ∃ ps : List Addr, Same H4 H2 ∧ H2 D2 = some (.lst (ps.map V.ref)) ∧ ps.length = i ∧ ∀ p ∈ ps, IsPool H2 p) ⟨[], .new hD2n, upd_same, rfl, fun p h => by cases h⟩ ?_ ?_
  · rintro i H2 hi ⟨ps, sm2, hD2, pl, hps⟩
    dsimp only [wipe, List.map]
    walk_at "go"
    refine ⟨rfl, ?_⟩
    walk_at "go"
    refine ⟨a, ns, _, rfl, sm2.seq hS4, by omega, by omega, fun p hp => ?_⟩
    have hDp : upd H2 p (poolO p) D2 = some (.lst (ps.map V.ref)) := at_new hp hD2
    refine ⟨_, hDp, by walk_at "side", ps ++ [p], Same.setNew (sm2.then hp) hD2n, by rw [upd_same]; simp, by simp [pl], fun p' hp' => ?_⟩
    rcases List.mem_append.mp hp' with z | z
    · exact at_lstP hDp (at_new hp (hps p' z))
    · have e : p' = p := by simpa using z
      rw [e]
      exact at_lstP hDp upd_same
  rintro H5 ⟨ps2, s5, hD5, pl2, hps2⟩
  have hpl2 : poolsV H5 (.ref D2) := ⟨D2, ps2, rfl, hD5, (fun e => by rw [e] at pl2; cases pl2), hps2⟩
  walk_at "go"
  refine ⟨_, _, _, c, rfl, hpl2, s5 _ _ hsd, hc.same s5, gc, fun ou d H6 s6 hd gd df de => ?_⟩
  have hsd : IsPool H6 sd := s6 _ _ (s5 _ _ hsd)
  have hc := hc.same (s5.trans s6)
  walk_at "go"
  intro lr0 nlr0
  walk_at "goI"
  have p8 : free ≤ 8 → (2 : Int) ^ free.toNat ≤ 256 ∧ 1 ≤ (2 : Int) ^ free.toNat := fun h => pow8 fr0 h
  refine g_keep (fun σ H' => ∃ (rv : V) (ls : List (List Int)) (o10 : Option V), σ = [some (.ref a), some (.ref sd), some (.int free), some (.int count), some (.int many), some (.int size), some cu, none, some ou, some rv, o10, none, none, none, none, none, none, none, none, none] ∧ Same H6 H' ∧ tabV H' rv ls ∧ (free ≤ 8 → ls = rowsOf free.toNat) ∧ (8 < free → ls = [])) ?_ (fun f fin => ?_)
  rotate_left
  · walk_at "go"
    refine g_ite (fun z => ?_) (fun z => ?_)
    · have p8' := p8 z
      walk_at "go"
      rw [powTo]
      intro D hD
      have s7 : Same H6 (upd H6 lr0 (.lst [])) := .new nlr0
      generalize upd H6 lr0 (.lst []) = H7 at *
      refine lc_range (fun i H2 => ∃ rs, Grow H7 H2 D ((rowsOf free.toNat).take i) rs ∧ rs.length = i) ⟨[], .start hD, rfl⟩ ?_ ?_
      · rintro i H2 hi ⟨rs, gr, rl⟩
        have hi2 : (i : Int) < 2 ^ free.toNat := by rw [← powNat]; exact Int.ofNat_lt.mpr hi
        dsimp only [wipe, List.map]
        walk_at "go"
        refine ⟨rfl, ?_⟩
        walk_at "go"
        refine ⟨_, _, rfl, fr0, by omega, fun w H8 s8 hw => ?_⟩
        obtain ⟨r, rfl, nr, hr⟩ := hw
        rw [Int.zero_add] at hr
        refine ⟨_, s8 _ _ gr.at_, by rw [List.length_map, rl, sizeLine_eq]; omega, rs ++ [r], ?_, by simp [rl]⟩
        rw [rowsOf_take hi]
        exact gr.push hD s8 nr hr
      · rintro H2 ⟨rs, gr, rl⟩
        rw [← rowsOf_length, take_all] at gr
        walk_at "go"
        refine fin _ _ ?_
        exact ⟨_, _, _, rfl, s7.trans gr.sm, (gr.done hD).tab, fun _ => rfl, fun h => absurd z (by omega)⟩
    · walk_at "go"
      refine fin _ _ ?_
      exact ⟨_, [], _, rfl, .new nlr0, ⟨lr0, [], rfl, upd_same, rfl, fun i r x h => by cases h⟩, fun h => absurd h z, fun _ => rfl⟩
  rintro σ H7 ⟨rv, ls, o10, rfl, s7, hrv, ls8, ls9⟩
  have hsd : IsPool H7 sd := s7 _ _ hsd
  have hc := hc.same s7
  have hd := hd.same s7
  have lsok : free ≤ 8 → RowsOk c ls ∧ ls.length ≤ 256 := fun h => by
    rw [ls8 h]
    refine ⟨fun x hx => ?_, ?_⟩
    · obtain ⟨k, _, rfl⟩ := List.mem_map.mp hx
      exact ⟨bitsOf_bits _ _, by rw [bitsOf_length]; omega⟩
    · rw [rowsOf_length]
      have := (p8 h).1
      rw [← powNat] at this
      omega
  walk_at "goI"
  refine g_keep (fun σ H' => ∃ (sv : V) (ls2 : List (List Int)) (o12 o13 o14 : Option V), σ = [some (.ref a), some (.ref sd), some (.int free), some (.int count), some (.int many), some (.int size), some cu, none, some ou, some rv, o10, some sv, o12, o13, o14, none, none, none, none, none] ∧ Same H7 H' ∧ tabV H' sv ls2 ∧ RowsOk c ls2 ∧ ls2.length ≤ 10000) ?_ (fun f fin => ?_)
  rotate_left
  · walk_at "go"
    refine g_ite (fun z => ?_) (fun z => ?_)
    · walk_at "go"
      intro D hD
      have two24 : (1 * 2 ^ Int.toNat 24 : Int) = 16777216 := by decide
      refine lc_range (fun i H2 => ∃ zs : List Int, Same H7 H2 ∧ H2 D = some (.lst (zs.map V.int)) ∧ zs.length = i) ⟨[], .new hD, upd_same, rfl⟩ ?_ ?_
      · rintro i H2 hi ⟨zs, sm2, hD2, zl⟩
        dsimp only [wipe, List.map]
        walk_at "go"
        refine ⟨rfl, ?_⟩
        walk_at "go"
        rw [two24]
        refine ⟨sd, _, rfl, sm2 _ _ hsd, .of (by decide) (by decide), fun x x0 x1 => ?_⟩
        walk_at "go"
        rw [two24]
        refine ⟨sd, _, rfl, sm2 _ _ hsd, .of (by decide) (by decide), fun y y0 y1 => ?_⟩
        walk_at "go"
        exact ⟨_, hD2, by walk_at "side", zs ++ [x + y * 2 ^ Int.toNat 24], Same.setNew sm2 hD, by rw [upd_same]; simp, by simp [zl]⟩
      · rintro H8 ⟨zs, s8, hD8, zl⟩
        walk_at "go"
        intro D9 hD9
        refine lc_list (fun i H2 => ∃ rs, Grow H8 H2 D9 ((zs.map fun z => bitsOf z free.toNat).take i) rs ∧ rs.length = i) ⟨[], .start hD9, rfl⟩ (fun i H2 _ ⟨_, gr, _⟩ => .of (gr.sm _ _ hD8)) ?_ ?_
        · rintro i x H2 hx ⟨rs, gr, rl⟩
          rw [List.getElem?_map] at hx
          obtain ⟨z', hz', rfl⟩ := Option.map_eq_some_iff.mp hx
          have il := (List.getElem?_eq_some_iff.mp hz').1
          dsimp only [wipe, List.map]
          walk_at "go"
          refine ⟨rfl, ?_⟩
          walk_at "go"
          refine ⟨_, _, rfl, fr0, by omega, fun w H9 s9 hw => ?_⟩
          obtain ⟨r, rfl, nr, hr⟩ := hw
          refine ⟨_, s9 _ _ gr.at_, by rw [List.length_map, rl, sizeLine_eq]; simp at zl; omega, rs ++ [r], ?_, by simp [rl]⟩
          rw [take_snoc (x := bitsOf z' free.toNat) (by rw [List.getElem?_map, hz']; rfl)]
          exact gr.push hD9 s9 nr hr
        · rintro H9 ⟨rs, gr, rl⟩
          rw [List.length_map, show zs.length = (zs.map fun z => bitsOf z free.toNat).length by simp, take_all] at gr
          walk_at "go"
          refine fin _ _ ?_
          exact ⟨_, _, _, _, _, rfl, s8.trans gr.sm, (gr.done hD9).tab, fun x hx => by
            obtain ⟨z', _, rfl⟩ := List.mem_map.mp hx
            exact ⟨bitsOf_bits _ _, by rw [bitsOf_length]; omega⟩, by simp at zl ⊢; omega⟩
    · have ok8 := lsok (by omega)
      walk_at "go"
      refine fin _ _ ?_
      exact ⟨_, ls, _, _, _, rfl, .refl _, hrv, ok8.1, by omega⟩
  rintro σ H8 ⟨sv, ls2, o12, o13, o14, rfl, s8, hsv, ok2, len2⟩
  have hsd : IsPool H8 sd := s8 _ _ hsd
  have hc := hc.same s8
  have hd := hd.same s8
  have hrv := hrv.same s8
  walk_at "go"
  intro lp np
  walk_at "go"
  have S9 : Same H8 (upd H8 lp (.lst [cu, ou])) := .new np
  have hlp : upd H8 lp (.lst [cu, ou]) lp = some (.lst [cu, ou]) := upd_same
  generalize upd H8 lp (.lst [cu, ou]) = H9 at *
  refine for_list (fun i σ H' => ∃ o15, σ = [some (.ref a), some (.ref sd), some (.int free), some (.int count), some (.int many), some (.int size), some cu, none, some ou, some rv, o10, some sv, o12, o13, o14, o15, none, none, none, none] ∧ Same H9 H') ⟨_, rfl, .refl _⟩ (fun i σ H' _ ⟨_, _, sm⟩ => .of (sm _ _ hlp)) ?_ ?_
  · rintro i x σ H10 hx ⟨o15, rfl, s10⟩
    have S10 := S9.trans s10
    have pick : ∃ e, cV H10 x e ∧ Good e ∧ e.free = c.free := by
      match i, hx with
      | 0, hx => cases hx; exact ⟨c, hc.same S10, gc, rfl⟩
      | 1, hx => cases hx; exact ⟨d, hd.same S10, gd, df⟩
    obtain ⟨e, he, ge, ef⟩ := pick
    have oke : RowsOk e ls2 := fun y hy => ⟨(ok2 y hy).1, by rw [ef]; exact (ok2 y hy).2⟩
    walk_at "go"
    refine ⟨_, _, e, ls2, rfl, he, ge, hsv.same S10, oke, len2, fun H11 s11 => ?_⟩
    walk_at "go"
    refine ⟨_, e, rfl, he.same s11, ge, fun H12 s12 => ?_⟩
    walk_at "go"
    exact ⟨_, rfl, s10.trans (s11.trans s12)⟩
  rintro σ H10 ⟨o15, rfl, s10⟩
  have S10 := S9.trans s10
  have hsd : IsPool H10 sd := S10 _ _ hsd
  have hc := hc.same S10
  have hd := hd.same S10
  have hrv := hrv.same S10
  clear hsv hlp
  walk_at "go"
  refine ⟨sd, _, rfl, hsd, .of (by decide) (by decide), fun x x0 x1 => ?_⟩
  walk_at "go"
  intro e1 n1
  walk_at "go"
  intro e2 n2
  walk_at "go"
  refine ⟨sd, _, rfl, at_new n2 (at_new n1 hsd), .of (by decide) (by decide), fun y y0 y1 => ?_⟩
  walk_at "go"
  refine g_rep2 upd_same (by omega) (by omega) (fun p3 H11 s11 e11 => ?_)
  have S11 := ((Same.new (x := .tup []) n1).then (x := .tup [.int (-1)]) n2).trans s11
  have he1 : H11 e1 = some (.tup []) := s11 _ _ (at_new n2 upd_same)
  walk_at "go"
  intro fa0 nfa
  walk_at "go"
  have hfar : cV (upd H11 fa0 (.tup [.int (9 + x), .ref e1, .ref p3])) (.ref fa0) ⟨9 + x, [], List.replicate y.toNat (-1)⟩ := cV.mk (vs := []) upd_same (at_new nfa he1) .nil (by rw [List.map_replicate]; exact at_new nfa e11)
  have wfr : ∀ (z : Int) (n : Nat), 0 ≤ z → Wf ⟨z, [], List.replicate n (-1)⟩ := fun z n hz => ⟨hz, fun i g h => (by cases h), fun i w h => by
    obtain ⟨_, e⟩ := List.getElem?_eq_some_iff.mp h
    rw [List.getElem_replicate] at e
    rw [← e]
    exact wireOk_iff.mpr (by simp; omega)⟩
  have gfar : Good ⟨9 + x, [], List.replicate y.toNat (-1)⟩ := ⟨wfr _ _ (by omega), by dsimp only; omega, by simp, by simp; omega⟩
  have S12 := S11.then (x := .tup [.int (9 + x), .ref e1, .ref p3]) nfa
  generalize upd H11 fa0 (.tup [.int (9 + x), .ref e1, .ref p3]) = H12 at *
  have hsd : IsPool H12 sd := S12 _ _ hsd
  refine ⟨sd, _, rfl, hsd, .of (by decide) (by decide), fun wd0 wd00 wd01 => ?_⟩
  walk_at "goI"
  refine g_keep (fun σ H' => ∃ wd : Int, σ = [some (.ref a), some (.ref sd), some (.int free), some (.int count), some (.int many), some (.int size), some cu, none, some ou, some rv, o10, some sv, o12, o13, o14, o15, some (.ref fa0), some (.int wd), none, none] ∧ H' = H12 ∧ 0 ≤ wd ∧ wd ≤ 2001 ∧ wd ≠ free) ?_ (fun f fin => ?_)
  rotate_left
  · walk_at "go"
    refine g_ite (fun z => ?_) (fun z => ?_)
    · walk_at "go"
      refine fin _ _ ?_
      exact ⟨_, rfl, rfl, by omega, by omega, by omega⟩
    · walk_at "go"
      refine fin _ _ ?_
      exact ⟨_, rfl, rfl, wd00, by omega, z⟩
  rintro σ H12' ⟨wd, rfl, e12, wd0', wd1', wdn⟩
  cases e12
  walk_at "go"
  intro g1 m1
  walk_at "go"
  intro g2 m2
  walk_at "go"
  refine ⟨sd, _, rfl, at_new m2 (at_new m1 hsd), .of (by decide) (by decide), fun y2 y20 y21 => ?_⟩
  walk_at "go"
  refine g_rep2 upd_same (by omega) (by omega) (fun p4 H13 s13 e13 => ?_)
  have S13 := ((Same.new (x := .tup []) m1).then (x := .tup [.int (-1)]) m2).trans s13
  have hg1 : H13 g1 = some (.tup []) := s13 _ _ (at_new m2 upd_same)
  walk_at "go"
  intro ul nul
  walk_at "go"
  have hul : cV (upd H13 ul (.tup [.int wd, .ref g1, .ref p4])) (.ref ul) ⟨wd, [], List.replicate y2.toNat (-1)⟩ := cV.mk (vs := []) upd_same (at_new nul hg1) .nil (by rw [List.map_replicate]; exact at_new nul e13)
  have gul : Good ⟨wd, [], List.replicate y2.toNat (-1)⟩ := ⟨wfr _ _ (by omega), by dsimp only; omega, by simp, by simp; omega⟩
  have S14 := S13.then (x := .tup [.int wd, .ref g1, .ref p4]) nul
  generalize upd H13 ul (.tup [.int wd, .ref g1, .ref p4]) = H14 at *
  have hsd : IsPool H14 sd := S14 _ _ hsd
  refine ⟨sd, _, rfl, hsd, .of (by decide) (by decide), fun nb nb0 nb1 => ?_⟩
  walk_at "go"
  intro D hD
  refine lc_range (fun i H2 => ∃ zs : List Int, Same H14 H2 ∧ H2 D = some (.lst (zs.map V.int)) ∧ zs.length = i ∧ Bits zs) ⟨[], .new hD, upd_same, rfl, fun z h => by cases h⟩ ?_ ?_
  · rintro i H2 hi ⟨zs, sm2, hD2, zl, zb⟩
    dsimp only [wipe, List.map]
    walk_at "go"
    refine ⟨rfl, ?_⟩
    walk_at "go"
    refine ⟨sd, _, rfl, sm2 _ _ hsd, .of (by decide) (by decide), fun b b0 b1 => ?_⟩
    exact ⟨_, hD2, by walk_at "side", zs ++ [b], Same.setNew sm2 hD, by rw [upd_same]; simp, by simp [zl], zb.snoc (by omega)⟩
  rintro H15 ⟨zs, s15, hD15, zl, zb⟩
  have S15 := S12.trans (S14.trans s15)
  have hc := hc.same S15
  have hd := hd.same S15
  have hrv := hrv.same S15
  have hfar := hfar.same (S14.trans s15)
  have hul := hul.same s15
  walk_at "go"
  refine ⟨_, _, c, zs, rfl, hc, gc, ⟨D, rfl, hD15⟩, zb, (fun e => by rw [e] at zl; simp at zl; omega), by omega, fun H16 s16 => ?_⟩
  walk_at "go"
  refine g_ite (fun wide => ?_) (fun fine => ?_)
  · walk_at "go"
    refine ⟨_, _, _, c, d, _, rfl, hc.same s16, gc, hd.same s16, gd, hul.same s16, gul, by omega, by rw [cf]; exact wdn, fun H17 s17 => ?_⟩
    walk_at "go"
    exact q _
  · have fine2 : free ≤ 8 := by omega
    have ls8' := ls8 fine2
    subst ls8'
    have hrc : tabV H16 rv (rowsOf c.free.toNat) := by rw [cf]; exact hrv.same s16
    have hrd : tabV H16 rv (rowsOf d.free.toNat) := by rw [df]; exact hrc
    walk_at "go"
    refine ⟨_, _, c, rfl, hc.same s16, gc, by omega, hrc, fun H17 s17 => ?_⟩
    walk_at "go"
    refine ⟨_, _, d, rfl, hd.same (s16.trans s17), gd, by omega, hrd.same s17, fun H18 s18 => ?_⟩
    walk_at "go"
    have S18 := s16.trans (s17.trans s18)
    refine ⟨_, _, _, c, d, rfl, hc.same S18, gc, hd.same S18, gd, by omega, df, de, hrc.same (s17.trans s18), fun H19 s19 => ?_⟩
    walk_at "go"
    refine ⟨_, _, _, c, _, _, rfl, hc.same (S18.trans s19), gc, hfar.same (S18.trans s19), gfar, hul.same (S18.trans s19), gul, by omega, by dsimp only; omega, by rw [cf]; exact wdn, cel, fun H20 s20 => ?_⟩
    walk_at "go"
    exact q _
end

end K19
set_option maxHeartbeats 0
namespace K19
open PySem PySem.Spec PyProof.Rows L2 FabH He FabC
section
variable {P : Program} {w : World} {K : PySem.W.Frag} {mg : Str → Option Value} {base : Heap}
theorem all (T : Txt P K mg) : FnOk P w K mg base CX0 8 (ga K "law") (fdOf K "law") ["script"] (sp_law K) := by
  have g_to_bits := ok_to_bits T (w := w) (base := base)
  have g_lookup := ok_lookup T (w := w) (base := base)
  have g_value_of := ok_value_of T (w := w) (base := base)
  have g_wire_values := ok_wire_values T g_lookup g_value_of
  have c_wire_values := (g_wire_values).calm (sp0 := sp0_wire_values) (fun vs H Q E ⟨u, v, c, xs, e, hc, gd, hs, hb, hz, eq, q⟩ => ⟨u, v, c, xs, e, hc, gd, hs, hb, hz, fun _ => q, fun ne => absurd eq ne⟩)
  have g_evaluate := ok_evaluate T g_value_of g_wire_values
  have c_evaluate := (g_evaluate).calm (sp0 := sp0_evaluate) (fun vs H Q E ⟨u, v, c, xs, e, hc, gd, hs, hb, hz, eq, q⟩ => ⟨u, v, c, xs, e, hc, gd, hs, hb, hz, fun _ => q, fun ne => absurd eq ne⟩)
  have g_reader_counts := ok_reader_counts T (w := w) (base := base)
  have g_truth_table := ok_truth_table T c_evaluate g_to_bits
  have c_truth_table := (g_truth_table).calm (sp0 := sp0_truth_table) (fun vs H Q E ⟨u, c, e, hc, gd, fine, q⟩ => ⟨u, c, e, hc, gd, fun _ => q, fun w => absurd w (by omega)⟩)
  have g_difference := ok_difference T c_evaluate g_to_bits
  have c_difference := (g_difference).calm (sp0 := sp0_difference) (fun vs H Q E ⟨u, v, c, d, e, hc, gc, hd, gd, fine, ef, ee, q⟩ => ⟨u, v, c, d, e, hc, gc, hd, gd, fun _ _ _ => q, fun w => absurd w (by omega), fun _ ne => absurd ef ne, fun _ _ ne => absurd ee ne⟩)
  have g__law_pool := pool_closed (ok__law_pool T (w := w) (base := base))
  have d1 := ok__law_draw T (w := w) (base := base)
  have g__law_draw := draw_closed d1
  have g__law_take := take_closed (ok__law_take T d1)
  have g__law_same := ok__law_same T (w := w) (base := base) 4
  have g__law_bits := ok__law_bits T (w := w) (base := base)
  have g__law_worths := ok__law_worths T (w := w) (base := base)
  have g__law_shown := ok__law_shown T g__law_worths
  have g__law_readers := ok__law_readers T (w := w) (base := base)
  have g__law_wire := ok__law_wire T g__law_take
  have g__law_drawn := ok__law_drawn T g__law_take g__law_wire
  have g__law_chain := ok__law_chain T g__law_draw
  have g__law_second := ok__law_second T g__law_draw g__law_drawn g__law_wire
  have g__law_values_right := ok__law_values_right T g__law_same g__law_shown g__law_worths c_evaluate c_wire_values
  have g__law_counts_right := ok__law_counts_right T g__law_readers g__law_same g_reader_counts
  have g__law_table_right := ok__law_table_right T g__law_same g__law_shown c_truth_table
  have g__law_parted := ok__law_parted T g__law_shown
  have g__law_difference_right := ok__law_difference_right T g__law_parted g__law_same c_difference
  have g__law_told_values := ok__law_told_values T g_wire_values
  have g__law_told_outputs := ok__law_told_outputs T g_evaluate
  have g__law_told_table := ok__law_told_table T g_truth_table
  have g__law_told_difference := ok__law_told_difference T g_difference
  have g__law_by_base := ok__law_by_base T g_evaluate
  have g__law_values_refused := ok__law_values_refused T g__law_by_base g__law_same g__law_told_outputs g__law_told_values
  have g__law_sizes_refused := ok__law_sizes_refused T g__law_same g__law_told_difference g__law_told_table
  have g__law_wide_refused := ok__law_wide_refused T g__law_same g__law_told_difference g__law_told_table
  exact ok_law T g__law_bits g__law_chain g__law_counts_right g__law_difference_right g__law_draw g__law_drawn g__law_pool g__law_second g__law_sizes_refused g__law_table_right g__law_values_refused g__law_values_right g__law_wide_refused
theorem facts {h : Heap} {fa0 : Addr} (X : K.In h) (G : h.Ns mainGlobals mg) (hfa : mg ("law" : Str) = some (.ref fa0)) (c : SaysF fa fn theFile er ex K) (pf : FileOk P theFile) :
    ∃ fd : FuncData, (∀ (s : Shared) (v : Value), BindsTo s fd ⟨[v], []⟩ [("script", v)]) ∧ ∀ base : Heap, K.In base → base.Ns mainGlobals mg → FnOk P w K mg base CX0 8 fa0 fd ["script"] (sp_law K) := by
  have T : Txt P K mg := txt_of pf X G c
  have e := hfa.symm.trans T.f_law.g
  cases e
  have b := FunD.bindsA (ps := ["script"]) T.f_law.f fun _ _ _ _ _ _ us hl => match us, hl with | [_], _ => rfl
  exact ⟨fdOf K "law", fun s v => b s [v] rfl, fun base _ _ => all T⟩
end
end K19
open PySem PySem.W PySem.Calls PyProof.Rows
theorem PySem.Challenge.cw_gatesofcloth_k19_worths_and_truth_tables_holds : PySem.Challenge.rw_gatesofcloth_k19_worths_and_truth_tables.Holds := by
  w_on; o_law
  refine HandSHeadRun.head_any (r := OpenLaw.row PySem.Challenge.rw_gatesofcloth_k19_worths_and_truth_tables) (q := view (OpenLaw.row PySem.Challenge.rw_gatesofcloth_k19_worths_and_truth_tables).prog [46]) (H := K19.hk) (ob := K19.ob) (M := 12000) (loose := K19.names) (d := HandSHeadRun.topDef (OpenLaw.row PySem.Challenge.rw_gatesofcloth_k19_worths_and_truth_tables).prog 46) (kwd := []) K19.ob_eq
    (by kernel_rfl) (fun s => by kernel_rfl) K19.run (by kernel_rfl) (by kernel_rfl) (by kernel_rfl) (by rfl) (by first | assumption | decide +kernel) (by decide +kernel) ⟨rfl, rfl, rfl, rfl, rfl, by decide +kernel⟩ ?hw ?hc
  case hw => w_witness2
  case hc =>
    refine L2.walk_ofE (l := PySem.Challenge.rw_gatesofcloth_k19_worths_and_truth_tables) (n := 63) (k := 8) (x := "script") (CX := L2.CX0) rfl (by decide) (by kernel_rfl) ⟨rfl, by decide, by decide⟩ ?F (fun _ _ _ _ z => z)
    intro w mg fa h Y G hmg0
    obtain ⟨K, KX, c⟩ := Y
    have hmg : mg ("law" : PySem.Str) = some (.ref fa) := by
      have e : (HandSHeadRun.topDef (OpenLaw.row PySem.Challenge.rw_gatesofcloth_k19_worths_and_truth_tables).prog 46).name = ("law" : PySem.Str) := by kernel_rfl
      rw [← e]
      exact hmg0
    obtain ⟨fd, hb, hF⟩ := K19.facts (P := (PySem.Challenge.rw_gatesofcloth_k19_worths_and_truth_tables).prog) (w := w) KX G hmg c ⟨by decide +kernel, by decide +kernel⟩
    exact ⟨K, fd, K19.sp_law K, KX, hb, fun H a ns hl hz hS => ⟨a, ns, rfl, hS, hl, fun _ => rfl⟩, hF⟩
