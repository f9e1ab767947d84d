import PyProof.Rows.All
import Wide.All
import OpenK.AllK
import Wide.FinOn
import HandS.ForMost
import HandS.Exc
import HandS.ExcCtx
import HandS.HotCalls
import HandS.ExcIs
import HandS.ExcField
import HandS.ExcInit
import KE.KExcSuper
import KE.KExcIs
import HandS.Codes
import HandS.Conv
import HandS.More
import HandS.IsInst
import HandS.Style
import HandS.Flow
import PySem.Challenge.RW_kindsofarrows_k86_whole_greatest_flow
import HandS.ExcBuiltin
set_option Elab.async false
set_option linter.all false
set_option maxRecDepth 100000
set_option maxHeartbeats 4000000
namespace Kx
open PySem PySem.W PySem.Calls PyProof.Rows PySem.HandSPX
/-! ### an own error whose __init__ says super().__init__('..'); self.f = f -/
/-- the places in the text -/
structure EPos where
  p1 : Pos
  p2 : Pos
  q0 : Pos
  q1 : Pos
  q2 : Pos
  q3 : Pos
  q4 : Pos
  q5 : Pos
  q6 : Pos
  q7 : Pos
  q8 : Pos
  q9 : Pos
  j : Nat
def eArgs (f : Str) (Z : EPos) : Arguments :=
  { posonlyargs := [], args := [{ arg := "self", annotation := none, pos := Z.p1 }, { arg := f, annotation := none, pos := Z.p2 }], vararg := none, kwonlyargs := [], kw_defaults := [], kwarg := none, defaults := [] }
abbrev eCall (t : Str) (Z : EPos) : Expr := .Call (.Attribute (.Call (.Name "super" Z.q0) [] [] Z.q1) "__init__" Z.q2) [.Constant (.str t) Z.j Z.q3] [] Z.q4
def eBody (t f : Str) (Z : EPos) : List Stmt := [.Expr (eCall t Z) Z.q5, .Assign [.Attribute (.Name "self" Z.q6) f Z.q7] (.Name f Z.q8) Z.q9]
def eScope (f : Str) : Scope := { kind := .function, names := [(("self" : Str), .local), (f, .local), ("__class__", .free), ("super", .globalImplicit)], isGenerator := false, isCoroutine := false, more := [] }
/-- what the written part says of the class at C, of its __init__ at fI -/
structure ErrTxt (P : Program) (K : Frag) (mg : Str → Option Value) (x f : Str) (C fI : Addr) : Prop where
  gC : mg x = some (.ref C)
  cls : ∃ nm q N bs bm sn sub ab col dd k0 k1 k2 k3 k5, K.lookup C = some (excClassObj nm q C N bs bm true sn sub ab col dd k0 k1 k2 k3 k5 "ValueError.__new__") ∧ refsVE bm = true
  sa : findIn K (.ref C) "__setattr__" = some (some (.builtin "object.__setattr__"))
  noF : findIn K (.ref C) f = some none
  iC : findIn K (.ref C) "__init__" = some (some (.ref fI))
  tI : typeIn K (.ref fI) = some (.type "function")
  kC : keepIn K (.ref C) = true
  exC : subIn K (.ref C) (.type "BaseException") = some true
  veC : subIn K (.ref C) (.type "ValueError") = some true
  tyC : typeIn K (.ref C) = some (.type "type")
  sup : ks_superIn K C C "__init__" = some (some (.builtin "ValueError.__init__"))
  msub : mroIn K C (.ref C) = some true
  opq : nsIn K cStatics "thirdparty.any" = some none
  msup : mg "super" = none
  top : (P.main.scope.names.lookup ("super" : Str)).isSome = false
  fn : ∃ (qual t : Str) (Z : EPos) (oc doc pm ct cl ccl : Value) (od an cld cdd : Option Addr) (osl csl ccs : Array (Option Value)) (cda cc : Addr) (vs : Array Value) (file : Str) (tf : Tok),
    K.lookup fI = some ⟨oc, od, .func (fnX "__init__" qual (eArgs f Z) (eBody t f Z) (eScope f) [("__class__", cc)] .none .none doc pm an (.ref cda) ct), osl⟩ ∧
    codeIn K (.ref cda) qual = true ∧ K.lookup cda = some ⟨ccl, cdd, .fields vs, ccs⟩ ∧ vs[2]? = some (.str file tf) ∧ ((P.main.file : Str) == file) = true ∧
    K.lookup cc = some ⟨cl, cld, .cell (some (.ref C)), csl⟩ ∧
    (∀ (e : Addr) (v : Value), bindArgs (fnX "__init__" qual (eArgs f Z) (eBody t f Z) (eScope f) [("__class__", cc)] .none .none doc pm an (.ref cda) ct) ⟨[.ref e, v], []⟩ = pure [(("self" : Str), Value.ref e), (f, v)]) ∧
    (∀ L : Addr, ∃ pl : Sem Bool, eval (eCall t Z) (envX qual (eScope f) L fI (.ref cda) [("__class__", cc)]) = (do
      let ov ← attributeBase (.Call (.Name "super" Z.q0) [] [] Z.q1) "__init__" (envX qual (eScope f) L fI (.ref cda) [("__class__", cc)]) (eval (.Call (.Name "super" Z.q0) [] [] Z.q1) (envX qual (eScope f) L fI (.ref cda) [("__class__", cc)]))
      standAt Z.q2.atName
      let (g, first) ← holding [ov] (getMethod ov "__init__" pl)
      callWith Z.q4 g first (backTo Z.q4 (starEach [.Constant (.str t) Z.j Z.q3] (envX qual (eScope f) L fI (.ref cda) [("__class__", cc)]))) []))
  nself : ¬ f = "self"
  nsup : ¬ f = "super"
  ncls : ¬ f = "__class__"
  ndbg : (f == ("__debug__" : Str)) = false
/-- what __init__ leaves of a fresh exception at x -/
structure InitOk (h h' : Heap) (f : Str) (x C dx t1 : Addr) (v : Value) : Prop where
  keep : ∀ b o, b ≠ x → h.get? b = some o → h'.get? b = some o
  obj : h'.get? x = some { cls := .ref C, dict := some dx, data := .fields #[.ref t1, .none, .none, .none, .bool false, .none] }
  dbig : h.objs.size ≤ dx
  dne : dx ≠ x
  ns : h'.Ns1 dx (fun y => if y = f then some v else none)
section
variable {P : Program} {w : World} {A : Around} {E : Value → Shared → Prop} {R : Result → Shared → Prop} {s : Shared} {K : Frag} {mg : Str → Option Value} {x f : Str} {C fI : Addr}
/-- the bound built-in __init__, called -/
theorem vInit_call {g : Array GenState} {d : Drawn} {tk : Nat} {os : OsState} {hp : Heap} {nm q : Str} {N u e t0 : Addr} {bs bm : List Value} {hdct : Bool} {sn : List Str} {sub : List Value} {ab : Bool} {col : Option Bool} {dd : Option Addr} {k0 k1 k2 k3 k5 : Option Value} {ws : Value} {Q : Value → Shared → Prop}
    (hC : hp.get? C = some (excClassObj nm q C N bs bm hdct sn sub ab col dd k0 k1 k2 k3 k5 "ValueError.__new__")) (he : hp.get? e = some (excO C t0)) (hu : hp.get? u = some (kxs_mw "ValueError.__init__" e))
    (hq : ∀ h' t1, (∀ b o, b ≠ e → hp.get? b = some o → h'.get? b = some o) → h'.get? e = some (excO C t1) → Q .none ⟨h', g, d, tk, os⟩) :
    wpAny (model P w) A (call (.ref u) [ws]) Q E ⟨hp, g, d, tk, os⟩ := by
  have FB := F.excBase_ValueError
  refine wpAny_call (codeAny_of_tree ?_)
  show wpAny _ A.in1 (callAny (.ref u) ⟨[ws], []⟩) _ _ _
  unfold callAny
  refine wpAny_bind (wpAny_load hu ?_)
  refine KFB.if_so (show (Value.type "method-wrapper" == Value.type "method" || Value.type "method-wrapper" == Value.type "builtin_function_or_method" || Value.type "method-wrapper" == Value.type "method-wrapper") = true by decide) ?_
  refine KFB.if_so (show (Value.type "method-wrapper" != Value.type "method") = true by decide) ?_
  refine wpAny_bind (check_bound_init FB.toExcCallFacts hC he rfl (wpAny_pure ⟨plainId_quiet FB.init.plain _, codeAny_builtin FB.initEntry ?_⟩))
  refine exc_init_tree (cls := .ref C) (t0 := t0) (dv := none) (c2 := .none) (c3 := .none) (b4 := .bool false) he (by show 1 ≤ sizeLine; rw [sizeLine_eq]; decide) fun h' k z _ => ?_
  exact hq h' _ k z
theorem lookup4 {f : Str} (hf : ¬ f = "self") : List.lookup f [(("self" : Str), NameKind.local), (f, .local), ("__class__", .free), ("super", .globalImplicit)] = some .local := by
  have h : (f == ("self" : Str)) = false := by simpa using hf
  simp [List.lookup, h]
theorem err_init (T : ErrTxt P K mg x f C fI) {e t0 : Addr} {v : Value} (X : K.In s.heap) (hlim : s.heap.NoLimit) (hg : s.heap.Ns mainGlobals mg) (hb : ∃ mb, s.heap.Ns builtinsNs mb ∧ ∀ x : Str, x ≠ "__name__" → mb x = bootBuiltins x)
    (hx : s.heap.get? e = some (excO C t0)) (hnx : K.lookup e = none) (hroom : A.depth < recursionLimit)
    (hq : ∀ h' tk dx t1, InitOk s.heap h' f e C dx t1 v → R (.ok (.ret .none)) { s with heap := h', toks := tk }) :
    codeAny (model P w) A (.call (.ref fI) ⟨[.ref e, v], []⟩) R s := by
  obtain ⟨qual, t, Z, oc, doc, pm, ct, cl, ccl, od, an, cld, cdd, osl, csl, ccs, cda, cc, vs, file, tf, ho, hcd, hco, hvs, hfile, hcell, hbnd, hmc⟩ := T.fn
  obtain ⟨nm, q, N, bs, bm, sn, sub, ab, col, dd, k0, k1, k2, k3, k5, hC, hbm⟩ := T.cls
  have hcl : clsIn K C = some { name := nm, bases := bs, mro := .ref C :: bm, ns := N, qualname := q, hasDict := true, slotNames := sn, subclasses := sub, abstract := ab, collection := col, hasDel := false } := by unfold clsIn; rw [hC] <;> rfl
  refine ks_codeAny_call_defAt (binds := [(("self" : Str), Value.ref e), (f, v)]) hroom (X _ _ ho) rfl hlim (codeRec_of X hcd) rfl (.of_eq (hbnd e v)) ?_ ?_ (fun h₁ hns k₁ => ?_) rfl rfl rfl
  · intro y hy
    have hy : y ∈ (eScope f).names := hy
    simp [eScope] at hy
    rcases hy with h | h | h | h <;> rw [h] <;> simp
  · intro y hy
    simp at hy
    rcases hy with h | h
    · rw [h]; rfl
    · rw [h]; exact lookup4 T.nself
  · have X1 : K.In h₁ := X.keeps k₁
    have hx1 := k₁ _ _ hx
    have e1 : ([(("self" : Str), Value.ref e), (f, v)].reverse.lookup ("self" : Str)) = some (.ref e) := by
      have h : (("self" : Str) == f) = false := by simpa using fun z => T.nself (Eq.symm z)
      simp [List.lookup, h]
    have e2 : ([(("self" : Str), Value.ref e), (f, v)].reverse.lookup f) = some v := by
      simp [List.lookup]
    obtain ⟨mb, hb1, hb2⟩ := hb
    obtain ⟨pl, hm⟩ := hmc s.heap.objs.size
    show _root_.PySem.wpAt (model P w) (A.deeper (envX qual (eScope f) s.heap.objs.size fI (.ref cda) [("__class__", cc)])) (.func (eBody t f Z) (envX qual (eScope f) s.heap.objs.size fI (.ref cda) [("__class__", cc)])) (execs (eBody t f Z) (envX qual (eScope f) s.heap.objs.size fI (.ref cda) [("__class__", cc)])) _ _ _
    generalize hL : s.heap.objs.size = L at hns hm ⊢
    have nl : e ≠ L := by rw [← hL]; exact Nat.ne_of_lt (Heap.lt_size hx)
    have kS : (eScope f).names.lookup ("super" : Str) = some .globalImplicit := by
      have h1 : (("super" : Str) == f) = false := by simpa using fun z => T.nsup (Eq.symm z)
      have h2 : (("super" : Str) == ("self" : Str)) = false := by decide
      have h3 : (("super" : Str) == ("__class__" : Str)) = false := by decide
      simp [eScope, List.lookup, h1, h2, h3]
    have kC : (eScope f).names.lookup ("__class__" : Str) = some .free := by
      have h1 : (("__class__" : Str) == f) = false := by simpa using fun z => T.ncls (Eq.symm z)
      have h2 : (("__class__" : Str) == ("self" : Str)) = false := by decide
      simp [eScope, List.lookup, h1, h2]
    refine ks_wpAt_execs_cons (ks_wpAt_Expr_any (ks_wpAt_MethodCall ?_ hm))
    refine ks_wpAt_super_base (env := envX qual (eScope f) L fI (.ref cda) [("__class__", cc)]) kS kC rfl rfl (X1 _ _ ho) rfl rfl rfl (X1 _ _ hco) rfl hvs hfile T.top ?_
    refine ks_loadName_global rfl kS (loadGlobal_builtin (env := envX qual (eScope f) L fI (.ref cda) [("__class__", cc)]) (hg.keeps k₁) T.msup (hb1.keeps k₁) ((hb2 _ (by decide)).trans (by decide +kernel)) ⟨rfl, ?_⟩)
    refine wpAny_loadName_free rfl kC rfl ⟨_, X1 _ _ hcell, rfl⟩ ?_
    refine wpAny_loadName_local rfl rfl hns e1 ?_
    refine ks_wpAny_isType_cls (X1 _ _ hC) rfl ⟨rfl, ?_⟩
    refine ks_wpAny_call_super (X1 _ _ hC) rfl hx1 rfl (fun c z => ?_) (looks_mroIn X1 T.msub) (fun h₂ hso k₂ => ?_)
    · cases z
    · -- super().__init__
      have X2 : K.In h₂ := X1.keeps k₂
      have hx2 := k₂ _ _ hx1
      have I2 : InstAt h₂ e (excO C t0) C none := ⟨hx2, rfl, rfl, trivial⟩
      have hI : Looks (model P w) h₂ (isInstance (.ref e) (.type "ValueError")) true := I2.type.andThen (looks_subIn X2 T.veC)
      have halong : alongIn K "__init__" (((.ref C :: bm : List Value).dropWhile (· != .ref C)).drop 1) = some (some (.builtin "ValueError.__init__")) := by
        have z := T.sup
        unfold ks_superIn at z
        rw [hcl] at z
        exact z
      have hmro : Looks (model P w) h₂ (mroOf (.ref C)) (.ref C :: bm) := (looks_clsIn X2 hcl).andThen .now
      refine kxs_getMethod kxs_ValueError hso (looks_opaque X2 T.opq) hmro rfl X2 halong hI (ks_ne X2 I2 hcl) (by decide) ?_
      generalize hh3 : h₂.push (kxs_mw "ValueError.__init__" e) = h₃
      have hu : h₃.get? h₂.objs.size = some (kxs_mw "ValueError.__init__" e) := by rw [← hh3]; exact Heap.get?_push_at rfl rfl
      have k₃ : ∀ b o, h₂.get? b = some o → h₃.get? b = some o := fun b o z => by rw [← hh3]; exact Heap.get?_push_of_some _ z
      have hx3 := k₃ _ _ hx2
      generalize h₂.objs.size = u at hu ⊢
      show wpAny _ _ (callWith Z.q4 (.ref u) [] [(false, eval (.Constant (.str t) Z.j Z.q3) (envX qual (eScope f) L fI (.ref cda) [("__class__", cc)]))] []) _ _ _
      refine kxs_callWith (i := "ValueError.__init__") (x := e) rfl (evalArgs_plain (Calls.spliced_cons (Constant_str (Calls.spliced_nil ⟨hu, ?_⟩))))
      show wpAny _ _ (call (.ref u) [.str t (s.toks + 2 + 1)]) _ _ _
      have X3 : K.In h₃ := X2.keeps k₃
      have hT : ∀ Y : String, bm.contains (.type Y) = [Value.type "ValueError", .type "Exception", .type "BaseException", .type "object"].contains (.type Y) := fun Y => refsVE_contains Y bm hbm
      refine vInit_call (X3 _ _ hC) hx3 hu (fun h₄ t₄ k₄ hx4 => ?_)
      have X4 : K.In h₄ := fun b o z => k₄ b o (fun y => by rw [y, hnx] at z; cases z) (X3 b o z)
      have nLe : ∀ {b : Addr}, b = L → b ≠ e := fun q z => nl (z.symm.trans q)
      have hns4 : h₄.Ns L (fun x => List.lookup x [(("self" : Str), Value.ref e), (f, v)].reverse) := by
        obtain ⟨oL, es, ep, hoL, r⟩ := hns
        exact ⟨oL, es, ep, k₄ _ _ (nLe rfl) (k₃ _ _ (k₂ _ _ hoL)), r⟩
      show _root_.PySem.wpAt _ _ _ (execs _ _) _ _ _
      refine ks_wpAt_execs_cons (wpAt_of_wpAny (plainObj_wpAny_Assign_Attribute ?_))
      have kf : (envX qual (eScope f) L fI (.ref cda) [("__class__", cc)]).kindOf f = some .local := lookup4 T.nself
      refine wpAny_Name (wpAny_loadName_local rfl kf hns4 e2 ?_) T.ndbg
      refine wpAny_Name (wpAny_loadName_local rfl rfl hns4 e1 ?_) (by decide)
      refine set_plain X4 (ox := excO C t₄) (od := none) ⟨hx4, rfl, rfl, trivial⟩ T.sa ?_
      refine exc_osa X4 hx4 hcl (show refsVE (.ref C :: bm) = true from hbm) rfl T.noF (fun h₅ tk₅ dx k₅ dn dne hx5 hn5 => ?_)
      show _root_.PySem.wpAt _ _ _ (execs [] _) _ _ _
      refine wpAt_of_wpAny (wpAny_execs_nil ?_)
      have up : ∀ b o, b ≠ e → s.heap.get? b = some o → h₄.get? b = some o := fun b o hb z => k₄ b o hb (k₃ b o (k₂ b o (k₁ b o z)))
      refine hq h₅ tk₅ dx t₄ ⟨fun b o hb z => k₅ b o hb (up b o hb z), hx5, ?_, dne, hn5⟩
      rw [hL]
      exact Nat.le_trans (Nat.le_of_lt hns4.lt) dn
/-- a made error -/
structure ErrMade (h h' : Heap) (f : Str) (e C d : Addr) (v : Value) : Prop where
  keep : ∀ b o, h.get? b = some o → h'.get? b = some o
  new : h.objs.size ≤ e
  obj : ∃ t1 : Addr, h'.get? e = some { cls := .ref C, dict := some d, data := .fields #[.ref t1, .none, .none, .none, .bool false, .none] }
  dbig : h.objs.size ≤ d
  dne : d ≠ e
  ns : h'.Ns1 d (fun y => if y = f then some v else none)
theorem err_made (T : ErrTxt P K mg x f C fI) {v : Value} (X : K.In s.heap) (hlim : s.heap.NoLimit) (hg : s.heap.Ns mainGlobals mg) (hb : ∃ mb, s.heap.Ns builtinsNs mb ∧ ∀ x : Str, x ≠ "__name__" → mb x = bootBuiltins x) (hroom : A.depth + 1 < recursionLimit)
    (hq : ∀ h' tk e d, ErrMade s.heap h' f e C d v → R (.ok (.ret (.ref e))) { s with heap := h', toks := tk }) :
    codeAny (model P w) A (.call (.ref C) ⟨[v], []⟩) R s := by
  obtain ⟨nm, q, N, bs, bm, sn, sub, ab, col, dd, k0, k1, k2, k3, k5, hC, hbm⟩ := T.cls
  obtain ⟨hp, g, dr, tk, os⟩ := s
  have k : ∀ b o, hp.get? b = some o → ((hp.push (kdv_tup [v])).push (excO C hp.objs.size)).get? b = some o := fun b o z => Heap.get?_push_of_some _ (Heap.get?_push_of_some _ z)
  have hget : ((hp.push (kdv_tup [v])).push (excO C hp.objs.size)).get? (hp.objs.size + 1) = some (excO C hp.objs.size) := by heap_get
  have hnx : K.lookup (hp.objs.size + 1) = none := by
    cases z : K.lookup (hp.objs.size + 1) with
    | none => rfl
    | some o =>
      have y : hp.get? (hp.objs.size + 1) = some o := X _ _ z
      exact absurd (Nat.lt_of_succ_lt (Heap.lt_size y)) (Nat.lt_irrefl _)
  obtain ⟨mb, hb1, hb2⟩ := hb
  refine call_own F.excBase_ValueError (fun Y => refsVE_contains Y bm hbm) (X _ _ hC) (looks_findIn X T.iC) (fun self => bind_fn X self T.tI) (by show 1 ≤ sizeLine; rw [sizeLine_eq]; decide) ?_
  refine err_init (s := ⟨(hp.push (kdv_tup [v])).push (excO C hp.objs.size), g, dr, tk, os⟩) T (X.keeps k) (hlim.keeps k) (hg.keeps k) ⟨mb, hb1.keeps k, hb2⟩ hget hnx ?_ fun h' tk' dx t1 ⟨k', hx, dn, dne, hns⟩ => ?_
  · show A.depth + 1 < recursionLimit
    exact hroom
  · have z : hp.objs.size + 1 + 1 ≤ dx := by
      first
        | (simpa only [Heap.size_push] using dn)
        | exact dn
        | (have q := dn; rw [Heap.size_push, Heap.size_push] at q; exact q)
    exact ⟨rfl, hq h' tk' (hp.objs.size + 1) dx ⟨fun b o y => k' b o (Nat.ne_of_lt (Nat.lt_succ_of_lt (Heap.lt_size y))) (k b o y), Nat.le_succ _, ⟨t1, hx⟩, Nat.le_trans (Nat.le_trans (Nat.le_succ _) (Nat.le_succ _)) z, dne, hns⟩⟩
end
end Kx
namespace Kx
open PySem PySem.Spec PyProof.Rows L2
theorem relO_one {v : V} {u : Value} (r : RelV v u) (f y : Str) : RelO (List.lookup y [(f, v)]) (if y = f then some u else none) := by
  by_cases h : y = f
  · subst h
    rw [if_pos rfl]
    have q : List.lookup y [(y, v)] = some v := by simp [List.lookup]
    rw [q]
    exact r
  · rw [if_neg h]
    have q1 : (y == f) = false := by simpa using h
    have q2 : List.lookup y [(f, v)] = none := by simp [List.lookup, q1]
    rw [q2]
    trivial
section
variable {X : Cx} {x f : Str} {C fI : Addr}
/-- C(e) -/
def tMkE (C : Addr) (f : Str) (ta : TA) : L2.St → Hp → XK → Prop := fun σ H Q => ta σ H fun vs H1 => ∃ v, vs = [v] ∧ ∀ d, H1 d = none → Q (.ref C) (some d) (upd H1 d (.xd [(f, v)]))
theorem pmk_err {a : Expr} {ta : TA} {p pos : Pos} {k : Nat} (T : ErrTxt X.prog X.K X.mg x f C fI) (hr : Room k X.A) (ha : PA X [a] ta) (hg : Gl X x := by rfl) (hdb : (x == ("__debug__" : Str)) = false := by decide)
    (he : starEach (a :: []) X.env = (false, eval a X.env) :: starEach [] X.env := by rfl) (hpl : (backTo pos (starEach [] X.env)).any (·.1) = false := by rfl) :
    L2N.PMk X (.Call (.Name x p) [a] [] pos) (tMkE C f ta) := by
  intro pins s σ H Q I h
  refine wpAny_Call_Name_kw (ld_glob I hg T.gC ?_ hdb)
  refine PySem.W.callWith_K (h₀ := X.base) I.ok.mod.kin T.kC (thn (ha.run pos pins s σ H _ I h) fun us s1 hh => ?_) he hpl
  obtain ⟨vs, H1, I1, r1, v, ev, q1⟩ := hh
  subst ev
  refine ⟨I1.kIn, ?_⟩
  cases r1 with
  | cons rv rn =>
    rename_i v' us'
    cases rn
    show wpAny _ _ (call (.ref C) [v']) _ _ _
    have hlim := I1.nolimit
    obtain ⟨mb, b1, b2⟩ := I1.mod.blt
    have hmod := I1.mod.glob.keeps I1.bk
    have hblt := b1.keeps I1.bk
    obtain ⟨hp, g, d, t, os⟩ := s1
    refine wpAny_call (err_made T I1.kIn hlim hmod ⟨mb, hblt, b2⟩ (by have := hr.dp; omega) fun h' tk' e d M => ?_)
    show L2N.MkP X pins σ Q (.ref e) ⟨h', g, _, tk', os⟩
    obtain ⟨t1, hoe⟩ := M.obj
    have hns := M.ns
    obtain ⟨G', g1, g2⟩ := restrict h' fun b => decide (b ≠ e)
    have gk : ∀ b, b ≠ e → G'.get? b = h'.get? b := fun b hb => g1 b (decide_eq_true hb)
    have ge : G'.get? e = none := g2 e (by simp)
    have old : ∀ b o, hp.get? b = some o → G'.get? b = some o := fun b o q => (gk b (Nat.ne_of_lt (Nat.lt_of_lt_of_le (Heap.lt_size q) M.new))).trans (M.keep b o q)
    have ob : ObjOk X.prog X.w (upd H1 d (.xd [(f, v)])) G' d (.xd [(f, v)]) :=
      ⟨_, hns.at (fun o q => (gk d M.dne).trans q), fun y => relO_one rv f y⟩
    have J : Inv X pins σ (upd H1 d (.xd [(f, v)])) ⟨G', g, _, tk', os⟩ := I1.laid (t' := tk') old M.dbig ob
    refine ⟨e, _, _, ⟨G', g, _, tk', os⟩, _, .ref C, some d, rfl, J, fun b o q => ?_, ge, hoe, ⟨rfl, rfl, fun vs z => ?_⟩, rfl, rfl, ?_, rfl, I1.bare, raises_own T.exC T.tyC, q1 d (I1.hok.fresh M.dbig)⟩
    · by_cases hb : b = e
      · have q' : G'.get? b = some o := q
        rw [hb, ge] at q'; cases q'
      · exact (gk b hb).symm.trans q
    · cases z; rfl
    · rw [upd_ne (Ne.symm M.dne)]
      exact I1.hok.fresh M.new
end
end Kx
namespace Kx
open PySem PySem.Spec PyProof.Rows L2 HotX L2H
/-! ### isinstance(e, c), e the error that the suite holds, with a dict of its own -/
structure ErrIs (K : PySem.W.Frag) (D : Addr) : Prop where
  cl : (PySem.W.clsIn K D).isSome = true
  ga : PySem.W.findIn K (.ref D) "__getattribute__" = some (some (.builtin "BaseException.__getattribute__"))
  gg : PySem.W.findIn K (.ref D) "__getattr__" = some none
  sb : PySem.W.subIn K (.ref D) (.type "BaseException") = some true
  ca : PySem.W.findIn K (.ref D) "__class__" = some (some (.builtin "object.__class__"))
  cg : PySem.W.specialIn K (.builtin "object.__class__") "__get__" = some (some (.builtin "getset_descriptor.__get__"))
  ct : PySem.W.takesIn K (.builtin "object.__class__") = some true
  mo : PySem.W.mroIn K D (.type "object") = some true
def rIsX (K : PySem.W.Frag) (a : Addr) (cls : Value) (d : Option Addr) : List V → Hp → VK → Prop := fun xs H Q => ∃ (c : V) (cv : Value) (D dx : Addr) (fs : List (Str × V)) (b : Bool),
  xs = [.ref a, c] ∧ cls = .ref D ∧ d = some dx ∧ ErrIs K D ∧ (∀ u, RelV c u → u = cv) ∧ H dx = some (.xd fs) ∧ PySem.W.kitOne K (.ref D) cv = some b ∧ Q (.bl b) H
theorem call_isX {X : Cx} {a : Addr} {cls : Value} {d : Option Addr} {oe : Obj} {pn : List (Addr × Obj)} (hz : Zc cls d oe) (hf : ∃ vs, oe.data = .fields vs) : CallR (X.suite a ((a, oe) :: pn)) (.builtin "isinstance") (rIsX X.K a cls d) := by
  intro pins s σ H xs us Q I r h
  obtain ⟨c, cv, D, dx, fs, b, rfl, rfl, rfl, T, hcv, hd, e, q⟩ := h
  match us, r with
  | _, .cons rx (.cons rt .nil) =>
    cases rx
    have ec := hcv _ rt
    subst ec
    obtain ⟨hget, _⟩ := I.pin (a, oe) (List.mem_append.mpr (.inl List.mem_cons_self))
    obtain ⟨vs, hv⟩ := hf
    have hx : ObjOk X.prog X.w H s.heap dx (.xd fs) := I.hok dx _ hd
    obtain ⟨mA, hns, _⟩ := hx
    obtain ⟨od, es, ep, ho, _⟩ := hns
    have J : PySem.W.InstAt s.heap a oe D (some od) := ⟨hget, hz.1, by unfold PySem.W.notCls; rw [hv] <;> rfl, by rw [hz.2]; exact ho⟩
    exact PySem.W.kia_one (PySem.W.kitx_exc T.cl T.ga T.gg T.sb T.ca T.cg T.ct T.mo) I.kIn J e (fun z => nomatch z) fun tk => ⟨.bl b, H, I.kept (t' := tk) fun _ _ z => z, rfl, q⟩

/-! ### a list walked while an error is handled -/
theorem list_end_hot {prog : Program} {w : World} {A : Around} {E : Value → Shared → Prop} {s : Shared} {it l x1 : Addr} {i : Nat} {items : Array Value} {Q : Option Value → Shared → Prop} (hot : HotAt A x1 s.heap) (hne : x1 ≠ it)
    (hit : s.heap.IsListIter it l i) (hl : s.heap.IsList l items) (hx : items[i]? = none) (hQ : ∀ h', Heap.ExtBut it s.heap h' → Q none { s with heap := h' }) : wpAny (model prog w) A (pyNext (.ref it)) Q E s := by
  obtain ⟨o, ho, hc, hd⟩ := id hit
  obtain ⟨ol, hol, _, nl, hdl⟩ := hl
  obtain ⟨hh, o1, vs1, h1, d1, c1⟩ := hot
  unfold pyNext
  refine wpAny_bind (wpAny_attempt (wpAny_callSpecial?_slot (name := Str.ofString "__next__") hit.typeIs slot_listiter_next (wpAny_call_entry slot_listiter_next hit.typeIs entry_listiter_next ?_ (args_listiter_next _))))
  show wpAny _ _ (field (.ref it) 0 >>= _) _ _ s
  refine wpAny_bind (wpAny_field ho hd (x := .ref l) rfl ?_)
  show wpAny _ _ (if (Value.ref l == Value.none) = true then _ else _) _ _ s
  rw [if_neg (show ¬ ((Value.ref l == Value.none) = true) from Bool.false_ne_true)]
  show wpAny _ _ (field (.ref it) 1 >>= _) _ _ s
  refine wpAny_bind (wpAny_field ho hd (x := .int i 0) rfl (?_ : wpAny _ _ (seqItems? (.ref l) >>= _) _ _ s))
  refine wpAny_bind (wpAny_seqItems hol hdl ?_)
  simp only [Int.toNat_natCast, hx]
  refine wpAny_bind (wpAny_rule (wpAny_bind (wpAny_setField ho hd (by simp) ?_)))
  have hk : ∀ b ob, b ≠ it → s.heap.get? b = some ob → (s.heap.update it (Obj.mapFields (·.setIfInBounds 0 .none))).get? b = some ob := fun b ob hb z => by
    rw [Heap.get?_update_other _ _ (Ne.symm hb)]; exact z
  show wpAny _ _ (newExc (.type "StopIteration") [] >>= _) _ _ _
  refine wpAny_bind ?_
  simp only [newExc, newTuple]
  refine wpAny_bind (wpAny_newObj_type ?_ (by size_fits))
  refine wpAny_bind (m := firstArgMember _ _) (wpAny_of_eq (a := Value.none) (by first | rfl | (simp only [firstArgMember]; rfl)) ?_)
  refine wpAny_newObj_type ?_ (by size_fits)
  have h1' := hk x1 o1 hne h1
  refine raiseNew_hot ⟨hh, o1, vs1, Heap.get?_push_of_some _ (Heap.get?_push_of_some _ h1'), d1, c1⟩ (Nat.ne_of_lt (Heap.lt_size (Heap.get?_push_of_some _ h1'))) (Heap.get?_push_size _ rfl) rfl (by first | (simp; done) | (simp; omega)) ?_
  refine wpAny_bind (wpAny_isInstance (T := "StopIteration") (b := true) ⟨_, Heap.get?_update_self _ (Heap.get?_push_size _ rfl) rfl, rfl⟩ isSubtype_stop (wpAny_pure (hQ _ fun b ob hb z => ?_)))
  have z' := hk b ob hb z
  rw [Heap.get?_update_other _ _ (Nat.ne_of_gt (Heap.lt_size (Heap.get?_push_of_some _ z')))]
  exact Heap.get?_push_of_some _ (Heap.get?_push_of_some _ z')
/-- the comprehension [elt for tg in xs if ..] over a list, in an except suite; p: the handled error, its object -/
theorem lc_hot {X : Cx} {pins : List (Addr × Obj)} {s : Shared} {σ : L2.St} {H : Hp} {Q : VK} {elt tg l : Expr} {ifs : List Expr} {scope : Scope} {own : List (Str × Nat)} {pos : Pos} {tl : TE} {g : TG} {tt : TT} {te : TE}
    (hc : HotC X) (hN : X.N.Nodup) (I : Inv X pins σ H s) (hl : PE X l tl) (ok : BlkOk X.N X.env.scope scope own)
    (hg : ∀ (s : Shared) (H : Hp) (C : Addr) (cl : List (Str × Addr)) (fp : List Addr), PG (X.blk s H scope (compEnvC scope cl C X.env) fp) tg g)
    (ht : ∀ (s : Shared) (H : Hp) (C : Addr) (cl : List (Str × Addr)) (fp : List Addr), PTs (X.blk s H scope (compEnvC scope cl C X.env) fp) ifs tt)
    (he : ∀ (s : Shared) (H : Hp) (C : Addr) (cl : List (Str × Addr)) (fp : List Addr), PE (X.blk s H scope (compEnvC scope cl C X.env) fp) elt te)
    (hs : ∀ x, foldedSetIterable l X.env x = pure x) (h : tLc (iList X.K tl) g tt te (own.map (·.2)) σ H Q) :
    wpAny (model X.prog X.w) X.A (eval (.ListComp elt [⟨tg, l, ifs, 0⟩] scope pos) X.env) (EP X pins σ Q) X.xe s := by
  rw [eval_ListComp]
  have hfree : ∀ y ∈ scope.names, y.2 = .free → ∃ c, X.env.cells.lookup y.1 = some c := fun y hy e => (ok.free y hy e).elim (fun z => I.ok.has _ (.inl z)) fun z => I.ok.has _ (.inr z)
  refine wpAny_comprehension_free (use := none) rfl hs (closure_ok hfree) ok.kind (fun y hy e => by rw [ok.uniq y hy, e]) (thn (hl.run pins s σ H _ I h) fun v s1 h1 => ?_)
  obtain ⟨x, H1, I1, r1, a, ex, ⟨xs, hq⟩, q⟩ := h1
  subst ex
  cases r1
  obtain ⟨its, rv, pl, hz⟩ := I1.list hq
  refine wpAny_pyIter_list pl.isList ?_
  obtain ⟨px, ⟨hh, v1, d1, c1⟩, hpx⟩ := hc
  generalize hs2 : ({ s1 with heap := s1.heap.push { cls := Value.type "list_iterator", data := Data.fields #[Value.ref a, Value.int 0 0] } } : Shared) = s2
  have hs2h : s2.heap = s1.heap.push { cls := Value.type "list_iterator", data := Data.fields #[Value.ref a, Value.int 0 0] } := by rw [← hs2]
  generalize hit : s1.heap.objs.size = it
  have I2 : Inv X pins σ H1 s2 := by rw [← hs2]; exact I1.kept (t' := s1.toks) fun b o e => Heap.get?_push_of_some _ e
  have st2 : s2.heap.IsListIter it a 0 := by rw [hs2h, ← hit]; exact ⟨_, Heap.get?_push_size _ rfl, rfl, rfl⟩
  have itn : H1 it = none := I1.hok.fresh (Nat.le_of_eq hit)
  have fit : FpOk X pins H1 it := I1.fpOk (Nat.le_of_eq hit) itn
  have sit : it < s2.heap.objs.size := by rw [hs2h, ← hit, Heap.size_push]; exact Nat.lt_succ_self _
  refine wpAny_newObj_type (newEnv_comp ?_) (by show 0 ≤ sizeLine; decide)
  generalize hD : s2.heap.objs.size = D
  have hDn : H1 D = none := I2.hok.fresh (Nat.le_of_eq hD)
  have itD : it ≠ D := by rw [← hD]; exact Nat.ne_of_lt sit
  obtain ⟨W, ⟨m0, w0⟩, turn⟩ := q D hDn
  generalize hs3 : ({ s2 with heap := s2.heap.push { cls := .type "list", data := .seq ([] : List Value).toArray } } : Shared) = s3
  have h3 : s3.heap = s2.heap.push { cls := .type "list", data := .seq ([] : List Value).toArray } := by rw [← hs3]
  have I3 : Inv X pins σ (upd H1 D (.lst [])) s3 := by
    rw [← hs3]
    refine I2.laid (t' := s2.toks) (fun b o e => Heap.get?_push_of_some _ e) (Nat.le_of_eq hD) ⟨Nat.zero_le _, [], 0, .nil, ?_⟩
    rw [← hD]; exact Heap.get?_push_size _ rfl
  have st3 : s3.heap.IsListIter it a 0 := st2.at fun o e => by rw [h3]; exact Heap.get?_push_of_some _ e
  have f3 : ∀ b ∈ [it], FpOk X pins (upd H1 D (.lst [])) b ∧ b < s3.heap.objs.size := fun b hb => by
    rw [List.mem_singleton.mp hb]
    exact ⟨⟨by rw [upd_ne itD]; exact fit.1, fit.2⟩, by rw [h3, Heap.size_push]; exact Nat.lt_succ_of_lt sit⟩
  have I4 := block_start I3 ok hN f3
  generalize hC : s3.heap.objs.size = C at I4 ⊢
  generalize hcl : cellsFrom (C + 1) scope.names (cloFrom X.env.cells scope.names []) = cl at I4 ⊢
  have pg := hg s3 (upd H1 D (.lst [])) C cl [it]
  have pt := ht s3 (upd H1 D (.lst [])) C cl [it]
  have pe := he s3 (upd H1 D (.lst [])) C cl [it]
  show codeAny _ _ (.compStart (.ListComp elt [⟨tg, l, ifs, 0⟩] scope pos) 0 (.ref it) (.ref D) (compEnvC scope cl C X.env)) (compPost (model X.prog X.w) X.A X.xe none (EP X pins σ Q) (.ref D) C) { s3 with heap := pushCells (s3.heap.push { cls := .type "dict", data := .dict #[] }) scope.names }
  have cL : (compEnvC scope cl C X.env).locals = C := rfl
  generalize compEnvC scope cl C X.env = ce at I4 pg pt pe cL ⊢
  generalize hH3 : upd H1 D (.lst []) = H3 at I3 I4 pg pt pe w0 f3
  generalize hs4 : ({ s3 with heap := pushCells (s3.heap.push { cls := .type "dict", data := .dict #[] }) scope.names } : Shared) = s4 at I4 ⊢
  have st4 : s4.heap.IsListIter it a 0 := st3.at fun o e => by rw [← hs4]; exact pushCells_keeps _ _ _ _ (Heap.get?_push_of_some _ e)
  -- the handled error's object stands through the block
  obtain ⟨x3, n3, l3, g3, k3⟩ := I3.pin px (List.mem_append_left _ hpx)
  have xit : px.1 ≠ it := fit.2.2.2.2.2 px (List.mem_append_left _ hpx)
  have xfs : px.1 ∉ frs X.stack := by
    rcases I3.ok.stk with e | ⟨e, ef⟩
    · rw [e]; exact g3
    · rw [e]
      intro z
      have z' : px.1 ∈ X.env.locals :: frs X.outer := by
        have y : frs (X.env :: X.outer) = X.env.locals :: frs X.outer := by unfold frs; rw [List.filterMap_cons, ef]
        rw [← y]; exact z
      rcases List.mem_cons.mp z' with y | y
      · exact l3 y
      · exact g3 y
  have hot : ∀ {σ' : L2.St} {H' : Hp} {s' : Shared}, Inv (X.blk s3 H3 scope ce [it]) [] σ' H' s' → HotAt X.A px.1 s'.heap := fun {σ' H' s'} I' =>
    ⟨hh, px.2, v1, I'.base.keep px.1 px.2 x3 n3 xfs (by show ¬ px.1 ∈ [it]; simpa using xit), d1, c1⟩
  have stat : ∀ {σ' : L2.St} {H' : Hp} {s' : Shared}, Inv (X.blk s3 H3 scope ce [it]) [] σ' H' s' → H' it = none → ∀ b ∈ [it], FpOk (X.blk s3 H3 scope ce [it]) [] H' b := fun {σ' H' s'} I' hn b hb => by
    have e := List.mem_singleton.mp hb
    subst e
    exact ⟨hn, (I'.ok.exf b hb).1, I'.ok.exfs b hb, .inl hb, fun x c e => (I'.ok.exf b hb).2 x c e, fun p hp => absurd (show p ∈ ([] : List (Addr × Obj)) ++ [] from hp) (by simp)⟩
  have loop : codeAny (model X.prog X.w) X.A (.compLoop (.ListComp elt [⟨tg, l, ifs, 0⟩] scope pos) 0 (.ref it) (.ref D) ce) (compPost (model X.prog X.w) X.A X.xe none (EP X pins σ Q) (.ref D) C) s4 := by
    refine compLoop_any (fun n s' => ∃ i H', Inv (X.blk s3 H3 scope ce [it]) [] (wipe σ (own.map (·.2))) H' s' ∧ s'.heap.IsListIter it a i ∧ H' it = none ∧ W i n H') ?_ m0 ⟨0, H3, I4, st4, by rw [← hH3, upd_ne itD]; exact itn, w0⟩
    rintro n s5 ⟨i, H5, I5, st5, n5, w5⟩
    obtain ⟨f0, f1, f2, f3', f4, f5⟩ := stat I5 n5 it (List.mem_singleton.mpr rfl)
    rcases turn i n H5 w5 with ⟨⟨ys, hy, hle⟩, qq⟩ | ⟨⟨ys, y, hy, hyi⟩, Nx, hNx, step⟩
    · obtain ⟨js, rj, pj, _⟩ := I5.list hy
      have lj := rj.length
      refine list_end_hot (hot I5) xit st5 pj.isList (by simp; omega) fun h' eb => ?_
      have I6 : Inv (X.blk s3 H3 scope ce [it]) [] (wipe σ (own.map (·.2))) H5 { s5 with heap := h' } := I5.turned (t' := s5.toks) (fun b o hb e => eb b o hb e) f0 f1 f3' f4 f5
      have I7 : Inv X pins σ H5 { s5 with heap := h' } := I3.call' (ch := [it]) I6.os I6.base I6.hok I6.bare fun b hb => ⟨(f3 b hb).1.2.2.2.1, (f3 b hb).1.2.1, (f3 b hb).1.2.2.2.2.1, (f3 b hb).1.2.2.2.2.2⟩
      obtain ⟨m, hn, _⟩ := I6.loc
      have hn : h'.Ns ce.locals m := hn
      have nC : H5 ce.locals = none := I6.free
      rw [cL] at hn nC
      obtain ⟨g0, g1, g2, g4, g5, g6⟩ := I3.fpOk (Nat.le_of_eq hC) nC
      exact ⟨m, hn, fun h'' sb => ⟨.ref D, H5, I7.turned (t' := s5.toks) (fun b o hb e => (sb.2 b hb).trans e) g0 g1 g4 g5 g6, rfl, qq⟩⟩
    · obtain ⟨js, rj, pj, _⟩ := I5.list hy
      obtain ⟨u, hu, ru⟩ := rj.get hyi
      refine wpAny_pyNext_list_item st5 pj.isList (x := u) (by simpa using hu) fun h' st' sb => ?_
      have I6 : Inv (X.blk s3 H3 scope ce [it]) [] (wipe σ (own.map (·.2))) H5 { s5 with heap := h' } := I5.turned (t' := s5.toks) (fun b o hb e => (sb.2 b hb).trans e) f0 f1 f3' f4 f5
      obtain ⟨oi, ei, ci, di⟩ := id st'
      refine go_of (s := { s5 with heap := h' }) ei ci di (by decide) ?_
      have ob : ∀ b ∈ [it], ∃ o, h'.get? b = some o ∧ ∀ v, o.data ≠ .cell v := fun b hb => by
        rw [List.mem_singleton.mp hb]
        exact ⟨oi, ei, fun v z => by rw [di] at z; cases z⟩
      have I6' := I6.pinned (stat I6 n5) ob
      have hyld : (Itl X.K a).yld i H5 y H5 := ⟨rfl, fun zs hzs => by rw [I5.list_inj hzs hy]; exact hyi⟩
      refine thnF (pg.run _ { s5 with heap := h' } _ H5 y u _ I6' ru (step y H5 hyld)) fun _ s8 ⟨σ8, H8, I8, hw8, q8⟩ => ?_
      refine thnF (pt.run _ s8 σ8 H8 _ I8 q8) fun b s9 ⟨H9, I9, q9⟩ => ?_
      have fin : ∀ {s' : Shared} {H' : Hp}, Inv (X.blk s3 H3 scope ce [it]) ([] ++ pinsAt [it] h') σ8 H' s' → Nx H' → ∃ m, m < n ∧ ∃ i H', Inv (X.blk s3 H3 scope ce [it]) [] (wipe σ (own.map (·.2))) H' s' ∧ s'.heap.IsListIter it a i ∧ H' it = none ∧ W i m H' := fun {s' H'} I' nx => by
        obtain ⟨m', hm, w'⟩ := hNx H' nx
        obtain ⟨z1, z2, _⟩ := I'.pin (it, oi) (List.mem_append_right _ (List.mem_append_right _ (mem_pinsAt (List.mem_singleton.mpr rfl) ei)))
        have hlen : (wipe σ (own.map (·.2))).length = σ8.length := by rw [← hw8, wipe_length]
        refine ⟨m', hm, i + 1, H', (I'.unpinned (pins := [])).weak hlen (fun j v e => ?_), ⟨oi, z1, ci, di⟩, z2, w'⟩
        rw [← hw8] at e
        exact (wipe_some e).1
      cases b with
      | false =>
        simp only [Bool.false_eq_true, if_false] at q9 ⊢
        exact fin I9 q9
      | true =>
        simp only [if_true] at q9 ⊢
        refine thnF (pe.run _ s9 σ8 H9 _ I9 q9) fun z s10 ⟨yv, H10, I10, r10, acc, hD10, hz10, nx⟩ => ?_
        exact app_ok (X := X.blk s3 H3 scope ce [it]) I10 hD10 hz10 r10 fun s11 I11 => fin I11 nx
  exact codeAny_compStart_list loop (wpAny_pyIter_listiter st4 loop)
theorem pe_lcH {X : Cx} {elt tg l : Expr} {ifs : List Expr} {scope : Scope} {own : List (Str × Nat)} {pos : Pos} {tl : TE} {g : TG} {tt : TT} {te : TE}
    (hc : HotC X) (hN : X.N.Nodup) (hl : PE X l tl) (ok : BlkOk X.N X.env.scope scope own)
    (hg : ∀ (s : Shared) (H : Hp) (C : Addr) (cl : List (Str × Addr)) (fp : List Addr), PG (X.blk s H scope (compEnvC scope cl C X.env) fp) tg g)
    (ht : ∀ (s : Shared) (H : Hp) (C : Addr) (cl : List (Str × Addr)) (fp : List Addr), PTs (X.blk s H scope (compEnvC scope cl C X.env) fp) ifs tt)
    (he : ∀ (s : Shared) (H : Hp) (C : Addr) (cl : List (Str × Addr)) (fp : List Addr), PE (X.blk s H scope (compEnvC scope cl C X.env) fp) elt te)
    (hs : ∀ x, foldedSetIterable l X.env x = pure x := by intro _; rfl) : PE X (.ListComp elt [⟨tg, l, ifs, 0⟩] scope pos) (tLc (iList X.K tl) g tt te (own.map (·.2))) :=
  ⟨fun _ _ _ _ _ I h => lc_hot hc hN I hl ok hg ht he hs h⟩
/-- the suite bears the handled error -/
theorem hotC_suite {X : Cx} {a : Addr} {oe : Obj} {cls : Value} {d : Option Addr} {pn : List (Addr × Obj)} (hz : L2N.Zn cls d oe) (hf : ∃ vs, oe.data = .fields vs) : HotC (X.suite a ((a, oe) :: pn)) := by
  obtain ⟨vs, hv⟩ := hf
  exact ⟨(a, oe), ⟨rfl, vs, hv, hz.2.2 vs hv⟩, List.mem_cons_self⟩

/-! ### a list or a tuple walked -/
def iSeq (K : PySem.W.Frag) (tl : TE) : TI := fun σ H R => tl σ H fun x H1 => ∃ a, x = .ref a ∧ (((∃ xs, SqL K H1 a xs) ∧ R (Itl K a) H1) ∨ ((∃ xs, SqT K H1 a xs) ∧ R (Itt K a) H1))
theorem pi_seq {X : Cx} {tg l : Expr} {tl : TE} (hl : PE X l tl) : PI X tg l (iSeq X.K tl) := by
  refine ⟨fun pins s σ H R I h => thn (hl.run pins s σ H _ I h) fun v s1 ⟨x, H1, I1, r1, a, e, q⟩ => ?_⟩
  subst e
  cases r1
  rcases q with ⟨⟨xs, hq⟩, q⟩ | ⟨⟨xs, hq⟩, q⟩
  · obtain ⟨its, rv, p, hz⟩ := I1.list hq
    refine wpAny_pyIter_list p.isList ⟨s1.heap.objs.size, [s1.heap.objs.size], _, _, H1, rfl, I1.kept (t' := s1.toks) fun b o e => Heap.get?_push_of_some _ e, turn_list a _, ⟨_, Heap.get?_push_size _ rfl, rfl, rfl⟩, fun b hb => ?_, q⟩
    rw [List.mem_singleton.mp hb]
    exact I1.fpOk (Nat.le_refl _) (I1.hok.fresh (Nat.le_refl _))
  · obtain ⟨its, rv, p, hz⟩ := I1.tuple hq
    refine wpAny_pyIter_tuple (show s1.heap.IsTuple a its.toArray from p) ⟨s1.heap.objs.size, [s1.heap.objs.size], _, _, H1, rfl, I1.kept (t' := s1.toks) fun b o e => Heap.get?_push_of_some _ e, turn_tuple a _, ⟨_, Heap.get?_push_size _ rfl, rfl, rfl⟩, fun b hb => ?_, q⟩
    rw [List.mem_singleton.mp hb]
    exact I1.fpOk (Nat.le_refl _) (I1.hok.fresh (Nat.le_refl _))

/-! ### defs that let errors out, in the layer that knows an error's context -/
theorem okN {P : Program} {w : World} {K : PySem.W.Frag} {mg : Str → Option Value} {base : Heap} {x qual : Str} {st : Stmt} {f : Addr} {fd : FuncData} {N ps : List Str} {k : Nat} {sp : Sp} (F : Fun K x qual st f fd) (S : FnScope N ps (defScope st)) (len : ∀ vs H Q E, sp vs H Q E → vs.length = ps.length)
    (hbody : ∀ (cdv : Value) (A : Around) (outer : List Env) (s : Shared) (H : Hp) (vs : List V) (Q : VK) (E : XK), Room k (A.deeper (envOfC qual (defScope st) s.heap.objs.size f cdv)) → sp vs H Q E →
      ∃ t, PSs (cxOf (L2N.CX P w) P w K mg base N qual (defScope st) f cdv A outer s H E) (defBody st) t ∧ t { nx := fun _ H' => Q .non H', rt := Q } (start N vs) H) : FnOk P w K mg base (L2N.CX P w) (k + 1) f fd ps sp := by
  obtain ⟨oc, od, kV, doc, pm, an, cdv, ct, osl, rfl, lk, hcd⟩ := F.ex
  exact fn_of lk hcd S len fun A outer s H vs Q E hr hsp => hbody cdv A outer s H vs Q E hr hsp
theorem takesN0 {X : Cx} : L2N.Takes X (fun _ _ _ _ => False) := fun _ _ x => by
  obtain ⟨_, _, _, _, _, _, _, _, _, _, _, _, _, _, _, _, z⟩ := x
  exact z.elim
end Kx
namespace Kx
open PySem PySem.Spec PyProof.Rows L2
theorem rel_ty (n : String) : RelV (.ty n) (.type n) := rfl
theorem if_d {p : Prop} [Decidable p] {A B : Prop} (h1 : p → A) (h2 : ¬ p → B) : if decide p = true then A else B := by
  by_cases h : p
  · rw [if_pos (decide_eq_true h)]; exact h1 h
  · rw [if_neg (by simp [h])]; exact h2 h
theorem if_nd {p : Prop} [Decidable p] {A B : Prop} (h1 : ¬ p → A) (h2 : p → B) : if (!decide p) = true then A else B := by
  by_cases h : p
  · rw [if_neg (by simp [h])]; exact h2 h
  · rw [if_pos (by simp [h])]; exact h1 h
theorem if_b {b : Bool} {A B : Prop} (h1 : b = true → A) (h2 : b = false → B) : if b = true then A else B := by
  cases b with
  | true => exact h1 rfl
  | false => exact h2 rfl
/-- all but p's object stand as before -/
def Keep (p : Addr) (H H' : Hp) : Prop := ∀ b o, b ≠ p → H b = some o → H' b = some o
theorem Keep.refl {p : Addr} {H : Hp} : Keep p H H := fun _ _ _ h => h
theorem Keep.trans {p : Addr} {H H1 H2 : Hp} (a : Keep p H H1) (b : Keep p H1 H2) : Keep p H H2 := fun c o hc h => b c o hc (a c o hc h)
theorem Keep.upd {p : Addr} {H H1 : Hp} {o : HO} (a : Keep p H H1) : Keep p H (upd H1 p o) := fun c u hc h => by rw [upd_ne hc]; exact a c u hc h
theorem same_keep {p : Addr} {H H1 : Hp} (a : Same H H1) : Keep p H H1 := fun c u _ h => a c u h
theorem same_new {H : Hp} {p : Addr} {o : HO} (h : H p = none) : Same H (upd H p o) := fun b u e => by rw [upd_ne (ne_of_none e h)]; exact e
theorem same_put {H H1 : Hp} {p : Addr} {o : HO} (a : Same H H1) (h : H p = none) : Same H (upd H1 p o) := fun b u e => by rw [upd_ne (ne_of_none e h)]; exact a b u e
theorem Keep.same {p : Addr} {H H1 : Hp} (a : Keep p H H1) (h : H p = none) : Same H H1 := fun b u e => a b u (ne_of_none e h) e
theorem sz {n : Nat} (h : n ≤ 100000) : n ≤ sizeLine := Nat.le_trans h (by decide)
theorem sz5 {xs : List V} (h : xs.length ≤ 100000 := by first | decide | (show _ ≤ 100000; simp)) : xs.length ≤ sizeLine := Nat.le_trans h (by decide)
theorem szl {n : Nat} (h : n ≤ 100000) : n < sizeLine := Nat.lt_of_le_of_lt h (by decide)
theorem seqT_same {K : PySem.W.Frag} {H H' : Hp} {a : Addr} {xs : List V} (e : Same H H') (h : SqT K H a xs) : SqT K H' a xs := by
  rcases h with (h | ⟨o, h⟩) | h
  · exact .inl (.inl (e _ _ h))
  · exact .inl (.inr ⟨o, e _ _ h⟩)
  · exact .inr h
/-- a def of the module, as the top has left it -/
structure DefAt (K : PySem.W.Frag) (mg : Str → Option Value) (nm : Str) (st : Stmt) (ps : List Str) (f : Addr) (fd : FuncData) : Prop where
  F : Fun K nm nm st f fd
  m : mg nm = some (.ref f)
  b : Binds K fd ps []
/-- a method -/
structure MethAt (K : PySem.W.Frag) (C : Addr) (nm qual : Str) (st : Stmt) (ps : List Str) (f : Addr) (fd : FuncData) : Prop where
  F : Fun K nm qual st f fd
  m : Meth K C nm f
  b : Binds K fd ps []

/-! ### some rules by names of their own (for the readings of a comprehension's parts) -/
section
variable {X : Cx}
def rLen1 (K : PySem.W.Frag) : List V → Hp → VK → Prop := fun xs H Q => ∃ p ys, xs = [.ref p] ∧ (SqL K H p ys ∨ SqT K H p ys) ∧ Q (.int ys.length) H
theorem c_len : CallR X (.builtin "len") (rLen1 X.K) := call_len_seq
def rAbs1 : List V → Hp → VK → Prop := fun xs H Q => ∃ i, xs = [.int i] ∧ Q (.int (if i < 0 then -i else i)) H
theorem c_abs : CallR X (.builtin "abs") rAbs1 := call_abs
def rInt1 : List V → Hp → VK → Prop := fun xs H Q => (∃ i, xs = [.int i] ∧ Q (.int i) H) ∨ ∃ k, xs = [.bl k] ∧ Q (.int (if k then 1 else 0)) H
theorem c_int : CallR X (.type "int") rInt1 := call_int1
def rListOf (K : PySem.W.Frag) : List V → Hp → VK → Prop := fun xs H Q => ∃ p ys, xs = [.ref p] ∧ (SqL K H p ys ∨ SqT K H p ys) ∧ ∀ l, H l = none → Q (.ref l) (upd H l (.lst ys))
theorem c_list : CallR X (.type "list") (rListOf X.K) := call_list_of
def rTupOf (K : PySem.W.Frag) : List V → Hp → VK → Prop := fun xs H Q => ∃ p ys, xs = [.ref p] ∧ ((SqL K H p ys ∧ ∀ l, H l = none → Q (.ref l) (upd H l (.tup ys))) ∨ (SqT K H p ys ∧ Q (.ref p) H))
theorem c_tuple : CallR X (.type "tuple") (rTupOf X.K) := call_tuple_of
def rStrI : List V → Hp → VK → Prop := fun xs H Q => ∃ i, xs = [.int i] ∧ i.natAbs.log2 < 1920 ∧ Q (.str (toString i)) H
theorem c_str : CallR X (.type "str") rStrI := call_str_int
def rIsN1 : R2 := fun x y H Q => y = .non ∧ Q (.bl (decide (x = .non))) H
theorem o_isN : OpR X (compareOp .Is) rIsN1 := op_isN
def rNotN1 : R2 := fun x y H Q => y = .non ∧ Q (.bl (!decide (x = .non))) H
theorem o_notN : OpR X (compareOp .IsNot) rNotN1 := op_notN
def rCatS : R2 := fun x y H Q => ∃ i j, x = .str i ∧ y = .str j ∧ i.length + j.length ≤ sizeLine ∧ Q (.str (i ++ j)) H
theorem o_catS : OpR X (binaryOp .Add) rCatS := op_add_str
end

/-! ### texts in a list -/
theorem flat_strs : ∀ ns : List Str, (ns.map V.str).all flatV = true
  | [] => rfl
  | _ :: r => flat_strs r
theorem inV_str (s : Str) : ∀ ns : List Str, inV (.str s) (ns.map V.str) = decide (s ∈ ns)
  | [] => rfl
  | x :: r => by
    show ((x == s) || inV (.str s) (r.map V.str)) = decide (s ∈ x :: r)
    rw [inV_str s r]
    by_cases c : x = s
    · subst c; simp
    · have c' : (x == s) = false := by simpa using c
      have c2 : ¬ s = x := fun z => c z.symm
      rw [c', Bool.false_or]
      simp [c2]
/-- a loop over a list or a tuple that stands through it -/
theorem for_seq {K : PySem.W.Frag} {a : Addr} {xs : List V} {g : TG} {tb : TS} {D : Ends} {σ : L2.St} {H0 H : Hp} (hq : SqL K H0 a xs ∨ SqT K H0 a xs) (Pv : Nat → L2.St → Hp → Prop) (h0 : Pv 0 σ H) (hl : ∀ i σ' H', Pv i σ' H' → Same H0 H')
    (hs : ∀ i x σ H, xs[i]? = some x → Pv i σ H → g x σ H fun σ2 H2 => tb { D with nx := Pv (i + 1), ct := Pv (i + 1), bk := D.nx } σ2 H2) (hd : ∀ σ H, Pv xs.length σ H → D.nx σ H) :
    ((∃ xs, SqL K H a xs) ∧ ∃ W : Nat → Nat → L2.St → Hp → Prop, (∃ m, W 0 m σ H) ∧ ∀ i m σ H, W i m σ H →
      ((Itl K a).stop i H ∧ D.nx σ H) ∨ ((Itl K a).go i H ∧ ∃ N : L2.St → Hp → Prop, (∀ σ' H', N σ' H' → ∃ m', m' < m ∧ W (i + 1) m' σ' H') ∧ ∀ x H', (Itl K a).yld i H x H' → g x σ H' fun σ2 H2 => tb { D with nx := N, ct := N, bk := D.nx } σ2 H2)) ∨
    ((∃ xs, SqT K H a xs) ∧ ∃ W : Nat → Nat → L2.St → Hp → Prop, (∃ m, W 0 m σ H) ∧ ∀ i m σ H, W i m σ H →
      ((Itt K a).stop i H ∧ D.nx σ H) ∨ ((Itt K a).go i H ∧ ∃ N : L2.St → Hp → Prop, (∀ σ' H', N σ' H' → ∃ m', m' < m ∧ W (i + 1) m' σ' H') ∧ ∀ x H', (Itt K a).yld i H x H' → g x σ H' fun σ2 H2 => tb { D with nx := N, ct := N, bk := D.nx } σ2 H2)) := by
  rcases hq with hq | hq
  · exact .inl ⟨⟨xs, (hl _ _ _ h0).seq hq⟩, for_list Pv h0 (fun i σ' H' _ p => (hl i σ' H' p).seq hq) hs hd⟩
  · exact .inr ⟨⟨xs, seqT_same (hl _ _ _ h0) hq⟩, for_tup Pv h0 (fun i σ' H' _ p => seqT_same (hl i σ' H' p) hq) hs hd⟩

/-! ### the pool: the script, a place in it, the number that is drawn from, turns left, a mark -/
def PoolA (H : Hp) (p a : Addr) (ns : List Int) : Prop := ∃ (i x t m : Int), H p = some (.lst [.ref a, .int i, .int x, .int t, .int m]) ∧ H a = some (.lst (ns.map V.int)) ∧ a ≠ p ∧ 0 ≤ i ∧ ns.length ≤ 63
def PoolAt (H : Hp) (p : Addr) : Prop := ∃ (a : Addr) (ns : List Int), PoolA H p a ns
theorem PoolA.same {H H' : Hp} {p a : Addr} {ns : List Int} (e : Same H H') (h : PoolA H p a ns) : PoolA H' p a ns := by
  obtain ⟨i, x, t, m, h1, h2, h3⟩ := h
  exact ⟨i, x, t, m, e _ _ h1, e _ _ h2, h3⟩
theorem PoolA.keep {H H' : Hp} {p q a : Addr} {ns : List Int} (h : PoolA H p a ns) (e : Keep q H H') (hq : q ≠ p) (hqa : q ≠ a) : PoolA H' p a ns := by
  obtain ⟨i, x, t, m, h1, h2, h3⟩ := h
  exact ⟨i, x, t, m, e _ _ hq.symm h1, e _ _ hqa.symm h2, h3⟩
theorem PoolA.ne {H : Hp} {p q a : Addr} {ns : List Int} (h : PoolA H p a ns) (hq : H q = none) : q ≠ p ∧ q ≠ a := by
  obtain ⟨i, x, t, m, h1, h2, h3⟩ := h
  refine ⟨fun z => ?_, fun z => ?_⟩
  · rw [z, h1] at hq; cases hq
  · rw [z, h2] at hq; cases hq
theorem PoolA.old {H : Hp} {p a : Addr} {ns : List Int} (h : PoolA H p a ns) : ∃ o o', H p = some o ∧ H a = some o' := by
  obtain ⟨i, x, t, m, h1, h2, h3⟩ := h
  exact ⟨_, _, h1, h2⟩
theorem PoolAt.same {H H' : Hp} {p : Addr} (e : Same H H') (h : PoolAt H p) : PoolAt H' p := by
  obtain ⟨a, ns, h⟩ := h
  exact ⟨a, ns, h.same e⟩
def spPool (K : PySem.W.Frag) : Sp := fun vs H Q _ => ∃ (a : Addr) (ns : List Int), vs = [.ref a] ∧ SqL K H a (ns.map V.int) ∧ ns.length ≤ 63 ∧ ∀ H' p, Same H H' → H p = none → PoolAt H' p → Q (.ref p) H'
def spDraw : Sp := fun vs H Q _ => ∃ (p : Addr) (b : Int) (a : Addr) (ns : List Int), vs = [.ref p, .int b] ∧ PoolA H p a ns ∧ b < 1073741824 ∧ ∀ H' (d : Int), PoolA H' p a ns → Keep p H H' → 0 ≤ d → (d < b ∨ d = 0) → Q (.int d) H'
end Kx
namespace Kx
open PySem PySem.Spec PyProof.Rows L2
def top (i : Nat) : Stmt := PySem.Challenge.pw_kindsofarrows_k86_whole_greatest_flow.main.body.getD i (.Pass ⟨0, 0, 0, 0⟩)
abbrev sPool : Stmt := top 16
abbrev sDraw : Stmt := top 17
structure TxtL (K : PySem.W.Frag) (mg : Str → Option Value) : Prop where
  b_list : mg "list" = none
  b_int : mg "int" = none
  b_abs : mg "abs" = none
  b_len : mg "len" = none
section
variable {P : Program} {w : World} {K : PySem.W.Frag} {mg : Str → Option Value} {base : Heap}
theorem scPool : FnScope ["script"] ["script"] (defScope sPool) := ⟨rfl, rfl, rfl, by decide +kernel, rfl, by decide +kernel, by decide +kernel⟩
theorem ok_pool {f : Addr} {fd : FuncData} (F : Fun K "_law_pool" "_law_pool" sPool f fd) (T : TxtL K mg) : FnOk P w K mg base CX0 1 f fd ["script"] (spPool K) := by
  refine F.ok scPool (fun vs H Q E h => ?_) (fun cdv A outer s H vs Q E hr h => ?_)
  · obtain ⟨a, ns, rfl, _⟩ := h
    rfl
  · obtain ⟨a, ns, rfl, hS, hn, k⟩ := h
    refine ⟨_, (pss_one (ps_ret (pe_lst (pa_cons (pe_callTy call_list_of (by rfl) T.b_list (by decide +kernel) (pa_cons (pv 0) pa_nil)) (pa_cons pe_int (pa_cons pe_int (pa_cons pe_int (pa_cons pe_int pa_nil)))))))), ?_⟩
    refine ⟨_, rfl, _, _, rfl, .inl hS, fun l hl => ⟨sz (Nat.le_of_ble_eq_true rfl), fun p hp => ?_⟩⟩
    have hpl : l ≠ p := fun z => by rw [z, upd_same] at hp; cases hp
    have hp0 : H p = none := by rw [upd_ne hpl.symm] at hp; exact hp
    exact k _ p (same_put (same_new hl) hp0) hp0 ⟨l, ns, 0, 0, 0, 0, upd_same, by rw [upd_ne hpl, upd_same], hpl, by decide, hn⟩
theorem scDraw : FnScope ["pool", "bound", "found", "near", "mixed"] ["pool", "bound"] (defScope sDraw) := ⟨rfl, rfl, rfl, by decide +kernel, rfl, by decide +kernel, by decide +kernel⟩
theorem ok_draw {f : Addr} {fd : FuncData} (F : Fun K "_law_draw" "_law_draw" sDraw f fd) (T : TxtL K mg) : FnOk P w K mg base CX0 1 f fd ["pool", "bound"] spDraw := by
  refine F.ok scDraw (fun vs H Q E h => ?_) (fun cdv A outer s H vs Q E hr h => ?_)
  · obtain ⟨p, b, a, ns, rfl, _⟩ := h
    rfl
  · obtain ⟨p, b, a, ns, rfl, hP, hb, k⟩ := h
    refine ⟨_, (pss_cons (ps_if (pt_cmpR op_lt (pv 1) pe_int (nomark _)) (pss_one (ps_ret pe_int)) pss_nil)
    (C8.pss_cut (ps_if (pt_cmpR op_lt (pe_ix ix_list (pv 0) pe_int (fun _ _ => rfl)) pe_int (nomark _)) (pss_cons (ps_if (pt_cmpR op_ge (pe_ix ix_list (pv 0) pe_int (fun _ _ => rfl)) (pe_callB call_len_seq (by rfl) T.b_len (by decide +kernel) (pa_cons (pe_ix ix_list (pv 0) pe_int (fun _ _ => rfl)) pa_nil)) (nomark _)) (pss_one (ps_ret pe_int)) pss_nil)
      (pss_cons (ps_asg (pe_callB call_abs (by rfl) T.b_abs (by decide +kernel) (pa_cons (pe_callTy call_int1 (by rfl) T.b_int (by decide +kernel) (pa_cons (pe_ix ix_list (pe_ix ix_list (pv 0) pe_int (fun _ _ => rfl)) (pe_ix ix_list (pv 0) pe_int (fun _ _ => rfl)) (fun _ _ => rfl)) pa_nil)) pa_nil)) (pg_sub (pv 0) pe_int set_list))
      (pss_cons (ps_asg (pe_op op_add (pe_ix ix_list (pv 0) pe_int (fun _ _ => rfl)) pe_int) (pg_sub (pv 0) pe_int set_list))
      (pss_cons (ps_asg pe_int (pg_sub (pv 0) pe_int set_list))
      (pss_cons (ps_asg pe_int (pg_sub (pv 0) pe_int set_list))
      (pss_one (ps_if (pt_cmpR op_ge (pe_ix ix_list (pv 0) pe_int (fun _ _ => rfl)) (pe_op op_pow pe_int pe_int) (nomark _)) (pss_cons (ps_asg pe_int (pg_sub (pv 0) pe_int set_list))
        (pss_one (ps_asg pe_int (pg_sub (pv 0) pe_int set_list)))) pss_nil))))))) pss_nil)
    (pss_cons (ps_asg (pe_op op_sub (pe_ix ix_list (pv 0) pe_int (fun _ _ => rfl)) pe_int) (pg_sub (pv 0) pe_int set_list))
    (pss_cons (ps_if (pt_cmpR op_eq (pe_ix ix_list (pv 0) pe_int (fun _ _ => rfl)) pe_int (nomark _)) (pss_cons (ps_set (i := 2) scDraw.nd rfl (Or.inl rfl) (pe_op op_mod (pe_callTy call_int1 (by rfl) T.b_int (by decide +kernel) (pa_cons (pe_ix ix_list (pv 0) pe_int (fun _ _ => rfl)) pa_nil)) (pv 1)))
      (pss_cons (ps_asg (pe_op op_fdiv (pe_ix ix_list (pv 0) pe_int (fun _ _ => rfl)) (pv 1)) (pg_sub (pv 0) pe_int set_list))
      (pss_cons (ps_if (pt_cmpR op_lt (pe_ix ix_list (pv 0) pe_int (fun _ _ => rfl)) pe_int (nomark _)) (pss_one (ps_asg pe_int (pg_sub (pv 0) pe_int set_list))) pss_nil)
      (pss_one (ps_ret (pv 2)))))) pss_nil)
    (pss_cons (ps_set (i := 3) scDraw.nd rfl (Or.inl rfl) (pe_op op_mod (pe_callTy call_int1 (by rfl) T.b_int (by decide +kernel) (pa_cons (pe_ix ix_list (pv 0) pe_int (fun _ _ => rfl)) pa_nil)) pe_int))
    (pss_cons (ps_set (i := 4) scDraw.nd rfl (Or.inl rfl) (pe_op op_mod (pe_callTy call_int1 (by rfl) T.b_int (by decide +kernel) (pa_cons (pe_op op_add (pe_op op_add (pe_op op_mul (pv 3) pe_int) (pe_op op_mul (pe_ix ix_list (pv 0) pe_int (fun _ _ => rfl)) pe_int)) (pe_op op_mul (pe_ix ix_list (pv 0) pe_int (fun _ _ => rfl)) pe_int)) pa_nil)) pe_int))
    (pss_cons (ps_set (i := 4) scDraw.nd rfl (Or.inl rfl) (pe_op op_mod (pe_callTy call_int1 (by rfl) T.b_int (by decide +kernel) (pa_cons (pe_op op_add (pe_op op_add (pe_op op_mul (pv 4) pe_int) (pe_op op_mul (pv 3) pe_int)) pe_int) pa_nil)) pe_int))
    (pss_one (ps_ret (pe_op op_mod (pe_callTy call_int1 (by rfl) T.b_int (by decide +kernel) (pa_cons (pe_op op_fdiv (pv 4) pe_int) pa_nil)) (pv 1))))))))))), ?_⟩
    obtain ⟨i, x, t, m, h1, h2, nap, hi, hn⟩ := hP
    refine ⟨_, rfl, _, _, rfl, rfl, _, rfl, if_d (fun c => ?_) (fun c => ?_)⟩
    · exact k _ 0 ⟨i, x, t, m, h1, h2, nap, hi, hn⟩ Keep.refl (Int.le_refl _) (.inr rfl)
    · refine ⟨fun σ' H' => σ' = start ["pool", "bound", "found", "near", "mixed"] [.ref p, .int b] ∧ PoolA H' p a ns ∧ Keep p H H', ?_, ?_⟩
      · refine ⟨_, rfl, _, _, _, _, rfl, rfl, SqL.of h1, rfl, _, _, rfl, rfl, _, rfl, if_d (fun c1 => ?_) (fun c1 => ?_)⟩
        · refine ⟨_, rfl, _, _, _, _, rfl, rfl, SqL.of h1, rfl, _, rfl, _, _, _, _, rfl, rfl, SqL.of h1, rfl, _, _, rfl, .inl (SqL.of h2), _, _, rfl, rfl, _, rfl, if_d (fun c2 => ?_) (fun c2 => ?_)⟩
          · exact k _ 0 ⟨i, x, t, m, h1, h2, nap, hi, hn⟩ Keep.refl (Int.le_refl _) (.inr rfl)
          · have hlen : ¬ ((ns.length : Nat) : Int) ≤ i := by rw [List.length_map] at c2; exact c2
            obtain ⟨j, rfl⟩ : ∃ j : Nat, i = (j : Int) := ⟨i.toNat, by omega⟩
            have hj : j < ns.length := by omega
            refine ⟨_, rfl, _, _, _, _, rfl, rfl, SqL.of h1, rfl, _, rfl, _, _, _, _, rfl, rfl, SqL.of h1, rfl, _, _, _, _, rfl, rfl, SqL.of h2, at_of (j := j) (v := .int ns[j]) rfl (by simp [hj]), .inl ⟨_, rfl, _, rfl, _, rfl, _, _, _, _, rfl, rfl, h1, rfl, ?_⟩⟩
            refine ⟨_, rfl, _, _, _, _, rfl, rfl, SqL.of upd_same, rfl, _, _, rfl, rfl, _, rfl, _, _, _, _, rfl, rfl, upd_same, rfl, ?_⟩
            refine ⟨_, rfl, _, _, _, _, rfl, rfl, upd_same, rfl, ?_⟩
            refine ⟨_, rfl, _, _, _, _, rfl, rfl, upd_same, rfl, ?_⟩
            refine ⟨_, rfl, _, _, _, _, rfl, rfl, SqL.of upd_same, rfl, _, _, rfl, rfl, ⟨by decide, by decide, by decide⟩, _, _, rfl, rfl, _, rfl, if_d (fun c3 => ?_) (fun c3 => ?_)⟩
            · refine ⟨_, rfl, _, _, _, _, rfl, rfl, upd_same, rfl, ?_⟩
              refine ⟨_, rfl, _, _, _, _, rfl, rfl, upd_same, rfl, ?_⟩
              refine ⟨rfl, ⟨_, _, _, _, upd_same, ?_, nap, ?_, hn⟩, Keep.refl.upd.upd.upd.upd.upd.upd⟩
              · rw [upd_ne nap, upd_ne nap, upd_ne nap, upd_ne nap, upd_ne nap, upd_ne nap]; exact h2
              · omega
            · refine ⟨rfl, ⟨_, _, _, _, upd_same, ?_, nap, ?_, hn⟩, Keep.refl.upd.upd.upd.upd⟩
              · rw [upd_ne nap, upd_ne nap, upd_ne nap, upd_ne nap]; exact h2
              · omega
        · exact ⟨rfl, ⟨i, x, t, m, h1, h2, nap, hi, hn⟩, Keep.refl⟩
      · rintro σ' H' ⟨rfl, ⟨i, x, t, m, h1, h2, nap, hi, hn⟩, kp⟩
        have hb1 : 0 < b := by omega
        refine ⟨_, rfl, _, _, _, _, rfl, rfl, SqL.of h1, rfl, _, _, rfl, rfl, _, rfl, _, _, _, _, rfl, rfl, h1, rfl, ?_⟩
        refine ⟨_, rfl, _, _, _, _, rfl, rfl, SqL.of upd_same, rfl, rfl, _, rfl, if_d (fun c1 => ?_) (fun c1 => ?_)⟩
        · refine ⟨_, rfl, _, _, _, _, rfl, rfl, SqL.of upd_same, rfl, .inl ⟨_, rfl, _, rfl, _, _, rfl, rfl, hb1, ?_⟩⟩
          refine ⟨_, rfl, _, _, _, _, rfl, rfl, SqL.of upd_same, rfl, _, rfl, _, _, rfl, rfl, ⟨hb1, hb⟩, _, rfl, _, _, _, _, rfl, rfl, upd_same, rfl, ?_⟩
          refine ⟨_, rfl, _, _, _, _, rfl, rfl, SqL.of upd_same, rfl, _, _, rfl, rfl, _, rfl, if_d (fun c2 => ?_) (fun c2 => ?_)⟩
          · refine ⟨_, rfl, _, _, _, _, rfl, rfl, upd_same, rfl, ?_⟩
            refine ⟨_, rfl, k _ _ ⟨_, _, _, _, upd_same, ?_, nap, hi, hn⟩ kp.upd.upd.upd (Int.emod_nonneg _ (by omega)) (.inl (Int.emod_lt_of_pos _ hb1))⟩
            rw [upd_ne nap, upd_ne nap, upd_ne nap]; exact h2
          · refine ⟨_, rfl, k _ _ ⟨_, _, _, _, upd_same, ?_, nap, hi, hn⟩ kp.upd.upd (Int.emod_nonneg _ (by omega)) (.inl (Int.emod_lt_of_pos _ hb1))⟩
            rw [upd_ne nap, upd_ne nap]; exact h2
        · refine ⟨_, rfl, _, _, _, _, rfl, rfl, SqL.of upd_same, rfl, .inl ⟨_, rfl, _, _, rfl, rfl, (by show (0 : Int) < 1000003; decide), ?_⟩⟩
          refine ⟨_, rfl, _, _, rfl, rfl, .inr ⟨by decide, by decide⟩, _, rfl, _, _, _, _, rfl, rfl, SqL.of upd_same, rfl, _, _, rfl, rfl, .inr ⟨by decide, by decide⟩, _, _, rfl, rfl, _, rfl, _, _, _, _, rfl, rfl, SqL.of upd_same, rfl, _, _, rfl, rfl, .inr ⟨by decide, by decide⟩, _, _, rfl, rfl, .inl ⟨_, rfl, _, _, rfl, rfl, (by show (0 : Int) < 2147483647; decide), ?_⟩⟩
          refine ⟨_, rfl, _, _, rfl, rfl, .inr ⟨by decide, by decide⟩, _, rfl, _, _, rfl, rfl, .inr ⟨by decide, by decide⟩, _, _, rfl, rfl, _, _, rfl, rfl, .inl ⟨_, rfl, _, _, rfl, rfl, (by show (0 : Int) < 2147483399; decide), ?_⟩⟩
          refine ⟨_, rfl, _, _, rfl, rfl, ⟨by decide, by decide⟩, .inl ⟨_, rfl, _, rfl, _, _, rfl, rfl, hb1, k _ _ ⟨_, _, _, _, upd_same, ?_, nap, hi, hn⟩ kp.upd (Int.emod_nonneg _ (by omega)) (.inl (Int.emod_lt_of_pos _ hb1))⟩⟩
          rw [upd_ne nap]; exact h2
end
end Kx
set_option autoImplicit false
namespace Fl
/-! ### sums over 0 .. m - 1 -/
def sm : Nat → (Nat → Int) → Int
  | 0, _ => 0
  | m + 1, g => sm m g + g m
def ind (b : Bool) : Int := if b then 1 else 0
theorem ind_t : ind true = 1 := rfl
theorem ind_f : ind false = 0 := rfl
theorem sm_congr {m : Nat} {g h : Nat → Int} (e : ∀ i, i < m → g i = h i) : sm m g = sm m h := by
  induction m with
  | zero => rfl
  | succ m ih =>
    show sm m g + g m = sm m h + h m
    rw [ih fun i hi => e i (by omega), e m (by omega)]
theorem sm_le {m : Nat} {g h : Nat → Int} (e : ∀ i, i < m → g i ≤ h i) : sm m g ≤ sm m h := by
  induction m with
  | zero => exact Int.le_refl _
  | succ m ih =>
    have h1 := ih fun i hi => e i (by omega)
    have h2 := e m (by omega)
    show sm m g + g m ≤ sm m h + h m
    omega
theorem sm_eq_of_le {m : Nat} {g h : Nat → Int} (e : ∀ i, i < m → g i ≤ h i) (q : sm m g = sm m h) : ∀ i, i < m → g i = h i := by
  induction m with
  | zero => intro i hi; omega
  | succ m ih =>
    have h1 : sm m g ≤ sm m h := sm_le fun i hi => e i (by omega)
    have h2 := e m (by omega)
    have q' : sm m g + g m = sm m h + h m := q
    intro i hi
    by_cases c : i = m
    · rw [c]; omega
    · exact ih (fun i hi => e i (by omega)) (by omega) i (by omega)
theorem sm_add {m : Nat} {g h : Nat → Int} : sm m (fun i => g i + h i) = sm m g + sm m h := by
  induction m with
  | zero => rfl
  | succ m ih =>
    show sm m (fun i => g i + h i) + (g m + h m) = (sm m g + g m) + (sm m h + h m)
    rw [ih]; omega
theorem sm_sub {m : Nat} {g h : Nat → Int} : sm m (fun i => g i - h i) = sm m g - sm m h := by
  induction m with
  | zero => rfl
  | succ m ih =>
    show sm m (fun i => g i - h i) + (g m - h m) = (sm m g + g m) - (sm m h + h m)
    rw [ih]; omega
theorem sm_zero {m : Nat} : sm m (fun _ => 0) = 0 := by
  induction m with
  | zero => rfl
  | succ m ih => show sm m (fun _ => 0) + 0 = 0; rw [ih]; rfl
theorem sm_mul {m : Nat} {c : Int} {g : Nat → Int} : sm m (fun i => c * g i) = c * sm m g := by
  induction m with
  | zero => show (0 : Int) = c * 0; rw [Int.mul_zero]
  | succ m ih =>
    show sm m (fun i => c * g i) + c * g m = c * (sm m g + g m)
    rw [ih, Int.mul_add]
/-- one term changes -/
theorem sm_one {m j : Nat} {g h : Nat → Int} (hj : j < m) (e : ∀ i, i < m → i ≠ j → g i = h i) : sm m g = sm m h + (g j - h j) := by
  induction m with
  | zero => omega
  | succ m ih =>
    show sm m g + g m = sm m h + h m + (g j - h j)
    by_cases c : j = m
    · subst c
      rw [sm_congr fun i hi => e i (by omega) (by omega)]
      omega
    · rw [ih (by omega) fun i hi => e i (by omega), e m (by omega) (Ne.symm c)]
      omega
theorem sm_swap {m n : Nat} {g : Nat → Nat → Int} : sm n (fun v => sm m fun i => g v i) = sm m fun i => sm n fun v => g v i := by
  induction n with
  | zero => exact sm_zero.symm
  | succ n ih =>
    show sm n (fun v => sm m fun i => g v i) + sm m (fun i => g n i) = sm m fun i => sm n (fun v => g v i) + g n i
    rw [ih, sm_add]
theorem sm_pick {n k : Nat} {c : Nat → Int} (hk : k < n) : sm n (fun v => c v * ind (decide (k = v))) = c k := by
  have h : sm n (fun v => c v * ind (decide (k = v))) = sm n (fun _ => 0) + (c k * ind (decide (k = k)) - 0) := by
    refine sm_one hk fun i _ hik => ?_
    rw [decide_eq_false (Ne.symm hik), ind_f, Int.mul_zero]
  rw [h, sm_zero, decide_eq_true rfl, ind_t]
  omega

/-! ### arcs of links: link i is from a i to b i, with room r i; arc 2 i leads from a i to b i, arc 2 i + 1 back -/
def tw (e : Nat) : Nat := if e % 2 = 0 then e + 1 else e - 1
def tl (a b : Nat → Nat) (e : Nat) : Nat := if e % 2 = 0 then a (e / 2) else b (e / 2)
def hd (a b : Nat → Nat) (e : Nat) : Nat := if e % 2 = 0 then b (e / 2) else a (e / 2)
theorem tw_even (i : Nat) : tw (2 * i) = 2 * i + 1 := by unfold tw; rw [if_pos (by omega)]
theorem tw_odd (i : Nat) : tw (2 * i + 1) = 2 * i := by unfold tw; rw [if_neg (by omega)]; omega
theorem tw_lt {e m : Nat} (h : e < 2 * m) : tw e < 2 * m := by unfold tw; split <;> omega
theorem tw_ne (e : Nat) : tw e ≠ e := by unfold tw; split <;> omega
theorem tw_tw (e : Nat) : tw (tw e) = e := by
  unfold tw
  by_cases h : e % 2 = 0
  · rw [if_pos h, if_neg (by omega)]; omega
  · rw [if_neg h, if_pos (by omega)]; omega
theorem hd_tw (a b : Nat → Nat) (e : Nat) : hd a b (tw e) = tl a b e := by
  unfold hd tl tw
  by_cases h : e % 2 = 0
  · rw [if_pos h, if_pos h, if_neg (by omega)]; congr 1; omega
  · rw [if_neg h, if_neg h, if_pos (by omega)]; congr 1; omega
theorem tl_even (a b : Nat → Nat) (i : Nat) : tl a b (2 * i) = a i := by unfold tl; rw [if_pos (by omega)]; congr 1; omega
theorem tl_odd (a b : Nat → Nat) (i : Nat) : tl a b (2 * i + 1) = b i := by unfold tl; rw [if_neg (by omega)]; congr 1; omega
theorem hd_even (a b : Nat → Nat) (i : Nat) : hd a b (2 * i) = b i := by unfold hd; rw [if_pos (by omega)]; congr 1; omega
theorem hd_odd (a b : Nat → Nat) (i : Nat) : hd a b (2 * i + 1) = a i := by unfold hd; rw [if_neg (by omega)]; congr 1; omega

/-- what flows out of v beyond what flows in -/
def net (m : Nat) (a b : Nat → Nat) (rm : Nat → Int) (v : Nat) : Int := sm m fun i => (ind (decide (a i = v)) - ind (decide (b i = v))) * rm (2 * i + 1)
/-- the rooms of both arcs of a link make its room -/
def Caps (m : Nat) (r rm : Nat → Int) : Prop := ∀ i, i < m → 0 ≤ rm (2 * i) ∧ 0 ≤ rm (2 * i + 1) ∧ rm (2 * i) + rm (2 * i + 1) = r i
def up1 (rm : Nat → Int) (e : Nat) (d : Int) : Nat → Int := fun x => if x = tw e then rm (tw e) + d else if x = e then rm e - d else rm x
theorem up1_tw (rm : Nat → Int) (e : Nat) (d : Int) : up1 rm e d (tw e) = rm (tw e) + d := by unfold up1; rw [if_pos rfl]
theorem up1_self (rm : Nat → Int) (e : Nat) (d : Int) : up1 rm e d e = rm e - d := by unfold up1; rw [if_neg (tw_ne e).symm, if_pos rfl]
theorem up1_else {rm : Nat → Int} {e x : Nat} {d : Int} (h1 : x ≠ tw e) (h2 : x ≠ e) : up1 rm e d x = rm x := by unfold up1; rw [if_neg h1, if_neg h2]

section
variable {m n : Nat} {a b : Nat → Nat} {r rm : Nat → Int}
theorem net_up1 {e : Nat} {d : Int} (he : e < 2 * m) (v : Nat) : net m a b (up1 rm e d) v = net m a b rm v + d * (ind (decide (tl a b e = v)) - ind (decide (hd a b e = v))) := by
  have hj : e / 2 < m := by omega
  unfold net
  rw [sm_one (j := e / 2) (h := fun i => (ind (decide (a i = v)) - ind (decide (b i = v))) * rm (2 * i + 1)) hj]
  · congr 1
    by_cases h : e % 2 = 0
    · have e2 : 2 * (e / 2) + 1 = tw e := by unfold tw; rw [if_pos h]; omega
      have t1 : tl a b e = a (e / 2) := by unfold tl; rw [if_pos h]
      have t2 : hd a b e = b (e / 2) := by unfold hd; rw [if_pos h]
      rw [e2, up1_tw, t1, t2, ← Int.mul_sub, show rm (tw e) + d - rm (tw e) = d by omega, Int.mul_comm]
    · have e2 : 2 * (e / 2) + 1 = e := by omega
      have t1 : tl a b e = b (e / 2) := by unfold tl; rw [if_neg h]
      have t2 : hd a b e = a (e / 2) := by unfold hd; rw [if_neg h]
      rw [e2, up1_self, t1, t2, ← Int.mul_sub, show rm e - d - rm e = -d by omega, Int.mul_comm, Int.neg_mul, ← Int.mul_neg]
      congr 1
      omega
  · intro i hi hne
    rw [up1_else (by unfold tw; split <;> omega) (by omega)]
/-- a walk back along arcs es, from v to u -/
def Path (a b : Nat → Nat) : Nat → List Nat → Nat → Prop
  | v, [], u => v = u
  | v, e :: es, u => hd a b e = v ∧ Path a b (tl a b e) es u
theorem Path.snoc {e : Nat} : ∀ {v : Nat} {es : List Nat}, Path a b v es (hd a b e) → Path a b v (es ++ [e]) (tl a b e)
  | v, [], h => ⟨Eq.symm h, rfl⟩
  | v, f :: es, h => ⟨h.1, Path.snoc h.2⟩
def ups (d : Int) : List Nat → (Nat → Int) → Nat → Int
  | [], rm => rm
  | e :: es, rm => ups d es (up1 rm e d)
theorem net_ups {d : Int} (w u : Nat) : ∀ {es : List Nat} {v : Nat} {rm : Nat → Int}, (∀ e ∈ es, e < 2 * m) → Path a b v es u → net m a b (ups d es rm) w = net m a b rm w + d * (ind (decide (u = w)) - ind (decide (v = w)))
  | [], v, rm, _, h => by
    have h : v = u := h
    subst h
    show net m a b rm w = net m a b rm w + d * (ind (decide (v = w)) - ind (decide (v = w)))
    rw [Int.sub_self, Int.mul_zero, Int.add_zero]
  | e :: es, v, rm, hl, h => by
    show net m a b (ups d es (up1 rm e d)) w = _
    rw [net_ups w u (fun x hx => hl x (List.mem_cons.mpr (Or.inr hx))) h.2, net_up1 (hl e (List.mem_cons.mpr (Or.inl rfl))), h.1, Int.add_assoc, ← Int.mul_add]
    congr 2
    omega
theorem caps_up1 {e : Nat} {d : Int} (c : Caps m r rm) (he : e < 2 * m) (h0 : 0 ≤ d) (h1 : d ≤ rm e) : Caps m r (up1 rm e d) := by
  intro i hi
  obtain ⟨c1, c2, c3⟩ := c i hi
  by_cases h : e / 2 = i
  · by_cases ev : e % 2 = 0
    · have e1 : 2 * i = e := by omega
      have e2 : 2 * i + 1 = tw e := by unfold tw; rw [if_pos ev]; omega
      rw [e2] at c2 c3
      rw [e1] at c1 c3
      rw [e2, e1, up1_tw, up1_self]
      omega
    · have e1 : 2 * i + 1 = e := by omega
      have e2 : 2 * i = tw e := by unfold tw; rw [if_neg ev]; omega
      rw [e1] at c2 c3
      rw [e2] at c1 c3
      rw [e1, e2, up1_tw, up1_self]
      omega
  · rw [up1_else (by unfold tw; split <;> omega) (by omega), up1_else (by unfold tw; split <;> omega) (by omega)]
    exact ⟨c1, c2, c3⟩
theorem caps_ups {d : Int} (h0 : 0 ≤ d) : ∀ {es : List Nat} {rm : Nat → Int}, Caps m r rm → es.Nodup → (∀ e ∈ es, e < 2 * m ∧ d ≤ rm e) → Caps m r (ups d es rm)
  | [], rm, c, _, _ => c
  | e :: es, rm, c, nd, hl => by
    obtain ⟨n1, n2⟩ := List.nodup_cons.mp nd
    obtain ⟨l1, l2⟩ := hl e (List.mem_cons.mpr (Or.inl rfl))
    show Caps m r (ups d es (up1 rm e d))
    refine caps_ups h0 (caps_up1 c l1 h0 l2) n2 fun x hx => ?_
    obtain ⟨k1, k2⟩ := hl x (List.mem_cons.mpr (Or.inr hx))
    refine ⟨k1, ?_⟩
    by_cases c1 : x = tw e
    · rw [c1, up1_tw]
      rw [c1] at k2
      omega
    · rw [up1_else c1 fun z => n1 (z ▸ hx)]
      exact k2
theorem net_le (c : Caps m r rm) (v : Nat) : net m a b rm v ≤ sm m r := by
  refine sm_le fun i hi => ?_
  obtain ⟨c1, c2, c3⟩ := c i hi
  have h : ∀ p q : Bool, (ind p - ind q) * rm (2 * i + 1) ≤ r i := fun p q => by
    cases p <;> cases q <;> simp only [ind_t, ind_f] <;> omega
  exact h _ _
/-- the flow over a side is the worth -/
def Keeps (m n : Nat) (a b : Nat → Nat) (rm : Nat → Int) : Prop := ∀ v, v < n → v ≠ 0 → v ≠ 1 → net m a b rm v = 0
theorem cut_flow (hn : 2 ≤ n) (ha : ∀ i, i < m → a i < n) (hb : ∀ i, i < m → b i < n) (k : Keeps m n a b rm) (S : Nat → Bool) (s0 : S 0 = true) (s1 : S 1 = false) :
    net m a b rm 0 = sm m fun i => (ind (S (a i)) - ind (S (b i))) * rm (2 * i + 1) := by
  have h1 : sm n (fun v => ind (S v) * net m a b rm v) = net m a b rm 0 := by
    have z : sm n (fun v => ind (S v) * net m a b rm v) = sm n (fun v => net m a b rm 0 * ind (decide (0 = v))) := by
      refine sm_congr fun v hv => ?_
      by_cases c0 : v = 0
      · subst c0
        rw [s0, ind_t, decide_eq_true rfl, ind_t, Int.one_mul, Int.mul_one]
      · rw [decide_eq_false (Ne.symm c0), ind_f, Int.mul_zero]
        by_cases c1 : v = 1
        · rw [c1, s1, ind_f, Int.zero_mul]
        · rw [k v hv c0 c1, Int.mul_zero]
    rw [z]
    exact sm_pick (c := fun _ => net m a b rm 0) (by omega)
  rw [← h1]
  have h2 : sm n (fun v => ind (S v) * net m a b rm v) = sm n fun v => sm m fun i => ind (S v) * ((ind (decide (a i = v)) - ind (decide (b i = v))) * rm (2 * i + 1)) := by
    refine sm_congr fun v _ => ?_
    unfold net
    rw [sm_mul]
  rw [h2, sm_swap]
  refine sm_congr fun i hi => ?_
  have h3 : sm n (fun v => ind (S v) * ((ind (decide (a i = v)) - ind (decide (b i = v))) * rm (2 * i + 1))) = sm n (fun v => (ind (S v) * rm (2 * i + 1)) * ind (decide (a i = v)) - (ind (S v) * rm (2 * i + 1)) * ind (decide (b i = v))) := by
    refine sm_congr fun v _ => ?_
    rw [Int.sub_mul, Int.mul_sub, Int.mul_assoc, Int.mul_assoc, Int.mul_comm (rm (2 * i + 1)), Int.mul_comm (rm (2 * i + 1))]
  rw [h3, sm_sub, sm_pick (c := fun v => ind (S v) * rm (2 * i + 1)) (ha i hi), sm_pick (c := fun v => ind (S v) * rm (2 * i + 1)) (hb i hi), Int.sub_mul]
/-- the room of a side -/
def cap (m : Nat) (a b : Nat → Nat) (r : Nat → Int) (S : Nat → Bool) : Int := sm m fun i => if S (a i) = true ∧ S (b i) = false then r i else 0
theorem cut_term (c : Caps m r rm) (S : Nat → Bool) {i : Nat} (hi : i < m) : (ind (S (a i)) - ind (S (b i))) * rm (2 * i + 1) ≤ if S (a i) = true ∧ S (b i) = false then r i else 0 := by
  obtain ⟨c1, c2, c3⟩ := c i hi
  cases S (a i) <;> cases S (b i) <;> simp [ind] <;> omega
theorem weak (hn : 2 ≤ n) (ha : ∀ i, i < m → a i < n) (hb : ∀ i, i < m → b i < n) (c : Caps m r rm) (k : Keeps m n a b rm) (S : Nat → Bool) (s0 : S 0 = true) (s1 : S 1 = false) : net m a b rm 0 ≤ cap m a b r S := by
  rw [cut_flow hn ha hb k S s0 s1]
  exact sm_le fun i hi => cut_term c S hi
/-- where the room of a side is the worth: full outward, empty inward -/
theorem tight (hn : 2 ≤ n) (ha : ∀ i, i < m → a i < n) (hb : ∀ i, i < m → b i < n) (c : Caps m r rm) (k : Keeps m n a b rm) (S : Nat → Bool) (s0 : S 0 = true) (s1 : S 1 = false) (q : net m a b rm 0 = cap m a b r S) {i : Nat} (hi : i < m) :
    (S (a i) = true → S (b i) = false → rm (2 * i) = 0) ∧ (S (a i) = false → S (b i) = true → rm (2 * i + 1) = 0) := by
  rw [cut_flow hn ha hb k S s0 s1] at q
  have z := sm_eq_of_le (fun i hi => cut_term c S hi) q i hi
  obtain ⟨c1, c2, c3⟩ := c i hi
  constructor
  · intro p1 p2
    rw [p1, p2] at z
    simp [ind] at z
    omega
  · intro p1 p2
    rw [p1, p2] at z
    simp [ind] at z
    omega
/-- what has been reached from u0: found in its sequence, each but the first with the arc that leads to it; all that leads on from the first k is found -/
structure Reach (m n : Nat) (a b : Nat → Nat) (rm : Nat → Int) (u0 : Nat) (found : List Nat) (arcs : List Int) (k : Nat) : Prop where
  len : arcs.length = found.length
  nd : found.Nodup
  lt : ∀ v ∈ found, v < n
  hd0 : found[0]? = some u0
  step : ∀ j v, 0 < j → found[j]? = some v → ∃ e : Nat, arcs[j]? = some (e : Int) ∧ e < 2 * m ∧ hd a b e = v ∧ 0 < rm e ∧ ∃ i, i < j ∧ found[i]? = some (tl a b e)
  closed : ∀ j v, j < k → found[j]? = some v → ∀ e, e < 2 * m → tl a b e = v → 0 < rm e → hd a b e ∈ found
  kle : k ≤ found.length
theorem Reach.zero {u0 : Nat} (h : u0 < n) : Reach m n a b rm u0 [u0] [-1] 0 where
  len := rfl
  nd := by simp
  lt := fun v hv => by rw [List.mem_singleton.mp hv]; exact h
  hd0 := rfl
  step := fun j v hj e => by
    match j, hj with
    | j + 1, _ => simp at e
  closed := fun j v hj => by omega
  kle := Nat.zero_le _
theorem nodup_len : ∀ (n : Nat) (l : List Nat), l.Nodup → (∀ v ∈ l, v < n) → l.length ≤ n := by
  intro n
  induction n with
  | zero =>
    intro l _ h
    match l with
    | [] => exact Nat.le_refl _
    | x :: _ => exact absurd (h x (List.mem_cons.mpr (Or.inl rfl))) (Nat.not_lt_zero _)
  | succ n ih =>
    intro l nd h
    have e := ih (l.erase n) (nd.erase n) fun v hv => by
      have h1 := h v (List.mem_of_mem_erase hv)
      have h2 : v ≠ n := fun z => by
        subst z
        exact (List.Nodup.not_mem_erase nd) hv
      omega
    have h3 : l.length ≤ (l.erase n).length + 1 := by
      by_cases c : n ∈ l
      · rw [List.length_erase_of_mem c]; omega
      · rw [List.erase_of_not_mem c]; omega
    omega
theorem Reach.le {u0 k : Nat} {found : List Nat} {arcs : List Int} (R : Reach m n a b rm u0 found arcs k) : found.length ≤ n := nodup_len n found R.nd R.lt
/-- a further node -/
theorem Reach.add {u0 k e : Nat} {found : List Nat} {arcs : List Int} (R : Reach m n a b rm u0 found arcs k) (he : e < 2 * m) (ho : 0 < rm e) (ht : tl a b e ∈ found) (hx : hd a b e ∉ found) (hn : hd a b e < n) :
    Reach m n a b rm u0 (found ++ [hd a b e]) (arcs ++ [(e : Int)]) k where
  len := by rw [List.length_append, List.length_append, R.len]; rfl
  nd := by
    refine List.nodup_append.mpr ⟨R.nd, by simp, fun x hx' y hy z => ?_⟩
    rw [List.mem_singleton.mp hy] at z
    exact hx (z ▸ hx')
  lt := fun v hv => by
    rcases List.mem_append.mp hv with h | h
    · exact R.lt v h
    · rw [List.mem_singleton.mp h]; exact hn
  hd0 := by
    have h := R.hd0
    match found, h with
    | x :: _, h => exact h
  step := fun j v hj ej => by
    by_cases c : j < found.length
    · rw [List.getElem?_append_left c] at ej
      obtain ⟨e', h1, h2, h3, h4, i, h5, h6⟩ := R.step j v hj ej
      exact ⟨e', by rw [List.getElem?_append_left (by rw [R.len]; exact c)]; exact h1, h2, h3, h4, i, h5, by rw [List.getElem?_append_left (by omega)]; exact h6⟩
    · have c2 : j = found.length := by
        have q := (List.getElem?_eq_some_iff.mp ej).1
        rw [List.length_append, List.length_singleton] at q
        omega
      subst c2
      rw [List.getElem?_append_right (Nat.le_refl _), Nat.sub_self] at ej
      have ev : hd a b e = v := Option.some.inj ej
      obtain ⟨i, hi⟩ := List.mem_iff_getElem?.mp ht
      refine ⟨e, ?_, he, ev, ho, i, (List.getElem?_eq_some_iff.mp hi).1, ?_⟩
      · rw [← R.len, List.getElem?_append_right (Nat.le_refl _), Nat.sub_self]
        rfl
      · rw [List.getElem?_append_left (List.getElem?_eq_some_iff.mp hi).1]
        exact hi
  closed := fun j v hj ej e' h1 h2 h3 => by
    by_cases c : j < found.length
    · rw [List.getElem?_append_left c] at ej
      exact List.mem_append_left _ (R.closed j v hj ej e' h1 h2 h3)
    · have := R.kle
      omega
  kle := by
    have := R.kle
    rw [List.length_append]
    omega
/-- the first k + 1 are dealt with -/
theorem Reach.next {u0 k v : Nat} {found : List Nat} {arcs : List Int} (R : Reach m n a b rm u0 found arcs k) (hv : found[k]? = some v) (h : ∀ e, e < 2 * m → tl a b e = v → 0 < rm e → hd a b e ∈ found) : Reach m n a b rm u0 found arcs (k + 1) :=
  { R with
    closed := fun j w hj ej => by
      by_cases c : j = k
      · subst c
        rw [hv] at ej
        cases ej
        exact h
      · exact R.closed j w (by omega) ej
    kle := (List.getElem?_eq_some_iff.mp hv).1 }
/-- all that is reached lies in each side that nothing leads out of -/
theorem Reach.within {u0 k : Nat} {found : List Nat} {arcs : List Int} (R : Reach m n a b rm u0 found arcs k) (S : Nat → Bool) (s0 : S u0 = true) (h : ∀ e, e < 2 * m → 0 < rm e → S (tl a b e) = true → S (hd a b e) = true) : ∀ v ∈ found, S v = true := by
  have key : ∀ (j v : Nat), found[j]? = some v → S v = true := by
    intro j
    induction j using Nat.strongRecOn with
    | _ j ih =>
      intro v hv
      by_cases c : j = 0
      · subst c
        rw [R.hd0] at hv
        cases hv
        exact s0
      · obtain ⟨e, _, h2, h3, h4, i, h5, h6⟩ := R.step j v (by omega) hv
        rw [← h3]
        exact h e h2 h4 (ih i h5 _ h6)
  intro v hv
  obtain ⟨j, hj⟩ := List.mem_iff_getElem?.mp hv
  exact key j v hj

/-! ### the walk back along the arcs -/
/-- es leads from v1 back to found[j]; the heads of its arcs stand behind j -/
structure Back (m : Nat) (a b : Nat → Nat) (rm : Nat → Int) (found : List Nat) (v1 : Nat) (es : List Nat) (j : Nat) : Prop where
  path : ∃ v, found[j]? = some v ∧ Path a b v1 es v
  nd : es.Nodup
  all : ∀ e ∈ es, e < 2 * m ∧ 0 < rm e ∧ ∃ i, j < i ∧ found[i]? = some (hd a b e)
theorem Back.zero {found : List Nat} {v1 j : Nat} (h : found[j]? = some v1) : Back m a b rm found v1 [] j := ⟨⟨v1, h, rfl⟩, List.nodup_nil, fun e he => by simp at he⟩
theorem nd_at {l : List Nat} (h : l.Nodup) {i j v : Nat} (hi : l[i]? = some v) (hj : l[j]? = some v) : i = j := by
  obtain ⟨h1, e1⟩ := List.getElem?_eq_some_iff.mp hi
  obtain ⟨h2, e2⟩ := List.getElem?_eq_some_iff.mp hj
  exact (List.getElem_inj h).mp (e1.trans e2.symm)
theorem Back.more {u0 k : Nat} {found : List Nat} {arcs : List Int} (R : Reach m n a b rm u0 found arcs k) {v1 j v : Nat} {es : List Nat} (B : Back m a b rm found v1 es j) (hv : found[j]? = some v) (hne : v ≠ u0) :
    ∃ e : Nat, arcs[j]? = some (e : Int) ∧ e < 2 * m ∧ 0 < rm e ∧ ∃ i, i < j ∧ found[i]? = some (tl a b e) ∧ Back m a b rm found v1 (es ++ [e]) i := by
  have hj : 0 < j := by
    rcases Nat.eq_zero_or_pos j with c | c
    · subst c
      rw [R.hd0] at hv
      exact absurd (Option.some.inj hv).symm hne
    · exact c
  obtain ⟨e, h1, h2, h3, h4, i, h5, h6⟩ := R.step j v hj hv
  refine ⟨e, h1, h2, h4, i, h5, h6, ⟨_, h6, ?_⟩, ?_, fun x hx => ?_⟩
  · obtain ⟨w, hw, p⟩ := B.path
    rw [hv] at hw
    cases hw
    rw [← h3] at p
    exact p.snoc
  · refine List.nodup_append.mpr ⟨B.nd, by simp, fun x hx y hy z => ?_⟩
    rw [List.mem_singleton.mp hy] at z
    subst z
    obtain ⟨_, _, i', k1, k2⟩ := B.all x hx
    rw [h3] at k2
    have := nd_at R.nd hv k2
    omega
  · rcases List.mem_append.mp hx with hx | hx
    · obtain ⟨k1, k2, i', k3, k4⟩ := B.all x hx
      exact ⟨k1, k2, i', by omega, k4⟩
    · rw [List.mem_singleton.mp hx]
      exact ⟨h2, h4, j, h5, by rw [h3]; exact hv⟩

/-! ### one push, the end -/
theorem push_ok {k : Nat} {found : List Nat} {arcs : List Int} {es : List Nat} {d : Int} (hn : 2 ≤ n) (c : Caps m r rm) (kp : Keeps m n a b rm) (R : Reach m n a b rm 0 found arcs k) (B : Back m a b rm found 1 es 0) (hd0 : 0 < d) (hd1 : ∀ e ∈ es, d ≤ rm e) :
    Caps m r (ups d es rm) ∧ Keeps m n a b (ups d es rm) ∧ net m a b (ups d es rm) 0 = net m a b rm 0 + d := by
  have hl : ∀ e ∈ es, e < 2 * m := fun e he => (B.all e he).1
  have p : Path a b 1 es 0 := by
    obtain ⟨v, hv, p⟩ := B.path
    rw [R.hd0] at hv
    cases hv
    exact p
  refine ⟨caps_ups (by omega) c B.nd fun e he => ⟨hl e he, hd1 e he⟩, fun v hv h0 h1 => ?_, ?_⟩
  · rw [net_ups v 0 hl p, kp v hv h0 h1, decide_eq_false (Ne.symm h0), decide_eq_false (Ne.symm h1)]
    simp [ind]
  · rw [net_ups 0 0 hl p]
    simp [ind]
/-- nothing leads to 1 any more -/
structure Full (m n : Nat) (a b : Nat → Nat) (r rm : Nat → Int) (found : List Nat) : Prop where
  caps : Caps m r rm
  keeps : Keeps m n a b rm
  h0 : 0 ∈ found
  h1 : 1 ∉ found
  closed : ∀ e, e < 2 * m → 0 < rm e → tl a b e ∈ found → hd a b e ∈ found
  within : ∀ S : Nat → Bool, S 0 = true → (∀ e, e < 2 * m → 0 < rm e → S (tl a b e) = true → S (hd a b e) = true) → ∀ v ∈ found, S v = true
theorem full_of {found : List Nat} {arcs : List Int} (c : Caps m r rm) (kp : Keeps m n a b rm) (R : Reach m n a b rm 0 found arcs found.length) (h1 : 1 ∉ found) : Full m n a b r rm found where
  caps := c
  keeps := kp
  h0 := List.mem_of_getElem? R.hd0
  h1 := h1
  closed := fun e he ho ht => by
    obtain ⟨j, hj⟩ := List.mem_iff_getElem?.mp ht
    exact R.closed j _ (List.getElem?_eq_some_iff.mp hj).1 hj e he rfl ho
  within := R.within
def side (found : List Nat) : Nat → Bool := fun v => decide (v ∈ found)
theorem Full.sat {found : List Nat} (F : Full m n a b r rm found) {i : Nat} (hi : i < m) :
    (a i ∈ found → b i ∉ found → rm (2 * i + 1) = r i) ∧ (a i ∉ found → b i ∈ found → rm (2 * i + 1) = 0) := by
  obtain ⟨c1, c2, c3⟩ := F.caps i hi
  constructor
  · intro h1 h2
    have h3 : ¬ 0 < rm (2 * i) := fun h => h2 (by
      have q := F.closed (2 * i) (by omega) h (by rw [tl_even]; exact h1)
      rw [hd_even] at q
      exact q)
    omega
  · intro h1 h2
    have h3 : ¬ 0 < rm (2 * i + 1) := fun h => h1 (by
      have q := F.closed (2 * i + 1) (by omega) h (by rw [tl_odd]; exact h2)
      rw [hd_odd] at q
      exact q)
    omega
theorem Full.worth {found : List Nat} (hn : 2 ≤ n) (ha : ∀ i, i < m → a i < n) (hb : ∀ i, i < m → b i < n) (F : Full m n a b r rm found) : net m a b rm 0 = cap m a b r (side found) := by
  rw [cut_flow hn ha hb F.keeps (side found) (by simp [side, F.h0]) (by simp [side, F.h1])]
  refine sm_congr fun i hi => ?_
  obtain ⟨s1, s2⟩ := F.sat hi
  unfold side
  by_cases p : a i ∈ found <;> by_cases q : b i ∈ found
  · simp [p, q, ind]
  · simp [p, q, ind, s1 p q]
  · simp [p, q, ind, s2 p q]
  · simp [p, q, ind]
theorem Full.least {found : List Nat} (hn : 2 ≤ n) (ha : ∀ i, i < m → a i < n) (hb : ∀ i, i < m → b i < n) (F : Full m n a b r rm found) (S : Nat → Bool) (s0 : S 0 = true) (s1 : S 1 = false) (q : net m a b rm 0 = cap m a b r S) : ∀ v ∈ found, S v = true := by
  refine F.within S s0 fun e he ho ht => ?_
  have hi : e / 2 < m := by omega
  obtain ⟨t1, t2⟩ := tight hn ha hb F.caps F.keeps S s0 s1 q hi
  by_cases ev : e % 2 = 0
  · have e1 : 2 * (e / 2) = e := by omega
    unfold tl at ht
    unfold hd
    rw [if_pos ev] at ht ⊢
    rw [e1] at t1
    cases z : S (b (e / 2)) with
    | true => rfl
    | false => have := t1 ht z; omega
  · have e1 : 2 * (e / 2) + 1 = e := by omega
    unfold tl at ht
    unfold hd
    rw [if_neg ev] at ht ⊢
    rw [e1] at t2
    cases z : S (a (e / 2)) with
    | true => rfl
    | false => have := t2 z ht; omega
/-- the start: nothing flows -/
theorem caps_start (hr : ∀ i, i < m → 0 ≤ r i) (e0 : ∀ i, i < m → rm (2 * i) = r i ∧ rm (2 * i + 1) = 0) : Caps m r rm ∧ Keeps m n a b rm := by
  refine ⟨fun i hi => ?_, fun v _ _ _ => ?_⟩
  · obtain ⟨h1, h2⟩ := e0 i hi
    have := hr i hi
    omega
  · unfold net
    rw [sm_congr (h := fun _ => 0) fun i hi => by rw [(e0 i hi).2, Int.mul_zero]]
    exact sm_zero
end
end Fl
namespace Kx
open PySem PySem.Spec PyProof.Rows L2
abbrev sTwin : Stmt := top 9
abbrev sNInit : Stmt := inClass (top 10) 0
abbrev sLink : Stmt := inClass (top 10) 1
abbrev sOpen : Stmt := inClass (top 10) 2
abbrev sReached : Stmt := inClass (top 10) 3
abbrev sPush : Stmt := inClass (top 10) 5
abbrev sFill : Stmt := inClass (top 10) 6
abbrev sFlow : Stmt := inClass (top 10) 7
/-! ### a network's attributes -/
theorem n_er : ¬ (("ends" : Str) = "room") := by decide +kernel
theorem n_eo : ¬ (("ends" : Str) = "outs") := by decide +kernel
theorem n_ro : ¬ (("room" : Str) = "outs") := by decide +kernel
def nf (le lr lo : Addr) : List (Str × V) := putF "outs" (.ref lo) (putF "room" (.ref lr) (putF "ends" (.ref le) []))
theorem nf_ends (le lr lo : Addr) : (nf le lr lo).lookup ("ends" : Str) = some (.ref le) := by
  unfold nf; rw [lookup_putF, if_neg n_eo, lookup_putF, if_neg n_er, lookup_putF, if_pos rfl]
theorem nf_room (le lr lo : Addr) : (nf le lr lo).lookup ("room" : Str) = some (.ref lr) := by
  unfold nf; rw [lookup_putF, if_neg n_ro, lookup_putF, if_pos rfl]
theorem nf_outs (le lr lo : Addr) : (nf le lr lo).lookup ("outs" : Str) = some (.ref lo) := by
  unfold nf; rw [lookup_putF, if_pos rfl]
theorem nf_no (le lr lo : Addr) {m : Str} (h1 : ¬ m = "outs") (h2 : ¬ m = "room") (h3 : ¬ m = "ends") : (nf le lr lo).lookup m = none := by
  unfold nf; rw [lookup_putF, if_neg h1, lookup_putF, if_neg h2, lookup_putF, if_neg h3]; all_goals rfl
structure NetW (C : Addr) (H : Hp) (p le lr lo : Addr) (outs : List Addr) (ends rooms : List Int) (adj : List (List Int)) : Prop where
  ob : ∃ dx, H p = some (.ins C dx (nf le lr lo))
  he : H le = some (.lst (ends.map V.int))
  hr : H lr = some (.lst (rooms.map V.int))
  ho : H lo = some (.lst (outs.map V.ref))
  len : outs.length = adj.length
  adj : ∀ (i : Nat) (o : Addr) (l : List Int), outs[i]? = some o → adj[i]? = some l → H o = some (.lst (l.map V.int))
  nd : outs.Nodup
  er : le ≠ lr
  eo : le ∉ outs
  ro : lr ∉ outs
  lo_ : lo ∉ outs
  oe : lo ≠ le
  or_ : lo ≠ lr
theorem NetW.same {C : Addr} {H H' : Hp} {p le lr lo : Addr} {outs : List Addr} {ends rooms : List Int} {adj : List (List Int)} (N : NetW C H p le lr lo outs ends rooms adj) (s : Same H H') : NetW C H' p le lr lo outs ends rooms adj :=
  { N with
    ob := by obtain ⟨dx, h⟩ := N.ob; exact ⟨dx, s _ _ h⟩
    he := s _ _ N.he
    hr := s _ _ N.hr
    ho := s _ _ N.ho
    adj := fun i o l h1 h2 => s _ _ (N.adj i o l h1 h2) }
/-- another list of rooms -/
theorem NetW.rooms {C : Addr} {H H' : Hp} {p le lr lo : Addr} {outs : List Addr} {ends rooms rooms' : List Int} {adj : List (List Int)} (N : NetW C H p le lr lo outs ends rooms adj) (k : Keep lr H H') (h : H' lr = some (.lst (rooms'.map V.int))) : NetW C H' p le lr lo outs ends rooms' adj :=
  { N with
    ob := by
      obtain ⟨dx, q⟩ := N.ob
      exact ⟨dx, k _ _ (ne_of q N.hr (by intro z; cases z)) q⟩
    he := k _ _ N.er N.he
    hr := h
    ho := k _ _ N.or_ N.ho
    adj := fun i o l h1 h2 => k _ _ (fun z => N.ro (z ▸ List.mem_of_getElem? h1)) (N.adj i o l h1 h2) }
/-! ### promises -/
def spTwin : Sp := fun vs H Q _ => ∃ e : Nat, vs = [.int e] ∧ Q (.int (Fl.tw e : Nat)) H
def spNInit (C : Addr) : Sp := fun vs H Q _ => ∃ (p dx : Addr) (n : Nat), vs = [.ref p, .int n] ∧ n ≤ 1000 ∧ H p = some (.ins C dx []) ∧
  ∀ H' le lr lo outs, NetW C H' p le lr lo outs [] [] (List.replicate n []) → (∀ b o, b ≠ p → H b = some o → H' b = some o) → (∀ b ∈ le :: lr :: lo :: outs, H b = none) → Q .non H'
def spLink (C : Addr) : Sp := fun vs H Q _ => ∃ (p le lr lo : Addr) (outs : List Addr) (ends rooms : List Int) (adj : List (List Int)) (a b : Nat) (r : Int), vs = [.ref p, .int a, .int b, .int r] ∧ NetW C H p le lr lo outs ends rooms adj ∧ a < adj.length ∧ b < adj.length ∧ ends.length ≤ 2000 ∧ rooms.length ≤ 2000 ∧ (∀ l ∈ adj, l.length ≤ 2000) ∧
  ∀ H', NetW C H' p le lr lo outs (ends ++ [(b : Int), a]) (rooms ++ [r, 0]) ((adj.modify a (· ++ [(ends.length : Int)])).modify b (· ++ [(ends.length : Int) + 1])) → (∀ x o, x ∉ le :: lr :: outs → H x = some o → H' x = some o) → Q (.int ends.length) H'
def spOpen (C : Addr) : Sp := fun vs H Q _ => ∃ (p le lr lo : Addr) (outs : List Addr) (ends rooms : List Int) (adj : List (List Int)) (e : Nat) (r : Int), vs = [.ref p, .int e] ∧ NetW C H p le lr lo outs ends rooms adj ∧ rooms[e]? = some r ∧ Q (.bl (decide (0 < r))) H
def spFlow (C : Addr) : Sp := fun vs H Q _ => ∃ (p le lr lo : Addr) (outs : List Addr) (ends rooms : List Int) (adj : List (List Int)) (e : Nat) (r : Int), vs = [.ref p, .int e] ∧ NetW C H p le lr lo outs ends rooms adj ∧ rooms[e + 1]? = some r ∧ Q (.int r) H
structure TxtN (K : PySem.W.Frag) (mg : Str → Option Value) (C : Addr) : Prop where
  cl : Cls K C
  nE : NoAttr K C "ends"
  nR : NoAttr K C "room"
  nO : NoAttr K C "outs"
  b_range : mg "range" = none
section
variable {P : Program} {w : World} {K : PySem.W.Frag} {mg : Str → Option Value} {base : Heap} {C : Addr}
theorem scTwin : FnScope ["arc"] ["arc"] (defScope sTwin) := ⟨rfl, rfl, rfl, by decide +kernel, rfl, by decide +kernel, by decide +kernel⟩
theorem ok_twin {f : Addr} {fd : FuncData} (F : Fun K "twin" "twin" sTwin f fd) : FnOk P w K mg base CX0 1 f fd ["arc"] spTwin := by
  refine F.ok scTwin (fun vs H Q E h => ?_) (fun cdv A outer s H vs Q E hr h => ?_)
  · obtain ⟨e, rfl, _⟩ := h
    rfl
  · obtain ⟨e, rfl, k⟩ := h
    refine ⟨_, (pss_one (ps_ret (pe_ifExp (pt_cmpR op_eq (pe_op op_mod (pv 0) pe_int) pe_int (nomark _)) (pe_op op_add (pv 0) pe_int) (pe_op op_sub (pv 0) pe_int)))), ?_⟩
    refine ⟨_, rfl, _, _, rfl, rfl, (by show (0 : Int) < 2; decide), rfl, _, rfl, if_d (fun c => ?_) (fun c => ?_)⟩
    · have c' : (e : Int) % 2 = 0 := V.int.inj c
      have z : ((Fl.tw e : Nat) : Int) = e + 1 := by unfold Fl.tw; rw [if_pos (by omega)]; omega
      refine ⟨_, rfl, _, _, rfl, rfl, ?_⟩
      rw [z] at k; exact k
    · have c' : ¬ (e : Int) % 2 = 0 := fun h => c (congrArg V.int h)
      have z : ((Fl.tw e : Nat) : Int) = e - 1 := by unfold Fl.tw; rw [if_neg (by omega)]; omega
      refine ⟨_, rfl, _, _, rfl, rfl, ?_⟩
      rw [z] at k; exact k
theorem scOpen : FnScope ["self", "arc"] ["self", "arc"] (defScope sOpen) := ⟨rfl, rfl, rfl, by decide +kernel, rfl, by decide +kernel, by decide +kernel⟩
theorem ok_open {f : Addr} {fd : FuncData} (F : Fun K "is_open" "Network.is_open" sOpen f fd) (T : TxtN K mg C) : FnOk P w K mg base CX0 1 f fd ["self", "arc"] (spOpen C) := by
  refine F.ok scOpen (fun vs H Q E h => ?_) (fun cdv A outer s H vs Q E hr h => ?_)
  · obtain ⟨p, le, lr, lo, outs, ends, rooms, adj, e, r, rfl, _⟩ := h
    rfl
  · obtain ⟨p, le, lr, lo, outs, ends, rooms, adj, e, r, rfl, N, he, k⟩ := h
    obtain ⟨dx, ho⟩ := N.ob
    have hat : atI (rooms.map V.int) (e : Int) = some (.int r) := atI_nat (by rw [List.getElem?_map, he]; rfl)
    refine ⟨_, (pss_one (ps_ret (pe_or (pe_cmpR op_isN (pe_ix ix_list (pe_fld (pv 0) rfl) (pv 1) (fun _ _ => rfl)) pe_non (nomark _)) (pe_one (pe_cmpR op_gt (pe_ix ix_list (pe_fld (pv 0) rfl) (pv 1) (fun _ _ => rfl)) pe_int (nomark _)))))), ?_⟩
    refine ⟨_, rfl, p, C, dx, _, _, rfl, ho, T.cl, T.nR, nf_room _ _ _, _, rfl, _, _, _, _, rfl, rfl, SqL.of N.hr, hat, rfl, _, rfl, iteF ?_⟩
    exact ⟨_, rfl, p, C, dx, _, _, rfl, ho, T.cl, T.nR, nf_room _ _ _, _, rfl, _, _, _, _, rfl, rfl, SqL.of N.hr, hat, _, _, rfl, rfl, k⟩
theorem scFlow : FnScope ["self", "arc"] ["self", "arc"] (defScope sFlow) := ⟨rfl, rfl, rfl, by decide +kernel, rfl, by decide +kernel, by decide +kernel⟩
theorem ok_flow {f : Addr} {fd : FuncData} (F : Fun K "flow" "Network.flow" sFlow f fd) (T : TxtN K mg C) : FnOk P w K mg base CX0 1 f fd ["self", "arc"] (spFlow C) := by
  refine F.ok scFlow (fun vs H Q E h => ?_) (fun cdv A outer s H vs Q E hr h => ?_)
  · obtain ⟨p, le, lr, lo, outs, ends, rooms, adj, e, r, rfl, _⟩ := h
    rfl
  · obtain ⟨p, le, lr, lo, outs, ends, rooms, adj, e, r, rfl, N, he, k⟩ := h
    obtain ⟨dx, ho⟩ := N.ob
    have hat : atI (rooms.map V.int) ((e : Int) + 1) = some (.int r) := at_of (j := e + 1) (by omega) (by rw [List.getElem?_map, he]; rfl)
    refine ⟨_, (pss_one (ps_ret (pe_ix ix_list (pe_fld (pv 0) rfl) (pe_op op_add (pv 1) pe_int) (fun _ _ => rfl)))), ?_⟩
    exact ⟨_, rfl, p, C, dx, _, _, rfl, ho, T.cl, T.nR, nf_room _ _ _, _, rfl, _, _, rfl, rfl, _, _, _, _, rfl, rfl, SqL.of N.hr, hat, k⟩
end
end Kx
namespace Kx
open PySem PySem.Spec PyProof.Rows L2
theorem NetW.ends {C : Addr} {H H' : Hp} {p le lr lo : Addr} {outs : List Addr} {ends ends' rooms : List Int} {adj : List (List Int)} (N : NetW C H p le lr lo outs ends rooms adj) (k : Keep le H H') (h : H' le = some (.lst (ends'.map V.int))) : NetW C H' p le lr lo outs ends' rooms adj :=
  { N with
    ob := by
      obtain ⟨dx, q⟩ := N.ob
      exact ⟨dx, k _ _ (ne_of q N.he (by intro z; cases z)) q⟩
    hr := k _ _ N.er.symm N.hr
    he := h
    ho := k _ _ N.oe N.ho
    adj := fun i o l h1 h2 => k _ _ (fun z => N.eo (z ▸ List.mem_of_getElem? h1)) (N.adj i o l h1 h2) }
theorem NetW.more {C : Addr} {H : Hp} {p le lr lo o : Addr} {outs : List Addr} {ends rooms l : List Int} {adj : List (List Int)} {i : Nat} {z : Int} (N : NetW C H p le lr lo outs ends rooms adj) (h1 : outs[i]? = some o) (h2 : adj[i]? = some l) :
    NetW C (upd H o (.lst (l.map V.int ++ [.int z]))) p le lr lo outs ends rooms (adj.modify i (· ++ [z])) := by
  have mo : o ∈ outs := List.mem_of_getElem? h1
  have hl := N.adj i o l h1 h2
  refine { N with ob := ?_, he := ?_, hr := ?_, ho := ?_, len := ?_, adj := ?_ }
  · obtain ⟨dx, q⟩ := N.ob
    exact ⟨dx, by rw [upd_ne (ne_of q hl (by intro z; cases z))]; exact q⟩
  · rw [upd_ne (fun z : le = o => N.eo (by rw [z]; exact mo))]; exact N.he
  · rw [upd_ne (fun z : lr = o => N.ro (by rw [z]; exact mo))]; exact N.hr
  · rw [upd_ne (fun z : lo = o => N.lo_ (by rw [z]; exact mo))]; exact N.ho
  · rw [List.length_modify]; exact N.len
  · intro j o' l' k1 k2
    rw [List.getElem?_modify] at k2
    by_cases c : i = j
    · subst c
      rw [h1] at k1
      cases k1
      rw [h2] at k2
      simp at k2
      subst k2
      rw [upd_same, List.map_append]
      rfl
    · simp only [if_neg c] at k2
      rw [upd_ne (fun z : o' = o => c (Fl.nd_at N.nd h1 (by rw [← z]; exact k1)))]
      refine N.adj j o' l' k1 ?_
      cases q : adj[j]? with
      | none => rw [q] at k2; cases k2
      | some y => rw [q] at k2; exact k2
section
variable {P : Program} {w : World} {K : PySem.W.Frag} {mg : Str → Option Value} {base : Heap} {C : Addr}
theorem scLink : FnScope ["self", "one", "two", "room", "at"] ["self", "one", "two", "room"] (defScope sLink) := ⟨rfl, rfl, rfl, by decide +kernel, rfl, by decide +kernel, by decide +kernel⟩
theorem ok_link {f : Addr} {fd : FuncData} (F : Fun K "link" "Network.link" sLink f fd) (T : TxtN K mg C) (TL : TxtL K mg) : FnOk P w K mg base CX0 1 f fd ["self", "one", "two", "room"] (spLink C) := by
  refine F.ok scLink (fun vs H Q E h => ?_) (fun cdv A outer s H vs Q E hr h => ?_)
  · obtain ⟨p, le, lr, lo, outs, ends, rooms, adj, a, b, r, rfl, _⟩ := h
    rfl
  · obtain ⟨p, le, lr, lo, outs, ends, rooms, adj, a, b, r, rfl, N, ha, hb, hze, hzr, hza, k⟩ := h
    refine ⟨_, (pss_cons (ps_set (i := 4) scLink.nd rfl (Or.inl rfl) (pe_callB call_len_seq (by rfl) TL.b_len (by decide +kernel) (pa_cons (pe_fld (pv 0) rfl) pa_nil)))
    (pss_cons (ps_expr (pe_bm PySem.F.plainAttrs_list PySem.F.slot_list_append PySem.F.type_list_append mt_append (pe_ix ix_list (pe_fld (pv 0) rfl) (pv 1) (fun _ _ => rfl)) (pa_cons (pv 4) pa_nil)))
    (pss_cons (ps_expr (pe_bm PySem.F.plainAttrs_list PySem.F.slot_list_append PySem.F.type_list_append mt_append (pe_ix ix_list (pe_fld (pv 0) rfl) (pv 2) (fun _ _ => rfl)) (pa_cons (pe_op op_add (pv 4) pe_int) pa_nil)))
    (pss_cons (ps_expr (pe_bm PySem.F.plainAttrs_list PySem.F.slot_list_extend PySem.F.type_list_extend mt_extend (pe_fld (pv 0) rfl) (pa_cons (pe_lst (pa_cons (pv 2) (pa_cons (pv 1) pa_nil))) pa_nil)))
    (pss_cons (ps_expr (pe_bm PySem.F.plainAttrs_list PySem.F.slot_list_extend PySem.F.type_list_extend mt_extend (pe_fld (pv 0) rfl) (pa_cons (pe_lst (pa_cons (pv 3) (pa_cons pe_int pa_nil))) pa_nil)))
    (pss_one (ps_ret (pv 4)))))))), ?_⟩
    obtain ⟨dx, ho⟩ := N.ob
    obtain ⟨oa, hoa⟩ : ∃ o, outs[a]? = some o := ⟨_, List.getElem?_eq_getElem (by rw [N.len]; exact ha)⟩
    have hla : adj[a]? = some adj[a] := List.getElem?_eq_getElem ha
    have ia : atI (outs.map V.ref) (a : Int) = some (.ref oa) := atI_nat (by rw [List.getElem?_map, hoa]; rfl)
    have La := N.adj a oa _ hoa hla
    refine ⟨_, rfl, p, C, dx, _, _, rfl, ho, T.cl, T.nE, nf_ends _ _ _, _, _, rfl, .inl (SqL.of N.he), ?_⟩
    rw [List.length_map]
    refine ⟨_, rfl, p, C, dx, _, _, rfl, ho, T.cl, T.nO, nf_outs _ _ _, _, rfl, _, _, _, _, rfl, rfl, SqL.of N.ho, ia, .inl ⟨rfl, _, SqL.of La⟩, _, rfl, _, _, _, rfl, rfl, La, szl (by rw [List.length_map]; exact Nat.le_trans (hza _ (List.mem_of_getElem? hla)) (by decide)), ?_⟩
    have N1 := N.more (z := (ends.length : Int)) hoa hla
    obtain ⟨dx1, ho1⟩ := N1.ob
    have hb1 : b < (adj.modify a (· ++ [(ends.length : Int)])).length := by rw [List.length_modify]; exact hb
    obtain ⟨ob, hob⟩ : ∃ o, outs[b]? = some o := ⟨_, List.getElem?_eq_getElem (by rw [N1.len]; exact hb1)⟩
    have hlb := List.getElem?_eq_getElem hb1
    have ib : atI (outs.map V.ref) (b : Int) = some (.ref ob) := atI_nat (by rw [List.getElem?_map, hob]; rfl)
    have Lb := N1.adj b ob _ hob hlb
    have zb : ((adj.modify a (· ++ [(ends.length : Int)]))[b]).length ≤ 2001 := by
      rw [List.getElem_modify]
      split
      · rw [List.length_append, List.length_singleton]
        have := hza _ (List.getElem_mem hb)
        omega
      · have := hza _ (List.getElem_mem hb)
        omega
    refine ⟨_, rfl, p, C, dx1, _, _, rfl, ho1, T.cl, T.nO, nf_outs _ _ _, _, rfl, _, _, _, _, rfl, rfl, SqL.of N1.ho, ib, .inl ⟨rfl, _, SqL.of Lb⟩, _, rfl, _, _, rfl, rfl, _, _, _, rfl, rfl, Lb, szl (by rw [List.length_map]; omega), ?_⟩
    have N2 := N1.more (z := (ends.length : Int) + 1) hob hlb
    generalize hH2 : upd (upd H oa _) ob _ = H2 at N2 ⊢
    have k2 : ∀ x o, x ∉ outs → H x = some o → H2 x = some o := fun x o hx q => by
      rw [← hH2, upd_ne (fun z : x = ob => hx (by rw [z]; exact List.mem_of_getElem? hob)), upd_ne (fun z : x = oa => hx (by rw [z]; exact List.mem_of_getElem? hoa))]
      exact q
    obtain ⟨dx2, ho2⟩ := N2.ob
    refine ⟨_, rfl, p, C, dx2, _, _, rfl, ho2, T.cl, T.nE, nf_ends _ _ _, .inl ⟨rfl, _, SqL.of N2.he⟩, _, rfl, _, rfl, sz (Nat.le_of_ble_eq_true rfl), fun t ht => ?_⟩
    have N3 := N2.same (same_new (o := .lst [V.int b, V.int a]) ht)
    refine ⟨le, t, _, _, rfl, rfl, N3.he, upd_same, sz (by simp; omega), ?_⟩
    have N4 : NetW C (upd (upd H2 t (.lst [V.int b, V.int a])) le (.lst (ends.map V.int ++ [V.int b, V.int a]))) p le lr lo outs (ends ++ [(b : Int), a]) rooms _ := N3.ends Keep.refl.upd (by rw [upd_same, List.map_append]; rfl)
    generalize hH4 : upd (upd H2 t (.lst [V.int b, V.int a])) le (.lst (ends.map V.int ++ [V.int b, V.int a])) = H4 at N4 ⊢
    have k4 : ∀ x o, x ∉ outs → x ≠ le → H x = some o → H4 x = some o := fun x o hx hx2 q => by
      rw [← hH4, upd_ne hx2, upd_ne (ne_of_none (k2 x o hx q) ht)]
      exact k2 x o hx q
    obtain ⟨dx4, ho4⟩ := N4.ob
    refine ⟨_, rfl, p, C, dx4, _, _, rfl, ho4, T.cl, T.nR, nf_room _ _ _, .inl ⟨rfl, _, SqL.of N4.hr⟩, _, rfl, sz (Nat.le_of_ble_eq_true rfl), fun u hu => ?_⟩
    have N5 := N4.same (same_new (o := .lst [V.int r, V.int 0]) hu)
    refine ⟨lr, u, _, _, rfl, rfl, N5.hr, upd_same, sz (by simp; omega), ?_⟩
    have N6 : NetW C (upd (upd H4 u (.lst [V.int r, V.int 0])) lr (.lst (rooms.map V.int ++ [V.int r, V.int 0]))) p le lr lo outs _ (rooms ++ [r, 0]) _ := N5.rooms Keep.refl.upd (by rw [upd_same, List.map_append]; rfl)
    refine ⟨_, rfl, k _ N6 fun x o hx q => ?_⟩
    simp only [List.mem_cons, not_or] at hx
    obtain ⟨x1, x2, x3⟩ := hx
    rw [upd_ne x2, upd_ne (ne_of_none (k4 x o x3 x1 q) hu)]
    exact k4 x o x3 x1 q
end
end Kx
namespace Kx
open PySem PySem.Spec PyProof.Rows L2
section
variable {P : Program} {w : World} {K : PySem.W.Frag} {mg : Str → Option Value} {base : Heap} {C : Addr}
theorem scNInit : FnScope ["self", "many", "_"] ["self", "many"] (defScope sNInit) := ⟨rfl, rfl, rfl, by decide +kernel, rfl, by decide +kernel, by decide +kernel⟩
theorem ok_ninit {f : Addr} {fd : FuncData} (F : Fun K "__init__" "Network.__init__" sNInit f fd) (T : TxtN K mg C) : FnOk P w K mg base CX0 1 f fd ["self", "many"] (spNInit C) := by
  refine F.ok scNInit (fun vs H Q E h => ?_) (fun cdv A outer s H vs Q E hr h => ?_)
  · obtain ⟨p, dx, n, rfl, _⟩ := h
    rfl
  · obtain ⟨p, dx, n, rfl, hn, hp, k⟩ := h
    refine ⟨_, (pss_cons (ps_fld (pv 0) (pe_lst pa_nil) rfl)
    (pss_cons (ps_fld (pv 0) (pe_lst pa_nil) rfl)
    (pss_one (ps_fld (pv 0) (pe_lc (own := [("_", 2)]) rfl scNInit.nd (pi_range1 rfl T.b_range (pa_cons (pv 1) pa_nil)) (blkOk_by (N := ["self", "many", "_"]) (sc := defScope sNInit) (own := [("_", 2)]) (by decide +kernel)) (fun _ _ _ _ _ => (pg_name (i := 2) scNInit.nd rfl (Or.inl rfl))) (fun _ _ _ _ _ => pts_nil) (fun _ _ _ _ _ => (pe_lst pa_nil))) rfl)))), ?_⟩
    refine ⟨Nat.zero_le _, fun le hle => ?_⟩
    have pe1 : p ≠ le := ne_of_none hp hle
    refine ⟨_, rfl, p, C, dx, [], rfl, (by rw [upd_ne pe1]; exact hp), T.cl, T.nE, (by show 0 < 1000; decide), ?_⟩
    refine ⟨Nat.zero_le _, fun lr hlr => ?_⟩
    have pr1 : p ≠ lr := fun z => by rw [← z, upd_same] at hlr; cases hlr
    have er1 : le ≠ lr := fun z => by rw [← z, upd_ne pe1.symm, upd_same] at hlr; cases hlr
    have hlr0 : H lr = none := by rw [upd_ne pr1.symm, upd_ne er1.symm] at hlr; exact hlr
    refine ⟨_, rfl, p, C, dx, _, rfl, (by rw [upd_ne pr1, upd_same]), T.cl, T.nR, (by show 1 < 1000; decide), ?_⟩
    generalize hH2 : upd (upd (upd (upd H le (.lst [])) p _) lr (.lst [])) p _ = H2
    have p2 : H2 p = some (.ins C dx (putF "room" (.ref lr) (putF "ends" (.ref le) []))) := by rw [← hH2, upd_same]
    have e2 : H2 le = some (.lst []) := by rw [← hH2, upd_ne pe1.symm, upd_ne er1, upd_ne pe1.symm, upd_same]
    have r2 : H2 lr = some (.lst []) := by rw [← hH2, upd_ne pr1.symm, upd_same]
    have k2 : ∀ b o, b ≠ p → H b = some o → H2 b = some o := fun b o hb q => by
      rw [← hH2, upd_ne hb, upd_ne (ne_of_none q hlr0), upd_ne hb, upd_ne (ne_of_none q hle)]
      exact q
    refine ⟨_, rfl, _, rfl, by omega, by omega, fun lo hlo => lc_range (lo := 0) (n := (n : Int).toNat) (fun i H' => ∃ outs : List Addr, outs.length = i ∧ outs.Nodup ∧ H' lo = some (.lst (outs.map V.ref)) ∧ (∀ o ∈ outs, H' o = some (.lst []) ∧ H2 o = none ∧ o ≠ lo) ∧ Same H2 H') ?_ ?_ ?_⟩
    · exact ⟨[], rfl, List.nodup_nil, upd_same, fun o ho => by simp at ho, same_new hlo⟩
    · rintro i H' hi ⟨outs, hl, nd, hL, ho, sm⟩
      refine ⟨rfl, Nat.zero_le _, fun t ht => ⟨_, (by rw [upd_ne (ne_of_none hL ht)]; exact hL), szl (by rw [List.length_map, hl]; omega), outs ++ [t], by rw [List.length_append, hl]; rfl, ?_, by rw [upd_same, List.map_append]; rfl, fun o hm => ?_, ?_⟩⟩
      · refine List.nodup_append.mpr ⟨nd, by simp, fun x hx y hy z => ?_⟩
        rw [List.mem_singleton.mp hy] at z
        subst z
        rw [(ho x hx).1] at ht
        cases ht
      · rcases List.mem_append.mp hm with hm | hm
        · obtain ⟨q1, q2, q3⟩ := ho o hm
          exact ⟨by rw [upd_ne q3, upd_ne (ne_of_none q1 ht)]; exact q1, q2, q3⟩
        · have e := List.mem_singleton.mp hm
          subst e
          have tl : o ≠ lo := (ne_of_none hL ht).symm
          exact ⟨by rw [upd_ne tl, upd_same], sm.free ht, tl⟩
      · intro b u q
        rw [upd_ne (ne_of_none q hlo), upd_ne (ne_of_none (sm b u q) ht)]
        exact sm b u q
    · rintro H' ⟨outs, hl, nd, hL, ho, sm⟩
      have hp3 := sm _ _ p2
      have lop : lo ≠ p := (ne_of_none p2 hlo).symm
      refine ⟨_, rfl, p, C, dx, _, rfl, hp3, T.cl, T.nO, (by show 2 < 1000; decide), ?_⟩
      refine k _ le lr lo outs ⟨⟨dx, upd_same⟩, ?_, ?_, ?_, ?_, ?_, nd, er1, ?_, ?_, fun z => (ho lo z).2.2 rfl, (ne_of_none e2 hlo).symm, (ne_of_none r2 hlo).symm⟩ ?_ ?_
      · rw [upd_ne pe1.symm]; exact sm _ _ e2
      · rw [upd_ne pr1.symm]; exact sm _ _ r2
      · rw [upd_ne lop]; exact hL
      · rw [List.length_replicate, hl]; exact Int.toNat_natCast n
      · intro i o l h1 h2
        have ho' := ho o (List.mem_of_getElem? h1)
        have hl' : l = [] := by
          have := List.mem_of_getElem? h2
          exact List.eq_of_mem_replicate this
        rw [hl', upd_ne (ne_of_none p2 ho'.2.1).symm]
        exact ho'.1
      · intro z
        have := (ho le z).2.1
        rw [e2] at this
        cases this
      · intro z
        have := (ho lr z).2.1
        rw [r2] at this
        cases this
      · intro b o hb q
        rw [upd_ne hb]
        exact sm _ _ (k2 b o hb q)
      · have back : ∀ b, b ≠ p → H2 b = none → H b = none := fun b hb q => by
          cases z : H b with
          | none => rfl
          | some u => rw [k2 b u hb z] at q; cases q
        intro b hb
        simp only [List.mem_cons] at hb
        rcases hb with rfl | rfl | rfl | hb
        · exact hle
        · exact hlr0
        · exact back _ lop hlo
        · exact back b (ne_of_none p2 (ho b hb).2.1).symm (ho b hb).2.1
end
end Kx
namespace Kx
open PySem PySem.Spec PyProof.Rows L2
/-- the arcs of links: their heads by number, the arcs out of each node -/
structure Gr (m n : Nat) (a b : Nat → Nat) (ends : List Int) (adj : List (List Int)) : Prop where
  elen : ends.length = 2 * m
  eat : ∀ e, e < 2 * m → ends[e]? = some ((Fl.hd a b e : Nat) : Int)
  alen : adj.length = n
  mem : ∀ (v : Nat) (l : List Int), adj[v]? = some l → ∀ z ∈ l, ∃ e : Nat, z = (e : Int) ∧ e < 2 * m ∧ Fl.tl a b e = v
  all : ∀ e, e < 2 * m → ∀ l, adj[Fl.tl a b e]? = some l → (e : Int) ∈ l
  tln : ∀ e, e < 2 * m → Fl.tl a b e < n
  hdn : ∀ e, e < 2 * m → Fl.hd a b e < n
def rmf (rooms : List Int) : Nat → Int := fun e => rooms.getD e 0
theorem rmf_at {rooms : List Int} {e : Nat} (h : e < rooms.length) : rooms[e]? = some (rmf rooms e) := by
  unfold rmf
  rw [List.getD_eq_getElem?_getD, List.getElem?_eq_getElem h]
  rfl
def pairs (found : List Nat) (arcs : List Int) : List (Key × V) := (found.zip arcs).map fun x => (Sum.inl (x.1 : Int), V.int x.2)
theorem pairs_snoc {found : List Nat} {arcs : List Int} {v : Nat} {e : Int} (h : arcs.length = found.length) : pairs (found ++ [v]) (arcs ++ [e]) = pairs found arcs ++ [(Sum.inl (v : Int), V.int e)] := by
  unfold pairs
  rw [List.zip_append h.symm, List.map_append]
  rfl
theorem pairs_none {v : Nat} : ∀ {found : List Nat} {arcs : List Int}, v ∉ found → valV (pairs found arcs) (Sum.inl (v : Int) : Key) = none
  | [], _, _ => rfl
  | x :: r, [], _ => rfl
  | x :: r, y :: ys, h => by
    have h1 : v ≠ x := fun z => h (by rw [z]; exact List.mem_cons.mpr (Or.inl rfl))
    have h2 : v ∉ r := fun z => h (List.mem_cons.mpr (Or.inr z))
    show valV ((Sum.inl (x : Int), V.int y) :: pairs r ys) (Sum.inl (v : Int) : Key) = none
    rw [valV_neg fun z => h1 (by have := Sum.inl.inj z; omega)]
    exact pairs_none h2
theorem pairs_some {v : Nat} {e : Int} : ∀ {found : List Nat} {arcs : List Int} {j : Nat}, found.Nodup → found[j]? = some v → arcs[j]? = some e → valV (pairs found arcs) (Sum.inl (v : Int) : Key) = some (.int e)
  | [], _, _, _, h, _ => by simp at h
  | x :: r, [], _, _, _, h => by simp at h
  | x :: r, y :: ys, 0, nd, h1, h2 => by
    simp at h1 h2
    subst h1 h2
    exact valV_pos rfl
  | x :: r, y :: ys, j + 1, nd, h1, h2 => by
    obtain ⟨n1, n2⟩ := List.nodup_cons.mp nd
    have h1 : r[j]? = some v := h1
    have h2 : ys[j]? = some e := h2
    show valV ((Sum.inl (x : Int), V.int y) :: pairs r ys) (Sum.inl (v : Int) : Key) = some (.int e)
    rw [valV_neg fun z => n1 (by have := Sum.inl.inj z; have e2 : x = v := by omega
                                 rw [e2]; exact List.mem_of_getElem? h1)]
    exact pairs_some n2 h1 h2
theorem pairs_len {found : List Nat} {arcs : List Int} (h : arcs.length = found.length) : (pairs found arcs).length = found.length := by
  unfold pairs
  rw [List.length_map, List.length_zip, h, Nat.min_self]
def spReached (C : Addr) : Sp := fun vs H Q _ => ∃ (p le lr lo : Addr) (outs : List Addr) (ends rooms : List Int) (adj : List (List Int)) (m n : Nat) (a b : Nat → Nat) (u0 : Nat), vs = [.ref p, .int u0] ∧ NetW C H p le lr lo outs ends rooms adj ∧ Gr m n a b ends adj ∧ rooms.length = 2 * m ∧ n ≤ 1000 ∧ u0 < n ∧
  ∀ H' q (found : List Nat) (arcs : List Int), Same H H' → H q = none → H' q = some (.dK (pairs found arcs)) → Fl.Reach m n a b (rmf rooms) u0 found arcs found.length → Q (.ref q) H'
section
variable {P : Program} {w : World} {K : PySem.W.Frag} {mg : Str → Option Value} {base : Heap} {C : Addr}
theorem scReached : FnScope ["self", "start", "by", "found", "at", "arc", "node"] ["self", "start"] (defScope sReached) := ⟨rfl, rfl, rfl, by decide +kernel, rfl, by decide +kernel, by decide +kernel⟩
theorem ok_reached {f fO : Addr} {fd fdO : FuncData} (F : Fun K "reached" "Network.reached" sReached f fd) (T : TxtN K mg C) (TL : TxtL K mg) (MO : MethAt K C "is_open" "Network.is_open" sOpen ["self", "arc"] fO fdO) : FnOk P w K mg base CX0 2 f fd ["self", "start"] (spReached C) := by
  have GO : FnOk P w K mg base CX0 1 fO fdO ["self", "arc"] (spOpen C) := ok_open MO.F T
  refine F.ok scReached (fun vs H Q E h => ?_) (fun cdv A outer s H vs Q E hr h => ?_)
  · obtain ⟨p, le, lr, lo, outs, ends, rooms, adj, m, n, a, b, u0, rfl, _⟩ := h
    rfl
  · obtain ⟨p, le, lr, lo, outs, ends, rooms, adj, m, n, a, b, u0, rfl, N, G, hrl, hn, hu0, k⟩ := h
    have hu := hu_of hr
    refine ⟨_, (pss_cons (ps_set (i := 2) scReached.nd rfl (Or.inl rfl) (pe_disp (pps_cons (pv 1) (pe_un un_neg pe_int) pps_nil) (by rfl) (by rfl) (fun z => by cases z) (by decide)))
    (pss_cons (ps_set (i := 3) scReached.nd rfl (Or.inl rfl) (pe_lst (pa_cons (pv 1) pa_nil)))
    (pss_cons (ps_set (i := 4) scReached.nd rfl (Or.inl rfl) pe_int)
    (pss_cons (ps_while PassesOwn.never (pt_cmpR op_lt (pv 4) (pe_callB call_len_seq (by rfl) TL.b_len (by decide +kernel) (pa_cons (pv 3) pa_nil)) (nomark _))
      (pss_cons (ps_for PassesOwn.never rfl (pi_list (pe_ix ix_list (pe_fld (pv 0) rfl) (pe_ix ix_list (pv 3) (pv 4) (fun _ _ => rfl)) (fun _ _ => rfl))) (pg_name (i := 5) scReached.nd rfl (Or.inl rfl))
        (pss_cons (ps_set (i := 6) scReached.nd rfl (Or.inl rfl) (pe_ix ix_list (pe_fld (pv 0) rfl) (pv 5) (fun _ _ => rfl)))
        (pss_one (ps_if (PW.pt (pw_and (pt_cmp (pc_dnotin hu (pv 6) (pv 2))) (pw_and1 (pt_val (pe_meth (pv 0) T.cl MO.m GO (hr.mono (by decide)) MO.b .nil pass0 (pa_cons (pv 5) pa_nil)))))) (pss_cons (ps_dput hu (pv 2) (pv 6) (pv 5) rfl)
          (pss_one (ps_expr (pe_bm PySem.F.plainAttrs_list PySem.F.slot_list_append PySem.F.type_list_append mt_append (pv 3) (pa_cons (pv 6) pa_nil))))) pss_nil))))
      (pss_one (ps_aug (i := 4) scReached.nd rfl (Or.inl rfl) pe_int ip_add))))
    (pss_one (ps_ret (pv 2))))))), ?_⟩
    refine fun q hq => ⟨_, rfl, _, rfl, upd_same, [(Sum.inl (u0 : Int), V.int (-1))], rfl, Nat.le_of_ble_eq_true rfl, ?_⟩
    have hq1 : upd (upd H q (.dK [])) q (.dK (mergeK [] [((Sum.inl (u0 : Int) : Key), V.int (-1))])) = upd H q (.dK (pairs [u0] [-1])) := upd_upd
    rw [hq1]
    refine ⟨_, rfl, sz (Nat.le_of_ble_eq_true rfl), fun fl hfl => ?_⟩
    have qf : q ≠ fl := fun z => by rw [← z, upd_same] at hfl; cases hfl
    have hfl0 : H fl = none := by rw [upd_ne qf.symm] at hfl; exact hfl
    -- the loop
    refine ⟨fun mm σ H' => ∃ (found : List Nat) (arcs : List Int) (k : Nat) (va vn : Option V), σ = [some (.ref p), some (.int u0), some (.ref q), some (.ref fl), some (.int k), va, vn] ∧ Same H H' ∧ H' q = some (.dK (pairs found arcs)) ∧ H' fl = some (.lst (found.map fun v => V.int (v : Nat))) ∧ Fl.Reach m n a b (rmf rooms) u0 found arcs k ∧ mm = n - k,
      ⟨n, [u0], [-1], 0, none, none, rfl, same_put (same_new hq) hfl0, by rw [upd_ne qf, upd_same], upd_same, Fl.Reach.zero hu0, rfl⟩, ?_⟩
    rintro mm σ H' ⟨found, arcs, k0, va, vn, rfl, sm, hQ, hF, R, rfl⟩
    have N' := N.same sm
    obtain ⟨dx, ho⟩ := N'.ob
    refine ⟨_, rfl, _, rfl, _, _, rfl, .inl (SqL.of hF), _, _, rfl, rfl, _, rfl, if_d (fun c => ?_) (fun c => ?_)⟩
    · rw [List.length_map] at c
      have hk : k0 < found.length := by omega
      have hfn := R.le
      have hv : found[k0]? = some found[k0] := List.getElem?_eq_getElem hk
      generalize found[k0] = v at hv
      have hvn : v < n := R.lt v (List.mem_of_getElem? hv)
      obtain ⟨ov, hov⟩ : ∃ o, outs[v]? = some o := ⟨_, List.getElem?_eq_getElem (by rw [N.len, G.alen]; exact hvn)⟩
      obtain ⟨l, hl⟩ : ∃ l, adj[v]? = some l := ⟨_, List.getElem?_eq_getElem (by rw [G.alen]; exact hvn)⟩
      have hat1 : atI (found.map fun v => V.int (v : Nat)) (k0 : Int) = some (.int v) := atI_nat (by rw [List.getElem?_map, hv]; rfl)
      have hat2 : atI (outs.map V.ref) (v : Int) = some (.ref ov) := atI_nat (by rw [List.getElem?_map, hov]; rfl)
      refine ⟨fun σ' H2 => ∃ mm', mm' < n - k0 ∧ ∃ (found : List Nat) (arcs : List Int) (k : Nat) (va vn : Option V), σ' = [some (.ref p), some (.int u0), some (.ref q), some (.ref fl), some (.int k), va, vn] ∧ Same H H2 ∧ H2 q = some (.dK (pairs found arcs)) ∧ H2 fl = some (.lst (found.map fun v => V.int (v : Nat))) ∧ Fl.Reach m n a b (rmf rooms) u0 found arcs k ∧ mm' = n - k, fun σ' H2 z => z, ?_⟩
      refine ⟨_, rfl, p, C, dx, _, _, rfl, ho, T.cl, T.nO, nf_outs _ _ _, _, rfl, _, rfl, _, _, _, _, rfl, rfl, SqL.of hF, hat1, _, _, _, _, rfl, rfl, SqL.of N'.ho, hat2, ov, rfl, ⟨_, SqL.of (N'.adj v ov l hov hl)⟩, ?_⟩
      refine for_list (K := K) (a := ov) (xs := l.map V.int) (fun i σ' H2 => ∃ (found : List Nat) (arcs : List Int) (va vn : Option V), σ' = [some (.ref p), some (.int u0), some (.ref q), some (.ref fl), some (.int k0), va, vn] ∧ Same H H2 ∧ H2 q = some (.dK (pairs found arcs)) ∧ H2 fl = some (.lst (found.map fun v => V.int (v : Nat))) ∧ Fl.Reach m n a b (rmf rooms) u0 found arcs k0 ∧ found[k0]? = some v ∧ ∀ (j e : Nat), j < i → l[j]? = some (e : Int) → 0 < rmf rooms e → Fl.hd a b e ∈ found)
        ⟨found, arcs, va, vn, rfl, sm, hQ, hF, R, hv, fun j e hj => by omega⟩ (fun i σ' H2 _ ⟨_, _, _, _, _, s2, _⟩ => SqL.of (s2 _ _ (N.adj v ov l hov hl))) ?_ ?_
      · rintro i y σ' H2 hy ⟨found, arcs, va, vn, rfl, sm, hQ, hF, R, hv, hdone⟩
        obtain ⟨z, hz, rfl⟩ : ∃ z, l[i]? = some z ∧ y = V.int z := by
          rw [List.getElem?_map] at hy
          cases q : l[i]? with
          | none => rw [q] at hy; cases hy
          | some z => rw [q] at hy; exact ⟨z, rfl, (Option.some.inj hy).symm⟩
        obtain ⟨e, rfl, he, ht⟩ := G.mem v l hl z (List.mem_of_getElem? hz)
        have N2 := N.same sm
        obtain ⟨dx2, ho2⟩ := N2.ob
        have hae : atI (ends.map V.int) (e : Int) = some (.int (Fl.hd a b e : Nat)) := atI_nat (by rw [List.getElem?_map, G.eat e he]; rfl)
        refine ⟨_, rfl, p, C, dx2, _, _, rfl, ho2, T.cl, T.nE, nf_ends _ _ _, _, rfl, _, _, _, _, rfl, rfl, SqL.of N2.he, hae, ?_⟩
        refine ⟨_, rfl, _, rfl, q, _, rfl, DGet.k (k := Sum.inl ((Fl.hd a b e : Nat) : Int)) hQ, _, rfl, ?_⟩
        have next : ∀ (found' : List Nat) (arcs' : List Int) (va vn : Option V) (H3 : Hp), Same H H3 → H3 q = some (.dK (pairs found' arcs')) → H3 fl = some (.lst (found'.map fun v => V.int (v : Nat))) → Fl.Reach m n a b (rmf rooms) u0 found' arcs' k0 → found'[k0]? = some v → (∀ x ∈ found, x ∈ found') → (0 < rmf rooms e → Fl.hd a b e ∈ found') →
            ∃ (found : List Nat) (arcs : List Int) (va' vn' : Option V), [some (V.ref p), some (.int u0), some (.ref q), some (.ref fl), some (.int k0), va, vn] = [some (.ref p), some (.int u0), some (.ref q), some (.ref fl), some (.int k0), va', vn'] ∧ Same H H3 ∧ H3 q = some (.dK (pairs found arcs)) ∧ H3 fl = some (.lst (found.map fun v => V.int (v : Nat))) ∧ Fl.Reach m n a b (rmf rooms) u0 found arcs k0 ∧ found[k0]? = some v ∧ ∀ (j e : Nat), j < i + 1 → l[j]? = some (e : Int) → 0 < rmf rooms e → Fl.hd a b e ∈ found := by
          intro found' arcs' va vn H3 s3 q3 f3 R3 v3 sub new
          refine ⟨found', arcs', va, vn, rfl, s3, q3, f3, R3, v3, fun j e' hj hje hpos => ?_⟩
          by_cases cj : j = i
          · subst cj
            rw [hz] at hje
            have : e = e' := by have := Option.some.inj hje; omega
            subst this
            exact new hpos
          · exact sub _ (hdone j e' (by omega) hje hpos)
        by_cases hin : Fl.hd a b e ∈ found
        · obtain ⟨j, hj⟩ := List.mem_iff_getElem?.mp hin
          obtain ⟨ej, hja⟩ : ∃ x, arcs[j]? = some x := ⟨_, List.getElem?_eq_getElem (by rw [R.len]; exact (List.getElem?_eq_some_iff.mp hj).1)⟩
          rw [pairs_some R.nd hj hja]
          exact next found arcs _ _ H2 sm hQ hF R hv (fun x h => h) fun _ => hin
        · rw [pairs_none hin]
          refine ⟨_, rfl, p, dx2, _, rfl, ho2, nf_no _ _ _ (by decide +kernel) (by decide +kernel) (by decide +kernel), _, rfl, p, le, lr, lo, outs, ends, rooms, adj, e, rmf rooms e, rfl, N2, rmf_at (by rw [hrl]; exact he), _, rfl, if_d (fun co => ?_) (fun co => ?_)⟩
          · have hlen := R.len
            have R2 := R.add he co (by rw [ht]; exact List.mem_of_getElem? hv) hin (G.hdn e he)
            refine ⟨_, rfl, _, rfl, _, rfl, q, _, rfl, DPut.k (k := Sum.inl ((Fl.hd a b e : Nat) : Int)) hQ (szl (by rw [pairs_len hlen]; have := R.le; omega)), ?_⟩
            rw [putK_new _ (pairs_none hin), ← pairs_snoc hlen]
            refine ⟨_, rfl, .inl ⟨rfl, _, SqL.of (by rw [upd_ne qf.symm]; exact hF)⟩, _, rfl, fl, _, _, rfl, rfl, (by rw [upd_ne qf.symm]; exact hF), szl (by rw [List.length_map]; have := R.le; omega), ?_⟩
            refine next (found ++ [Fl.hd a b e]) (arcs ++ [(e : Int)]) _ _ _ ?_ ?_ ?_ R2 ?_ (fun x h => List.mem_append_left _ h) fun _ => by simp
            · exact same_put (same_put sm hq) hfl0
            · rw [upd_ne qf, upd_same]
            · rw [upd_same, List.map_append]; rfl
            · rw [List.getElem?_append_left (List.getElem?_eq_some_iff.mp hv).1]; exact hv
          · exact next found arcs _ _ H2 sm hQ hF R hv (fun x h => h) fun z => absurd z co
      · rintro σ' H2 ⟨found, arcs, va, vn, rfl, sm, hQ, hF, R, hv, hdone⟩
        have R2 := R.next hv fun e he ht ho => by
          have hm := G.all e he l (by rw [ht]; exact hl)
          obtain ⟨j, hj⟩ := List.mem_iff_getElem?.mp hm
          refine hdone j e ?_ hj ho
          rw [List.length_map]
          exact (List.getElem?_eq_some_iff.mp hj).1
        have := R2.kle
        have := R2.le
        refine ⟨_, rfl, _, _, rfl, rfl, n - (k0 + 1), by omega, found, arcs, k0 + 1, va, vn, rfl, sm, hQ, hF, R2, rfl⟩
    · rw [List.length_map] at c
      have e : k0 = found.length := by have := R.kle; omega
      subst e
      exact ⟨_, rfl, k H' q found arcs sm hq hQ R⟩
end
end Kx
namespace Fl
theorem ups_snoc {d : Int} {e : Nat} : ∀ {es : List Nat} {rm : Nat → Int}, ups d (es ++ [e]) rm = up1 (ups d es rm) e d
  | [], _ => rfl
  | x :: es, rm => ups_snoc (es := es) (rm := up1 rm x d)
end Fl
namespace Kx
open PySem PySem.Spec PyProof.Rows L2
theorem ixN_of {n e : Nat} (h : e < n) : ixN n (e : Int) = some e := by
  unfold ixN
  rw [if_pos (by omega), if_pos (by omega)]
  rfl
theorem rmf_set {rooms : List Int} {e : Nat} {v : Int} (h : e < rooms.length) (x : Nat) : rmf (rooms.set e v) x = if x = e then v else rmf rooms x := by
  unfold rmf
  rw [List.getD_eq_getElem?_getD, List.getD_eq_getElem?_getD, List.getElem?_set]
  by_cases c : x = e
  · subst c
    simp [h]
  · rw [if_neg (Ne.symm c), if_neg c]
theorem take_snoc {α : Type} {l : List α} {i : Nat} {x : α} (h : l[i]? = some x) : l.take (i + 1) = l.take i ++ [x] := by
  rw [List.take_succ, h]; rfl
def spPush (C : Addr) : Sp := fun vs H Q _ => ∃ (p le lr lo : Addr) (outs : List Addr) (ends rooms : List Int) (adj : List (List Int)) (m n : Nat) (a b : Nat → Nat) (r : Nat → Int), vs = [.ref p, .int 0, .int 1] ∧ NetW C H p le lr lo outs ends rooms adj ∧ Gr m n a b ends adj ∧ rooms.length = 2 * m ∧ m ≤ 1000 ∧ n ≤ 1000 ∧ 2 ≤ n ∧
  Fl.Caps m r (rmf rooms) ∧ Fl.Keeps m n a b (rmf rooms) ∧
  (∀ H' found, Same H H' → Fl.Full m n a b r (rmf rooms) found → Q (.bl false) H') ∧
  ∀ H' rooms', Keep lr H H' → H' lr = some (.lst (rooms'.map V.int)) → rooms'.length = 2 * m → Fl.Caps m r (rmf rooms') → Fl.Keeps m n a b (rmf rooms') → Fl.net m a b (rmf rooms) 0 < Fl.net m a b (rmf rooms') 0 → Q (.bl true) H'
structure TxtP (K : PySem.W.Frag) (mg : Str → Option Value) : Prop where
  b_min : mg "min" = none
section
variable {P : Program} {w : World} {K : PySem.W.Frag} {mg : Str → Option Value} {base : Heap} {C : Addr}
theorem scPush : FnScope ["self", "start", "end", "by", "arcs", "node", "amount", "arc"] ["self", "start", "end"] (defScope sPush) := ⟨rfl, rfl, rfl, by decide +kernel, rfl, by decide +kernel, by decide +kernel⟩
theorem ok_push {f fR fO fT : Addr} {fd fdR fdO fdT : FuncData} (F : Fun K "push" "Network.push" sPush f fd) (T : TxtN K mg C) (TL : TxtL K mg) (TP : TxtP K mg) (MO : MethAt K C "is_open" "Network.is_open" sOpen ["self", "arc"] fO fdO)
    (MR : MethAt K C "reached" "Network.reached" sReached ["self", "start"] fR fdR) (DT : DefAt K mg "twin" sTwin ["arc"] fT fdT) : FnOk P w K mg base CX0 3 f fd ["self", "start", "end"] (spPush C) := by
  have GR : FnOk P w K mg base CX0 2 fR fdR ["self", "start"] (spReached C) := ok_reached MR.F T TL MO
  have GT : FnOk P w K mg base CX0 1 fT fdT ["arc"] spTwin := ok_twin DT.F
  refine F.ok scPush (fun vs H Q E h => ?_) (fun cdv A outer s H vs Q E hr h => ?_)
  · obtain ⟨p, le, lr, lo, outs, ends, rooms, adj, m, n, a, b, r, rfl, _⟩ := h
    rfl
  · obtain ⟨p, le, lr, lo, outs, ends, rooms, adj, m, n, a, b, r, rfl, N, G, hrl, hm, hn, hn2, hcap, hkp, kF, kT⟩ := h
    have hu := hu_of hr
    refine ⟨_, (pss_cons (ps_set (i := 3) scPush.nd rfl (Or.inl rfl) (pe_meth (pv 0) T.cl MR.m GR (hr.mono (by decide)) MR.b .nil pass0 (pa_cons (pv 1) pa_nil)))
    (pss_cons (ps_if (pt_cmp (pc_dnotin hu (pv 2) (pv 3))) (pss_one (ps_ret pe_bl)) pss_nil)
    (pss_cons (ps_set (i := 4) scPush.nd rfl (Or.inl rfl) (pe_lst pa_nil))
    (pss_cons (ps_set (i := 5) scPush.nd rfl (Or.inl rfl) (pv 2))
    (pss_cons (ps_while PassesOwn.never (pt_cmpR op_ne (pv 5) (pv 1) (nomark _))
      (pss_cons (ps_expr (pe_bm PySem.F.plainAttrs_list PySem.F.slot_list_append PySem.F.type_list_append mt_append (pv 4) (pa_cons (pe_dget hu (pv 3) (pv 5) (fun _ _ => rfl)) pa_nil)))
      (pss_one (ps_set (i := 5) scPush.nd rfl (Or.inl rfl) (pe_ix ix_list (pe_fld (pv 0) rfl) (pe_call GT (hr.mono (by decide)) rfl DT.m DT.F.kp DT.b .nil pass0 (pa_cons (pe_dget hu (pv 3) (pv 5) (fun _ _ => rfl)) pa_nil)) (fun _ _ => rfl))))))
    (pss_cons (ps_set (i := 6) scPush.nd rfl (Or.inl rfl) (pe_callB (cr_min rfl) (by rfl) TP.b_min (by decide +kernel) (pa_cons (pe_lc (g := gName 7) (tt := (tTest (tOp rNotN1 (tOp (rIxL K) (tFld K (tVar 0) "room") (tVar 7)) (tC .non)))) (te := (tCB rInt1 (tCons (tOp (rIxL K) (tFld K (tVar 0) "room") (tVar 7)) tNil))) (own := [("arc", 7)]) rfl scPush.nd (pi_list (pv 4)) (blkOk_by (N := ["self", "start", "end", "by", "arcs", "node", "amount", "arc"]) (sc := defScope sPush) (own := [("arc", 7)]) (by decide +kernel)) (fun _ _ _ _ _ => (pg_name (i := 7) scPush.nd rfl (by first | exact Or.inl rfl | exact Or.inr rfl))) (fun _ _ _ _ _ => (pts_one (pt_cmpR o_notN (pe_ix ix_list (pe_fld (pv 0) rfl) (pv 7) (fun _ _ => rfl)) pe_non (nomark _)))) (fun _ _ _ _ _ => (pe_callTy c_int (by rfl) TL.b_int (by decide +kernel) (pa_cons (pe_ix ix_list (pe_fld (pv 0) rfl) (pv 7) (fun _ _ => rfl)) pa_nil)))) pa_nil)))
    (pss_cons (ps_for PassesOwn.never rfl (pi_list (pv 4)) (pg_name (i := 7) scPush.nd rfl (Or.inl rfl))
      (pss_cons (ps_if (pt_cmpR op_notN (pe_ix ix_list (pe_fld (pv 0) rfl) (pv 7) (fun _ _ => rfl)) pe_non (nomark _)) (pss_one (ps_asg (pe_op op_sub (pe_ix ix_list (pe_fld (pv 0) rfl) (pv 7) (fun _ _ => rfl)) (pv 6)) (pg_sub (pe_fld (pv 0) rfl) (pv 7) set_list))) pss_nil)
      (pss_one (ps_if (pt_cmpR op_notN (pe_ix ix_list (pe_fld (pv 0) rfl) (pe_call GT (hr.mono (by decide)) rfl DT.m DT.F.kp DT.b .nil pass0 (pa_cons (pv 7) pa_nil)) (fun _ _ => rfl)) pe_non (nomark _)) (pss_one (ps_asg (pe_op op_add (pe_ix ix_list (pe_fld (pv 0) rfl) (pe_call GT (hr.mono (by decide)) rfl DT.m DT.F.kp DT.b .nil pass0 (pa_cons (pv 7) pa_nil)) (fun _ _ => rfl)) (pv 6)) (pg_sub (pe_fld (pv 0) rfl) (pe_call GT (hr.mono (by decide)) rfl DT.m DT.F.kp DT.b .nil pass0 (pa_cons (pv 7) pa_nil)) set_list))) pss_nil))))
    (pss_one (ps_ret pe_bl))))))))), ?_⟩
    obtain ⟨dx, ho⟩ := N.ob
    refine ⟨_, rfl, p, dx, _, rfl, ho, nf_no _ _ _ (by decide +kernel) (by decide +kernel) (by decide +kernel), _, rfl, p, le, lr, lo, outs, ends, rooms, adj, m, n, a, b, 0, rfl, N, G, hrl, hn, by omega, fun H1 q found arcs sm hq0 hQ R => ?_⟩
    refine ⟨_, rfl, _, rfl, q, _, rfl, DGet.k (k := Sum.inl ((1 : Nat) : Int)) hQ, _, rfl, ?_⟩
    by_cases h1 : 1 ∈ found
    · obtain ⟨j1, hj1⟩ := List.mem_iff_getElem?.mp h1
      obtain ⟨e1, he1⟩ : ∃ x, arcs[j1]? = some x := ⟨_, List.getElem?_eq_getElem (by rw [R.len]; exact (List.getElem?_eq_some_iff.mp hj1).1)⟩
      rw [pairs_some R.nd hj1 he1]
      refine ⟨Nat.zero_le _, fun la hla => ⟨_, rfl, ?_⟩⟩
      have hla0 : H la = none := sm.free hla
      have N1 := (N.same sm).same (same_new (o := .lst []) hla)
      have hQ1 : upd H1 la (.lst []) q = some (.dK (pairs found arcs)) := by rw [upd_ne (ne_of_none hQ hla)]; exact hQ
      have sm1 : Same H (upd H1 la (.lst [])) := same_put sm hla0
      generalize hH2 : upd H1 la (.lst []) = H2 at N1 hQ1 sm1 ⊢
      have hL2 : H2 la = some (.lst []) := by rw [← hH2, upd_same]
      -- back along the arcs
      refine ⟨fun mm σ H' => ∃ (es : List Nat) (v : Nat), σ = [some (.ref p), some (.int 0), some (.int 1), some (.ref q), some (.ref la), some (.int v), none, none] ∧ found[mm]? = some v ∧ Fl.Back m a b (rmf rooms) found 1 es mm ∧ Keep la H2 H' ∧ H' la = some (.lst (es.map fun e => V.int (e : Nat))),
        ⟨j1, [], 1, rfl, hj1, Fl.Back.zero hj1, Keep.refl, hL2⟩, ?_⟩
      rintro mm σ H' ⟨es, v, rfl, hv, B, kp, hL⟩
      have N' : NetW C H' p le lr lo outs ends rooms adj := N.same fun x o hx => kp x o (ne_of_none hx hla0) (sm1 x o hx)
      obtain ⟨dx', ho'⟩ := N'.ob
      have hQ' : H' q = some (.dK (pairs found arcs)) := kp _ _ (ne_of hQ1 hL2 (by intro z; cases z)) hQ1
      refine ⟨_, rfl, _, rfl, rfl, _, rfl, if_nd (fun c => ?_) (fun c => ?_)⟩
      · have hne : v ≠ 0 := fun z => c (by rw [z]; rfl)
        obtain ⟨e, hae, he, ho1, i, hi, hti, B'⟩ := B.more R hv hne
        have hd1 : DGet H' q (.int v) (some (.int e)) := by
          have z := DGet.k (k := Sum.inl ((v : Nat) : Int)) hQ'
          rw [pairs_some R.nd hv hae] at z
          exact z
        have hzl : (es.map fun e => V.int (e : Nat)).length < sizeLine := by
          refine szl ?_
          rw [List.length_map]
          have hb : es.length ≤ 2 * m := Fl.nodup_len _ _ B.nd fun e he => (B.all e he).1
          omega
        refine ⟨fun σ' H2' => ∃ mm', mm' < mm ∧ ∃ (es : List Nat) (v : Nat), σ' = [some (.ref p), some (.int 0), some (.int 1), some (.ref q), some (.ref la), some (.int v), none, none] ∧ found[mm']? = some v ∧ Fl.Back m a b (rmf rooms) found 1 es mm' ∧ Keep la H2 H2' ∧ H2' la = some (.lst (es.map fun e => V.int (e : Nat))), fun σ' H2' z => z, ?_⟩
        have lq : q ≠ la := ne_of hQ1 hL2 (by intro z; cases z)
        have hd2 : DGet (upd H' la (.lst ((es.map fun e => V.int (e : Nat)) ++ [V.int e]))) q (.int v) (some (.int e)) := by
          have z := DGet.k (H := upd H' la (.lst ((es.map fun e => V.int (e : Nat)) ++ [V.int e]))) (k := Sum.inl ((v : Nat) : Int)) (by rw [upd_ne lq]; exact hQ')
          rw [pairs_some R.nd hv hae] at z
          exact z
        have hat : atI (ends.map V.int) ((Fl.tw e : Nat) : Int) = some (.int (Fl.tl a b e : Nat)) := atI_nat (by rw [List.getElem?_map, G.eat _ (Fl.tw_lt he), Fl.hd_tw]; rfl)
        have N3 : NetW C (upd H' la (.lst ((es.map fun e => V.int (e : Nat)) ++ [V.int e]))) p le lr lo outs ends rooms adj := N.same fun x o hx => by rw [upd_ne (ne_of_none hx hla0)]; exact kp x o (ne_of_none hx hla0) (sm1 x o hx)
        obtain ⟨dx3, ho3⟩ := N3.ob
        refine ⟨_, rfl, .inl ⟨rfl, _, SqL.of hL⟩, _, rfl, _, rfl, q, _, rfl, hd1, la, _, _, rfl, rfl, hL, hzl, ?_⟩
        refine ⟨_, rfl, p, C, dx3, _, _, rfl, ho3, T.cl, T.nE, nf_ends _ _ _, _, rfl, _, rfl, q, _, rfl, hd2, e, rfl, _, _, _, _, rfl, rfl, SqL.of N3.he, hat, ?_⟩
        exact ⟨i, hi, es ++ [e], Fl.tl a b e, rfl, hti, B', kp.upd, by rw [upd_same, List.map_append]; rfl⟩
      · have hz : v = 0 := by have := V.int.inj c; omega
        subst hz
        have hmm : mm = 0 := Fl.nd_at R.nd hv R.hd0
        subst hmm
        have hes : es ≠ [] := fun z => by
          obtain ⟨w', hw', pth⟩ := B.path
          rw [R.hd0] at hw'
          cases hw'
          rw [z] at pth
          have : (1 : Nat) = 0 := pth
          omega
        have hzl : es.length ≤ 2 * m := Fl.nodup_len _ _ B.nd fun e he => (B.all e he).1
        have hrm : ∀ e, e ∈ es → rooms[e]? = some (rmf rooms e) := fun e he => rmf_at (by rw [hrl]; exact (B.all e he).1)
        -- amount
        refine ⟨_, rfl, la, rfl, ⟨_, SqL.of hL⟩, fun D hD => lc_list (K := K) (a := la) (xs := es.map fun e => V.int (e : Nat)) (fun i H3 => Same H' H3 ∧ H3 D = some (.lst ((es.take i).map fun e => V.int (rmf rooms e)))) ⟨same_new hD, by rw [upd_same]; rfl⟩ (fun i H3 _ ⟨s3, _⟩ => SqL.of (s3 _ _ hL)) ?_ ?_⟩
        · rintro i y H3 hy ⟨s3, hD3⟩
          obtain ⟨e, hze, rfl⟩ : ∃ e, es[i]? = some e ∧ y = V.int (e : Nat) := by
            rw [List.getElem?_map] at hy
            cases q : es[i]? with
            | none => rw [q] at hy; cases hy
            | some z => rw [q] at hy; exact ⟨z, rfl, (Option.some.inj hy).symm⟩
          have N3 := N'.same s3
          obtain ⟨dx3, ho3⟩ := N3.ob
          have hat : atI (rooms.map V.int) (e : Int) = some (.int (rmf rooms e)) := atI_nat (by rw [List.getElem?_map, hrm e (List.mem_of_getElem? hze)]; rfl)
          refine ⟨rfl, _, rfl, p, C, dx3, _, _, rfl, ho3, T.cl, T.nR, nf_room _ _ _, _, rfl, _, _, _, _, rfl, rfl, SqL.of N3.hr, hat, rfl, _, rfl, ?_⟩
          refine ⟨_, rfl, p, C, dx3, _, _, rfl, ho3, T.cl, T.nR, nf_room _ _ _, _, rfl, _, _, _, _, rfl, rfl, SqL.of N3.hr, hat, .inl ⟨_, rfl, _, hD3, szl (by rw [List.length_map, List.length_take]; omega), same_put s3 hD, ?_⟩⟩
          rw [upd_same, take_snoc hze, List.map_append]
          rfl
        · rintro H3 ⟨s3, hD3⟩
          rw [List.length_map, List.take_length] at hD3
          refine ⟨D, es.map (rmf rooms), rfl, SqL.of (by rw [hD3, List.map_map]; rfl), by rw [List.length_map]; exact List.length_pos_iff.mpr hes, fun d hdm hdl => ?_⟩
          have dpos : 0 < d := by
            obtain ⟨e, he, rfl⟩ := List.mem_map.mp hdm
            exact (B.all e he).2.1
          have dle : ∀ e ∈ es, d ≤ rmf rooms e := fun e he => hdl _ (List.mem_map.mpr ⟨e, he, rfl⟩)
          have N3 := N'.same s3
          have kl3 : Keep lr H H3 := fun x o hx q => s3 x o (kp x o (ne_of_none q hla0) (sm1 x o q))
          have hL3 := s3 _ _ hL
          have ll : la ≠ lr := fun z => by
            have := N.hr
            rw [← z, hla0] at this
            cases this
          -- the rooms turn
          refine ⟨_, rfl, la, rfl, ⟨_, SqL.of hL3⟩, for_list (K := K) (a := la) (xs := es.map fun e => V.int (e : Nat)) (fun i σ' H4 => ∃ (rooms' : List Int) (va : Option V), σ' = [some (.ref p), some (.int 0), some (.int 1), some (.ref q), some (.ref la), some (.int 0), some (.int d), va] ∧ Keep lr H3 H4 ∧ H4 lr = some (.lst (rooms'.map V.int)) ∧ rooms'.length = 2 * m ∧ rmf rooms' = Fl.ups d (es.take i) (rmf rooms))
            ⟨rooms, none, rfl, Keep.refl, N3.hr, hrl, rfl⟩ (fun i σ' H4 _ ⟨_, _, _, k4, _⟩ => SqL.of (k4 _ _ ll hL3)) ?_ ?_⟩
          · rintro i y σ' H4 hy ⟨rooms', va, rfl, k4, hr4, hl4, hf4⟩
            obtain ⟨e, hze, rfl⟩ : ∃ e, es[i]? = some e ∧ y = V.int (e : Nat) := by
              rw [List.getElem?_map] at hy
              cases q : es[i]? with
              | none => rw [q] at hy; cases hy
              | some z => rw [q] at hy; exact ⟨z, rfl, (Option.some.inj hy).symm⟩
            have he := (B.all e (List.mem_of_getElem? hze)).1
            have htw := Fl.tw_lt he
            have N4 : NetW C H4 p le lr lo outs ends rooms' adj := N3.rooms k4 hr4
            obtain ⟨dx4, ho4⟩ := N4.ob
            have hat4 : atI (rooms'.map V.int) (e : Int) = some (.int (rmf rooms' e)) := atI_nat (by rw [List.getElem?_map, rmf_at (by rw [hl4]; exact he)]; rfl)
            refine ⟨_, rfl, p, C, dx4, _, _, rfl, ho4, T.cl, T.nR, nf_room _ _ _, _, rfl, _, _, _, _, rfl, rfl, SqL.of N4.hr, hat4, rfl, _, rfl, ?_⟩
            refine ⟨_, rfl, p, C, dx4, _, _, rfl, ho4, T.cl, T.nR, nf_room _ _ _, _, rfl, _, _, _, _, rfl, rfl, SqL.of N4.hr, hat4, _, rfl, _, _, rfl, rfl, _, rfl, p, C, dx4, _, _, rfl, ho4, T.cl, T.nR, nf_room _ _ _, _, rfl, _, _, _, _, rfl, rfl, N4.hr, ixN_of (by rw [List.length_map, hl4]; exact he), ?_⟩
            have N5 : NetW C (upd H4 lr (.lst ((rooms'.map V.int).set e (.int (rmf rooms' e - d))))) p le lr lo outs ends (rooms'.set e (rmf rooms' e - d)) adj := N4.rooms Keep.refl.upd (by rw [upd_same, List.map_set])
            have k5 : Keep lr H3 (upd H4 lr (.lst ((rooms'.map V.int).set e (.int (rmf rooms' e - d))))) := k4.upd
            generalize upd H4 lr (.lst ((rooms'.map V.int).set e (.int (rmf rooms' e - d)))) = H5 at N5 k5 ⊢
            have hl5 : (rooms'.set e (rmf rooms' e - d)).length = 2 * m := by rw [List.length_set]; exact hl4
            generalize hr5 : rooms'.set e (rmf rooms' e - d) = rooms5 at N5 hl5 ⊢
            obtain ⟨dx5, ho5⟩ := N5.ob
            have hat5 : atI (rooms5.map V.int) ((Fl.tw e : Nat) : Int) = some (.int (rmf rooms5 (Fl.tw e))) := atI_nat (by rw [List.getElem?_map, rmf_at (by rw [hl5]; exact htw)]; rfl)
            refine ⟨_, rfl, p, C, dx5, _, _, rfl, ho5, T.cl, T.nR, nf_room _ _ _, _, rfl, e, rfl, _, _, _, _, rfl, rfl, SqL.of N5.hr, hat5, rfl, _, rfl, ?_⟩
            refine ⟨_, rfl, p, C, dx5, _, _, rfl, ho5, T.cl, T.nR, nf_room _ _ _, _, rfl, e, rfl, _, _, _, _, rfl, rfl, SqL.of N5.hr, hat5, _, rfl, _, _, rfl, rfl, _, rfl, p, C, dx5, _, _, rfl, ho5, T.cl, T.nR, nf_room _ _ _, _, rfl, e, rfl, _, _, _, _, rfl, rfl, N5.hr, ixN_of (by rw [List.length_map, hl5]; exact htw), ?_⟩
            refine ⟨rooms5.set (Fl.tw e) (rmf rooms5 (Fl.tw e) + d), _, rfl, k5.upd, by rw [upd_same, List.map_set], by rw [List.length_set]; exact hl5, ?_⟩
            rw [take_snoc hze, Fl.ups_snoc, ← hf4]
            funext x
            rw [rmf_set (by rw [hl5]; exact htw)]
            unfold Fl.up1
            by_cases c1 : x = Fl.tw e
            · rw [if_pos c1, if_pos c1, ← hr5, rmf_set (by rw [hl4]; exact he), if_neg (Fl.tw_ne e)]
            · rw [if_neg c1, if_neg c1, ← hr5, rmf_set (by rw [hl4]; exact he)]
          · rintro σ' H4 ⟨rooms', va, rfl, k4, hr4, hl4, hf4⟩
            rw [List.length_map, List.take_length] at hf4
            obtain ⟨z1, z2, z3⟩ := Fl.push_ok (by omega) hcap hkp R B dpos dle
            rw [← hf4] at z1 z2 z3
            exact kT H4 rooms' (kl3.trans k4) hr4 hl4 z1 z2 (by omega)
    · rw [pairs_none h1]
      exact kF H1 found sm (Fl.full_of hcap hkp R h1)
end
end Kx
namespace Kx
open PySem PySem.Spec PyProof.Rows L2
def spFill (C : Addr) : Sp := fun vs H Q _ => ∃ (p le lr lo : Addr) (outs : List Addr) (ends rooms : List Int) (adj : List (List Int)) (m n : Nat) (a b : Nat → Nat) (r : Nat → Int), vs = [.ref p, .int 0, .int 1] ∧ NetW C H p le lr lo outs ends rooms adj ∧ Gr m n a b ends adj ∧ rooms.length = 2 * m ∧ m ≤ 1000 ∧ n ≤ 1000 ∧ 2 ≤ n ∧
  Fl.Caps m r (rmf rooms) ∧ Fl.Keeps m n a b (rmf rooms) ∧
  ∀ H' rooms' found, Keep lr H H' → H' lr = some (.lst (rooms'.map V.int)) → rooms'.length = 2 * m → Fl.Full m n a b r (rmf rooms') found → Q .non H'
section
variable {P : Program} {w : World} {K : PySem.W.Frag} {mg : Str → Option Value} {base : Heap} {C : Addr}
theorem scFill : FnScope ["self", "start", "end", "pushed"] ["self", "start", "end"] (defScope sFill) := ⟨rfl, rfl, rfl, by decide +kernel, rfl, by decide +kernel, by decide +kernel⟩
theorem ok_fill {f fP : Addr} {fd fdP : FuncData} (F : Fun K "fill" "Network.fill" sFill f fd) (T : TxtN K mg C) (MP : MethAt K C "push" "Network.push" sPush ["self", "start", "end"] fP fdP)
    (GP : FnOk P w K mg base CX0 3 fP fdP ["self", "start", "end"] (spPush C)) : FnOk P w K mg base CX0 4 f fd ["self", "start", "end"] (spFill C) := by
  refine F.ok scFill (fun vs H Q E h => ?_) (fun cdv A outer s H vs Q E hr h => ?_)
  · obtain ⟨p, le, lr, lo, outs, ends, rooms, adj, m, n, a, b, r, rfl, _⟩ := h
    rfl
  · obtain ⟨p, le, lr, lo, outs, ends, rooms, adj, m, n, a, b, r, rfl, N, G, hrl, hm, hn, hn2, hcap, hkp, k⟩ := h
    refine ⟨_, (pss_cons (ps_set (i := 3) scFill.nd rfl (Or.inl rfl) pe_bl)
    (pss_one (ps_while PassesOwn.never (pt_val (pv 3))
      (pss_one (ps_set (i := 3) scFill.nd rfl (Or.inl rfl) (pe_meth (pv 0) T.cl MP.m GP (hr.mono (by decide)) MP.b .nil pass0 (pa_cons (pv 1) (pa_cons (pv 2) pa_nil)))))))), ?_⟩
    refine ⟨fun mm σ H' => ∃ (rooms' : List Int) (bl : Bool), σ = [some (.ref p), some (.int 0), some (.int 1), some (.bl bl)] ∧ Keep lr H H' ∧ H' lr = some (.lst (rooms'.map V.int)) ∧ rooms'.length = 2 * m ∧ Fl.Caps m r (rmf rooms') ∧ Fl.Keeps m n a b (rmf rooms') ∧ (bl = false → ∃ found, Fl.Full m n a b r (rmf rooms') found) ∧ mm = if bl = true then (Fl.sm m r - Fl.net m a b (rmf rooms') 0).toNat + 1 else 0,
      ⟨_, rooms, true, rfl, Keep.refl, N.hr, hrl, hcap, hkp, fun z => Bool.noConfusion z, rfl⟩, ?_⟩
    rintro mm σ H' ⟨rooms', bl, rfl, kp, hr', hl', hc', hk', hfull, rfl⟩
    refine ⟨_, rfl, _, rfl, ?_⟩
    cases bl with
    | false =>
      obtain ⟨found, FF⟩ := hfull rfl
      exact k H' rooms' found kp hr' hl' FF
    | true =>
      refine ⟨fun σ' H2 => ∃ mm', mm' < (Fl.sm m r - Fl.net m a b (rmf rooms') 0).toNat + 1 ∧ ∃ (rooms' : List Int) (bl : Bool), σ' = [some (.ref p), some (.int 0), some (.int 1), some (.bl bl)] ∧ Keep lr H H2 ∧ H2 lr = some (.lst (rooms'.map V.int)) ∧ rooms'.length = 2 * m ∧ Fl.Caps m r (rmf rooms') ∧ Fl.Keeps m n a b (rmf rooms') ∧ (bl = false → ∃ found, Fl.Full m n a b r (rmf rooms') found) ∧ mm' = if bl = true then (Fl.sm m r - Fl.net m a b (rmf rooms') 0).toNat + 1 else 0, fun σ' H2 z => z, ?_⟩
      have N' := N.rooms kp hr'
      obtain ⟨dx, ho⟩ := N'.ob
      refine ⟨_, rfl, p, dx, _, rfl, ho, nf_no _ _ _ (by decide +kernel) (by decide +kernel) (by decide +kernel), _, rfl, _, rfl, p, le, lr, lo, outs, ends, rooms', adj, m, n, a, b, r, rfl, N', G, hl', hm, hn, hn2, hc', hk', fun H2 found sm FF => ?_, fun H2 rooms2 kp2 hr2 hl2 hc2 hk2 hlt => ?_⟩
      · exact ⟨0, Nat.succ_pos _, rooms', false, rfl, fun x o hx q => sm x o (kp x o hx q), sm _ _ hr', hl', hc', hk', fun _ => ⟨found, FF⟩, rfl⟩
      · refine ⟨(Fl.sm m r - Fl.net m a b (rmf rooms2) 0).toNat + 1, ?_, rooms2, true, rfl, kp.trans kp2, hr2, hl2, hc2, hk2, fun z => Bool.noConfusion z, rfl⟩
        have h1 := Fl.net_le (a := a) (b := b) hc2 0
        omega
end
end Kx
namespace Kx
open PySem PySem.Spec PyProof.Rows L2
/-! ### links: (from, to, room) -/
abbrev Lk := Str × Str × Int
def LksAt (K : PySem.W.Frag) (H : Hp) (xs : List V) (ls : List Lk) : Prop := xs.length = ls.length ∧ ∀ (i : Nat) (l : Lk), ls[i]? = some l → ∃ t, xs[i]? = some (.ref t) ∧ SqT K H t [.str l.1, .str l.2.1, .int l.2.2]
theorem LksAt.same {K : PySem.W.Frag} {H H' : Hp} {xs : List V} {ls : List Lk} (h : LksAt K H xs ls) (s : Same H H') : LksAt K H' xs ls := ⟨h.1, fun i l hl => by
  obtain ⟨t, h1, h2⟩ := h.2 i l hl
  exact ⟨t, h1, seqT_same s h2⟩⟩
theorem LksAt.at {K : PySem.W.Frag} {H : Hp} {xs : List V} {ls : List Lk} (h : LksAt K H xs ls) {i : Nat} {x : V} (hx : xs[i]? = some x) : ∃ (l : Lk) (t : Addr), ls[i]? = some l ∧ x = .ref t ∧ SqT K H t [.str l.1, .str l.2.1, .int l.2.2] := by
  have hi : i < ls.length := by rw [← h.1]; exact (List.getElem?_eq_some_iff.mp hx).1
  obtain ⟨t, h1, h2⟩ := h.2 i ls[i] (List.getElem?_eq_getElem hi)
  rw [hx] at h1
  exact ⟨ls[i], t, List.getElem?_eq_getElem hi, Option.some.inj h1, h2⟩
def LsAt (K : PySem.W.Frag) (H : Hp) (a : Addr) (ls : List Lk) : Prop := ∃ xs, (SqL K H a xs ∨ SqT K H a xs) ∧ LksAt K H xs ls
/-! ### the nodes' names -/
def addN (ns : List Str) (x : Str) : List Str := if x ∈ ns then ns else ns ++ [x]
def nodes (ls : List Lk) (s e : Str) : List Str := ls.foldl (fun ns l => addN (addN ns l.1) l.2.1) [s, e]
def idx (x : Str) : List Str → Nat
  | [] => 0
  | y :: r => if y = x then 0 else idx x r + 1
theorem idx_at {x : Str} : ∀ {ns : List Str}, x ∈ ns → ns[idx x ns]? = some x
  | y :: r, h => by
    unfold idx
    by_cases c : y = x
    · rw [if_pos c, c]; rfl
    · rw [if_neg c]
      have h' : x ∈ r := by
        rcases List.mem_cons.mp h with z | z
        · exact absurd z.symm c
        · exact z
      exact idx_at h'
theorem idx_no {x : Str} : ∀ {ns : List Str} {m : Nat} {y : Str}, m < idx x ns → ns[m]? = some y → y ≠ x
  | [], m, y, h, _ => by exact absurd h (Nat.not_lt_zero _)
  | z :: r, m, y, h, hy => by
    unfold idx at h
    by_cases c : z = x
    · rw [if_pos c] at h; exact absurd h (Nat.not_lt_zero _)
    · rw [if_neg c] at h
      match m, hy with
      | 0, hy => have e : z = y := Option.some.inj hy
                 rw [← e]; exact c
      | m + 1, hy => exact idx_no (ns := r) (by omega) hy
theorem idx_lt {x : Str} {ns : List Str} (h : x ∈ ns) : idx x ns < ns.length := (List.getElem?_eq_some_iff.mp (idx_at h)).1
theorem addN_sub {ns : List Str} {x y : Str} (h : y ∈ ns) : y ∈ addN ns x := by
  unfold addN; split
  · exact h
  · exact List.mem_append_left _ h
theorem addN_mem (ns : List Str) (x : Str) : x ∈ addN ns x := by
  unfold addN; split
  · assumption
  · simp
theorem addN_nd {ns : List Str} (x : Str) (h : ns.Nodup) : (addN ns x).Nodup := by
  unfold addN; split
  · exact h
  · rename_i c
    refine List.nodup_append.mpr ⟨h, by simp, fun a ha b hb z => ?_⟩
    rw [List.mem_singleton.mp hb] at z
    exact c (z ▸ ha)
theorem addN_len (ns : List Str) (x : Str) : (addN ns x).length ≤ ns.length + 1 := by
  unfold addN; split
  · omega
  · rw [List.length_append]; exact Nat.le_refl _
theorem addN_pre (ns : List Str) (x : Str) : ∃ r, addN ns x = ns ++ r := by
  unfold addN; split
  · exact ⟨[], by simp⟩
  · exact ⟨[x], rfl⟩
theorem nodes_snoc (ls : List Lk) (l : Lk) (s e : Str) : nodes (ls ++ [l]) s e = addN (addN (nodes ls s e) l.1) l.2.1 := by unfold nodes; rw [List.foldl_append]; rfl
theorem nodes_len (s e : Str) : ∀ ls : List Lk, (nodes ls s e).length ≤ 2 + 2 * ls.length := by
  have h : ∀ (ls : List Lk) (ns : List Str), (ls.foldl (fun ns l => addN (addN ns l.1) l.2.1) ns).length ≤ ns.length + 2 * ls.length := by
    intro ls
    induction ls with
    | nil => intro ns; exact Nat.le_refl _
    | cons l r ih =>
      intro ns
      have h1 := ih (addN (addN ns l.1) l.2.1)
      have h2 := addN_len (addN ns l.1) l.2.1
      have h3 := addN_len ns l.1
      rw [List.length_cons]
      show (List.foldl _ (addN (addN ns l.1) l.2.1) r).length ≤ _
      omega
  intro ls
  exact h ls [s, e]
theorem nodes_nd {s e : Str} (hse : s ≠ e) (ls : List Lk) : (nodes ls s e).Nodup := by
  have h : ∀ (ls : List Lk) (ns : List Str), ns.Nodup → (ls.foldl (fun ns l => addN (addN ns l.1) l.2.1) ns).Nodup := by
    intro ls
    induction ls with
    | nil => intro ns h; exact h
    | cons l r ih => intro ns h; exact ih _ (addN_nd _ (addN_nd _ h))
  exact h ls [s, e] (by simp [hse])
theorem nodes_pre (s e : Str) (ls : List Lk) : ∃ r, nodes ls s e = s :: e :: r := by
  have h : ∀ (ls : List Lk) (ns : List Str), ∃ r, ls.foldl (fun ns l => addN (addN ns l.1) l.2.1) ns = ns ++ r := by
    intro ls
    induction ls with
    | nil => intro ns; exact ⟨[], by simp⟩
    | cons l r ih =>
      intro ns
      obtain ⟨r1, h1⟩ := addN_pre ns l.1
      obtain ⟨r2, h2⟩ := addN_pre (addN ns l.1) l.2.1
      obtain ⟨r3, h3⟩ := ih (addN (addN ns l.1) l.2.1)
      refine ⟨r1 ++ r2 ++ r3, ?_⟩
      show List.foldl _ (addN (addN ns l.1) l.2.1) r = _
      rw [h3, h2, h1]
      simp
  exact h ls [s, e]
theorem nodes_mem (s e : Str) : ∀ (ls : List Lk) (l : Lk), l ∈ ls → l.1 ∈ nodes ls s e ∧ l.2.1 ∈ nodes ls s e := by
  have sub : ∀ (ls : List Lk) (ns : List Str) (y : Str), y ∈ ns → y ∈ ls.foldl (fun ns l => addN (addN ns l.1) l.2.1) ns := by
    intro ls
    induction ls with
    | nil => intro ns y h; exact h
    | cons l r ih => intro ns y h; exact ih _ y (addN_sub (addN_sub h))
  have h : ∀ (ls : List Lk) (ns : List Str) (l : Lk), l ∈ ls → l.1 ∈ ls.foldl (fun ns l => addN (addN ns l.1) l.2.1) ns ∧ l.2.1 ∈ ls.foldl (fun ns l => addN (addN ns l.1) l.2.1) ns := by
    intro ls
    induction ls with
    | nil => intro ns l h; cases h
    | cons l r ih =>
      intro ns l' h
      rcases List.mem_cons.mp h with z | z
      · subst z
        exact ⟨sub r _ _ (addN_sub (addN_mem _ _)), sub r _ _ (addN_mem _ _)⟩
      · exact ih _ l' z
  intro ls l hl
  exact h ls [s, e] l hl
/-! ### links as arcs by number -/
def dL : Lk := (Str.empty, Str.empty, 0)
def aOf (ns : List Str) (ls : List Lk) (i : Nat) : Nat := idx (ls.getD i dL).1 ns
def bOf (ns : List Str) (ls : List Lk) (i : Nat) : Nat := idx (ls.getD i dL).2.1 ns
def rOf (ls : List Lk) (i : Nat) : Int := (ls.getD i dL).2.2
theorem adj_at {adj : List (List Int)} {p q v : Nat} {x y : Int} {l' : List Int} (h : ((adj.modify p (· ++ [x])).modify q (· ++ [y]))[v]? = some l') : ∃ l, adj[v]? = some l ∧ l' = (l ++ if p = v then [x] else []) ++ if q = v then [y] else [] := by
  rw [List.getElem?_modify, List.getElem?_modify] at h
  cases e : adj[v]? with
  | none => rw [e] at h; simp at h
  | some l =>
    rw [e] at h
    refine ⟨l, rfl, ?_⟩
    by_cases c1 : p = v <;> by_cases c2 : q = v <;> simp [c1, c2] at h ⊢ <;> exact h.symm
theorem Gr.link {i n : Nat} {a b : Nat → Nat} {ends : List Int} {adj : List (List Int)} (G : Gr i n a b ends adj) (ha : a i < n) (hb : b i < n) :
    Gr (i + 1) n a b (ends ++ [((b i : Nat) : Int), ((a i : Nat) : Int)]) ((adj.modify (a i) (· ++ [(ends.length : Int)])).modify (b i) (· ++ [(ends.length : Int) + 1])) where
  elen := by rw [List.length_append, G.elen]; show 2 * i + 2 = _; omega
  eat := fun e he => by
    by_cases c : e < 2 * i
    · rw [List.getElem?_append_left (by rw [G.elen]; exact c)]
      exact G.eat e c
    · rw [List.getElem?_append_right (by rw [G.elen]; omega), G.elen]
      by_cases c1 : e = 2 * i
      · subst c1
        rw [Nat.sub_self, Fl.hd_even]; rfl
      · have c2 : e = 2 * i + 1 := by omega
        subst c2
        rw [show 2 * i + 1 - 2 * i = 1 by omega, Fl.hd_odd]; rfl
  alen := by rw [List.length_modify, List.length_modify]; exact G.alen
  mem := fun v l' hl' z hz => by
    obtain ⟨l, hl, rfl⟩ := adj_at hl'
    rcases List.mem_append.mp hz with hz | hz
    · rcases List.mem_append.mp hz with hz | hz
      · obtain ⟨e, h1, h2, h3⟩ := G.mem v l hl z hz
        exact ⟨e, h1, by omega, h3⟩
      · by_cases c : a i = v
        · rw [if_pos c] at hz
          refine ⟨2 * i, ?_, by omega, by rw [Fl.tl_even]; exact c⟩
          rw [List.mem_singleton.mp hz, G.elen]
        · rw [if_neg c] at hz; cases hz
    · by_cases c : b i = v
      · rw [if_pos c] at hz
        refine ⟨2 * i + 1, ?_, by omega, by rw [Fl.tl_odd]; exact c⟩
        rw [List.mem_singleton.mp hz, G.elen]; omega
      · rw [if_neg c] at hz; cases hz
  all := fun e he l' hl' => by
    obtain ⟨l, hl, rfl⟩ := adj_at hl'
    by_cases c : e < 2 * i
    · exact List.mem_append_left _ (List.mem_append_left _ (G.all e c l hl))
    · by_cases c1 : e = 2 * i
      · subst c1
        rw [Fl.tl_even, if_pos rfl]
        refine List.mem_append_left _ (List.mem_append_right _ ?_)
        rw [G.elen]; simp
      · have c2 : e = 2 * i + 1 := by omega
        subst c2
        rw [Fl.tl_odd, if_pos rfl]
        refine List.mem_append_right _ ?_
        rw [G.elen]; simp
  tln := fun e he => by
    by_cases c : e < 2 * i
    · exact G.tln e c
    · by_cases c1 : e = 2 * i
      · subst c1; rw [Fl.tl_even]; exact ha
      · have c2 : e = 2 * i + 1 := by omega
        subst c2; rw [Fl.tl_odd]; exact hb
  hdn := fun e he => by
    by_cases c : e < 2 * i
    · exact G.hdn e c
    · by_cases c1 : e = 2 * i
      · subst c1; rw [Fl.hd_even]; exact hb
      · have c2 : e = 2 * i + 1 := by omega
        subst c2; rw [Fl.hd_odd]; exact ha
theorem Gr.none_ (n : Nat) (a b : Nat → Nat) : Gr 0 n a b [] (List.replicate n []) where
  elen := rfl
  eat := fun e he => by omega
  alen := List.length_replicate
  mem := fun v l hl z hz => by
    have := List.eq_of_mem_replicate (List.mem_of_getElem? hl)
    rw [this] at hz; cases hz
  all := fun e he => by omega
  tln := fun e he => by omega
  hdn := fun e he => by omega
theorem rmf_app {rooms : List Int} {r : Int} {i : Nat} (h : rooms.length = 2 * i) : rmf (rooms ++ [r, 0]) (2 * i) = r ∧ rmf (rooms ++ [r, 0]) (2 * i + 1) = 0 ∧ ∀ x, x < 2 * i → rmf (rooms ++ [r, 0]) x = rmf rooms x := by
  unfold rmf
  simp only [List.getD_eq_getElem?_getD]
  refine ⟨?_, ?_, fun x hx => ?_⟩
  · rw [List.getElem?_append_right (by omega), h, Nat.sub_self]; rfl
  · rw [List.getElem?_append_right (by omega), h, show 2 * i + 1 - 2 * i = 1 by omega]; rfl
  · rw [List.getElem?_append_left (by omega)]
end Kx
namespace Kx
open PySem PySem.Spec PyProof.Rows L2
abbrev sFilled : Stmt := top 12
def spFilled (K : PySem.W.Frag) (C : Addr) : Sp := fun vs H Q _ => ∃ (ll : Addr) (ls : List Lk) (s e : Str), vs = [.ref ll, .str s, .str e] ∧ LsAt K H ll ls ∧ s ≠ e ∧ ls.length ≤ 400 ∧ (∀ l ∈ ls, 0 ≤ l.2.2) ∧
  ∀ H' t nl p le lr lo outs ends rooms adj found, Same H H' → H t = none → H' t = some (.tup [.ref nl, .ref p]) → H' nl = some (.lst ((nodes ls s e).map V.str)) → NetW C H' p le lr lo outs ends rooms adj → Gr ls.length (nodes ls s e).length (aOf (nodes ls s e) ls) (bOf (nodes ls s e) ls) ends adj → rooms.length = 2 * ls.length →
    Fl.Full ls.length (nodes ls s e).length (aOf (nodes ls s e) ls) (bOf (nodes ls s e) ls) (rOf ls) (rmf rooms) found → Q (.ref t) H'
section
variable {P : Program} {w : World} {K : PySem.W.Frag} {mg : Str → Option Value} {base : Heap} {C : Addr}
theorem scFilled : FnScope ["links", "start", "end", "names", "one", "two", "_", "name", "network", "room"] ["links", "start", "end"] (defScope sFilled) := ⟨rfl, rfl, rfl, by decide +kernel, rfl, by decide +kernel, by decide +kernel⟩
theorem ok_filled {f fI fL fF : Addr} {fd fdI fdL fdF : FuncData} (F : Fun K "filled_network" "filled_network" sFilled f fd) (T : TxtN K mg C) (TL : TxtL K mg) (mgC : mg "Network" = some (.ref C)) (MN : Mk K C fI) (bN : Binds K fdI ["self", "many"] [])
    (GI : FnOk P w K mg base CX0 1 fI fdI ["self", "many"] (spNInit C)) (ML : MethAt K C "link" "Network.link" sLink ["self", "one", "two", "room"] fL fdL) (MF : MethAt K C "fill" "Network.fill" sFill ["self", "start", "end"] fF fdF)
    (GF : FnOk P w K mg base CX0 4 fF fdF ["self", "start", "end"] (spFill C)) : FnOk P w K mg base CX0 5 f fd ["links", "start", "end"] (spFilled K C) := by
  have GL : FnOk P w K mg base CX0 1 fL fdL ["self", "one", "two", "room"] (spLink C) := ok_link ML.F T TL
  refine F.ok scFilled (fun vs H Q E h => ?_) (fun cdv A outer s H vs Q E hr h => ?_)
  · obtain ⟨ll, ls, s, e, rfl, _⟩ := h
    rfl
  · obtain ⟨ll, ls, st, en, rfl, ⟨xs, hq, hx⟩, hse, hlen, hpos, k⟩ := h
    refine ⟨_, (pss_cons (ps_set (i := 3) scFilled.nd rfl (Or.inl rfl) (pe_lst (pa_cons (pv 1) (pa_cons (pv 2) pa_nil))))
    (pss_cons (ps_for PassesOwn.never rfl (pi_seq (pv 0)) (pg_tup rfl (pgs_cons (pg_name (i := 4) scFilled.nd rfl (Or.inl rfl)) (pgs_cons (pg_name (i := 5) scFilled.nd rfl (Or.inl rfl)) (pgs_cons (pg_name (i := 6) scFilled.nd rfl (Or.inl rfl)) pgs_nil))))
      (pss_one (ps_for PassesOwn.never rfl (pi_tup (pe_tup (pa_cons (pv 4) (pa_cons (pv 5) pa_nil)))) (pg_name (i := 7) scFilled.nd rfl (Or.inl rfl))
        (pss_one (ps_if (pt_cmpR op_notIn_seq (pv 7) (pv 3) rfl) (pss_one (ps_expr (pe_bm PySem.F.plainAttrs_list PySem.F.slot_list_append PySem.F.type_list_append mt_append (pv 3) (pa_cons (pv 7) pa_nil)))) pss_nil)))))
    (pss_cons (ps_set (i := 8) scFilled.nd rfl (Or.inl rfl) (pe_make MN GI (hr.mono (by decide)) rfl mgC bN .nil pass0 (pa_cons (pe_callB call_len_seq (by rfl) TL.b_len (by decide +kernel) (pa_cons (pv 3) pa_nil)) pa_nil)))
    (pss_cons (ps_for PassesOwn.never rfl (pi_seq (pv 0)) (pg_tup rfl (pgs_cons (pg_name (i := 4) scFilled.nd rfl (Or.inl rfl)) (pgs_cons (pg_name (i := 5) scFilled.nd rfl (Or.inl rfl)) (pgs_cons (pg_name (i := 9) scFilled.nd rfl (Or.inl rfl)) pgs_nil))))
      (pss_one (ps_expr (pe_meth (pv 8) T.cl ML.m GL (hr.mono (by decide)) ML.b .nil pass0 (pa_cons (pe_bm PySem.F.plainAttrs_list PySem.F.slot_list_index PySem.F.type_list_index mt_index (pv 3) (pa_cons (pv 4) pa_nil)) (pa_cons (pe_bm PySem.F.plainAttrs_list PySem.F.slot_list_index PySem.F.type_list_index mt_index (pv 3) (pa_cons (pv 5) pa_nil)) (pa_cons (pv 9) pa_nil)))))))
    (pss_cons (ps_expr (pe_meth (pv 8) T.cl MF.m GF (hr.mono (by decide)) MF.b .nil pass0 (pa_cons pe_int (pa_cons pe_int pa_nil))))
    (pss_one (ps_ret (pe_tup (pa_cons (pv 3) (pa_cons (pv 8) pa_nil)))))))))), ?_⟩
    refine ⟨_, rfl, _, rfl, sz (Nat.le_of_ble_eq_true rfl), fun nl hnl => ?_⟩
    refine ⟨_, rfl, ll, rfl, for_seq (K := K) (H0 := H) hq (fun i σ' H' => ∃ vo vt vu vn : Option V, σ' = [some (.ref ll), some (.str st), some (.str en), some (.ref nl), vo, vt, vu, vn, none, none] ∧ Same H H' ∧ H' nl = some (.lst ((nodes (ls.take i) st en).map V.str)))
      ⟨none, none, none, none, rfl, same_new hnl, upd_same⟩ (fun i σ' H' ⟨_, _, _, _, _, s1, _⟩ => s1) ?_ ?_⟩
    · rintro i x σ' H' hxi ⟨vo, vt, vu, vn, rfl, sm, hN⟩
      obtain ⟨l, t, hl, rfl, ht⟩ := (hx.same sm).at hxi
      have hz : (nodes (ls.take i) st en).length ≤ 802 := by
        have := nodes_len st en (ls.take i)
        rw [List.length_take] at this
        omega
      refine ⟨t, _, rfl, ht, rfl, _, _, rfl, _, _, rfl, _, _, rfl, rfl, ?_⟩
      refine ⟨_, rfl, _, rfl, sz (Nat.le_of_ble_eq_true rfl), fun u hu => ⟨u, rfl, ⟨_, .inl (.inl upd_same)⟩, ?_⟩⟩
      have hun : nl ≠ u := ne_of_none hN hu
      refine for_tup (K := K) (a := u) (xs := [.str l.1, .str l.2.1]) (fun j σ2 H2 => ∃ vn : Option V, σ2 = [some (.ref ll), some (.str st), some (.str en), some (.ref nl), some (.str l.1), some (.str l.2.1), some (.int l.2.2), vn, none, none] ∧ Same H H2 ∧ H2 u = some (.tup [.str l.1, .str l.2.1]) ∧
        H2 nl = some (.lst ((match j with | 0 => nodes (ls.take i) st en | 1 => addN (nodes (ls.take i) st en) l.1 | _ => addN (addN (nodes (ls.take i) st en) l.1) l.2.1).map V.str)))
        ⟨vn, rfl, same_put sm (sm.free hu), upd_same, by rw [upd_ne hun]; exact hN⟩ (fun j σ2 H2 _ ⟨_, _, _, h3, _⟩ => .inl (.inl h3)) ?_ ?_
      · have turn : ∀ (ns : List Str) (x : Str) (H2 : Hp) (D : Ends), ns.length ≤ 803 → Same H H2 → H2 u = some (.tup [.str l.1, .str l.2.1]) → H2 nl = some (.lst (ns.map V.str)) →
            (∀ H3, Same H H3 → H3 u = some (.tup [.str l.1, .str l.2.1]) → H3 nl = some (.lst ((addN ns x).map V.str)) → D.nx [some (.ref ll), some (.str st), some (.str en), some (.ref nl), some (.str l.1), some (.str l.2.1), some (.int l.2.2), some (.str x), none, none] H3) →
            (tIfS (tTest (tOp (rIn K true) (tVar 7) (tVar 3))) (tDrop (tBM K "list" rAppend (tVar 3) (tCons (tVar 7) tNil))) tNext) D [some (.ref ll), some (.str st), some (.str en), some (.ref nl), some (.str l.1), some (.str l.2.1), some (.int l.2.2), some (.str x), none, none] H2 := by
          intro ns x H2 D hz s2 hu2 hn2 kR
          refine ⟨_, rfl, _, rfl, nl, _, rfl, .inl (SqL.of hn2), rfl, flat_strs _, _, rfl, ?_⟩
          show if (!inV (.str x) (ns.map V.str)) = true then _ else _
          rw [inV_str]
          refine if_nd (fun c => ?_) (fun c => ?_)
          · refine ⟨_, rfl, .inl ⟨rfl, _, SqL.of hn2⟩, _, rfl, nl, _, _, rfl, rfl, hn2, szl (by rw [List.length_map]; omega), ?_⟩
            refine kR _ (same_put s2 hnl) (by rw [upd_ne hun.symm]; exact hu2) ?_
            rw [upd_same]; unfold addN; rw [if_neg c, List.map_append]; rfl
          · refine kR _ s2 hu2 ?_
            unfold addN; rw [if_pos c]; exact hn2
        rintro j y σ2 H2 hy ⟨vn, rfl, s2, hu2, hn2⟩
        have h1 := addN_len (nodes (ls.take i) st en) l.1
        match j, hy with
        | 0, hy =>
          cases hy
          exact turn (nodes (ls.take i) st en) _ H2 _ (by omega) s2 hu2 hn2 fun H3 s3 hu3 hn3 => ⟨_, rfl, s3, hu3, hn3⟩
        | 1, hy =>
          cases hy
          exact turn (addN (nodes (ls.take i) st en) l.1) _ H2 _ (by omega) s2 hu2 hn2 fun H3 s3 hu3 hn3 => ⟨_, rfl, s3, hu3, hn3⟩
        | j + 2, hy => simp at hy
      · rintro σ2 H2 ⟨vn, rfl, s2, hu2, hn2⟩
        refine ⟨_, _, _, _, rfl, s2, ?_⟩
        rw [take_snoc hl, nodes_snoc]
        exact hn2
    · rintro σ' H' ⟨vo, vt, vu, vn, rfl, sm, hN⟩
      rw [hx.1, List.take_length] at hN
      have hnn := nodes_len st en ls
      have hnd := nodes_nd hse ls
      have hmem := nodes_mem st en ls
      obtain ⟨nr, hpre⟩ := nodes_pre st en ls
      generalize hns : nodes ls st en = ns at hN hnn hnd hmem hpre k
      have hn2 : 2 ≤ ns.length := by rw [hpre]; simp
      -- network = Network(len(names))
      refine ⟨_, rfl, _, _, rfl, .inl (SqL.of hN), fun p dx hp hdx hpd => ?_⟩
      rw [List.length_map]
      refine ⟨p, dx, ns.length, rfl, by omega, upd_same, fun H1 le lr lo outs N0 kp0 fr0 => ⟨rfl, ?_⟩⟩
      have sm1 : Same H' H1 := Same.made hp hdx (fun b o q hb => kp0 b o hb q)
      have hN1 := sm1 _ _ hN
      have up0 : ∀ b, H1 b = none → True := fun _ _ => trivial
      have frH : ∀ b ∈ le :: lr :: lo :: outs, H' b = none := fun b hb => by
        have z := fr0 b hb
        by_cases c : b = p
        · rw [c]; exact hp
        · rw [upd_ne c] at z
          by_cases c2 : b = dx
          · rw [c2]; exact hdx
          · rw [upd_ne c2] at z; exact z
      have frN : ∀ b ∈ le :: lr :: outs, ∀ o, H' b = some o → False := fun b hb o q => by
        have z := frH b (by
          simp only [List.mem_cons] at hb ⊢
          rcases hb with h | h | h
          · exact .inl h
          · exact .inr (.inl h)
          · exact .inr (.inr (.inr h)))
        rw [z] at q; cases q
      refine ⟨_, rfl, ll, rfl, for_seq (K := K) (H0 := H) hq (fun i σ' H2 => ∃ (vo vt vu vn vr : Option V) (ends rooms : List Int) (adj : List (List Int)), σ' = [some (.ref ll), some (.str st), some (.str en), some (.ref nl), vo, vt, vu, vn, some (.ref p), vr] ∧ Same H H2 ∧ H2 nl = some (.lst (ns.map V.str)) ∧
          NetW C H2 p le lr lo outs ends rooms adj ∧ Gr i ns.length (aOf ns ls) (bOf ns ls) ends adj ∧ rooms.length = 2 * i ∧ (∀ j, j < i → rmf rooms (2 * j) = rOf ls j ∧ rmf rooms (2 * j + 1) = 0) ∧ ∀ l ∈ adj, l.length ≤ 2 * i)
        ⟨vo, vt, vu, vn, none, [], [], _, rfl, sm.trans sm1, hN1, N0, Gr.none_ _ _ _, rfl, fun j hj => by omega, fun l hl => by rw [List.eq_of_mem_replicate hl]; exact Nat.le_refl _⟩ (fun i σ' H2 ⟨_, _, _, _, _, _, _, _, _, s2, _⟩ => s2) ?_ ?_⟩
      · rintro i x σ' H2 hxi ⟨vo, vt, vu, vn, vr, ends, rooms, adj, rfl, s2, hN2, N2, G2, hl2, hr2, hz2⟩
        obtain ⟨l, t, hl, rfl, ht⟩ := (hx.same s2).at hxi
        obtain ⟨m1, m2⟩ := hmem l (List.mem_of_getElem? hl)
        have hil : i < ls.length := (List.getElem?_eq_some_iff.mp hl).1
        have egl : ls.getD i dL = l := by rw [List.getD_eq_getElem?_getD, hl]; rfl
        have ea : aOf ns ls i = idx l.1 ns := by unfold aOf; rw [egl]
        have eb : bOf ns ls i = idx l.2.1 ns := by unfold bOf; rw [egl]
        have er : rOf ls i = l.2.2 := by unfold rOf; rw [egl]
        obtain ⟨dx2, ho2⟩ := N2.ob
        have ix : ∀ (x : Str), x ∈ ns → (ns.map V.str)[idx x ns]? = some (.str x) := fun x hx => by rw [List.getElem?_map, idx_at hx]; rfl
        have nx : ∀ (x : Str) (m : Nat) (z' : V), m < idx x ns → (ns.map V.str)[m]? = some z' → eqV z' (.str x) = false := fun x m z' hm hz => by
          rw [List.getElem?_map] at hz
          cases q : ns[m]? with
          | none => rw [q] at hz; cases hz
          | some y =>
            rw [q] at hz
            cases hz
            show (y == x) = false
            simpa using idx_no hm q
        have sx : ∀ x : Str, eqV (.str x) (.str x) = true := fun x => by show (x == x) = true; simp
        refine ⟨t, _, rfl, ht, rfl, _, _, rfl, _, _, rfl, _, _, rfl, rfl, ?_⟩
        refine ⟨_, rfl, p, dx2, _, rfl, ho2, nf_no _ _ _ (by decide +kernel) (by decide +kernel) (by decide +kernel), _, rfl, .inl ⟨rfl, _, SqL.of hN2⟩, _, rfl, nl, _, _, idx l.1 ns, _, rfl, rfl, SqL.of hN2, rfl, flat_strs _, ix _ m1, sx _, nx _, _, rfl, .inl ⟨rfl, _, SqL.of hN2⟩, _, rfl, nl, _, _, idx l.2.1 ns, _, rfl, rfl, SqL.of hN2, rfl, flat_strs _, ix _ m2, sx _, nx _, _, rfl, ?_⟩
        refine ⟨p, le, lr, lo, outs, ends, rooms, adj, idx l.1 ns, idx l.2.1 ns, l.2.2, rfl, N2, by rw [G2.alen]; exact idx_lt m1, by rw [G2.alen]; exact idx_lt m2, by rw [G2.elen]; omega, by rw [hl2]; omega, fun l' hl' => by have := hz2 l' hl'; omega, fun H3 N3 k3 => ?_⟩
        have G3 := G2.link (by rw [ea]; exact idx_lt m1) (by rw [eb]; exact idx_lt m2)
        rw [ea, eb] at G3
        obtain ⟨r1, r2, r3⟩ := rmf_app (r := l.2.2) hl2
        refine ⟨_, _, _, _, _, _, _, _, rfl, fun b o q => k3 b o (fun z => frN b z o (sm b o q)) (s2 b o q), k3 _ _ (fun z => frN _ z _ hN) hN2, N3, G3, by rw [List.length_append, hl2]; show 2 * i + 2 = _; omega, fun j hj => ?_, fun l' hl' => ?_⟩
        · by_cases c : j = i
          · subst c; rw [r1, r2, er]; exact ⟨rfl, rfl⟩
          · rw [r3 _ (by omega), r3 _ (by omega)]; exact hr2 j (by omega)
        · obtain ⟨v, hv⟩ := List.mem_iff_getElem?.mp hl'
          obtain ⟨l0, h0, rfl⟩ := adj_at hv
          have := hz2 l0 (List.mem_of_getElem? h0)
          rw [List.length_append, List.length_append]
          have e1 : (if idx l.1 ns = v then [(ends.length : Int)] else []).length ≤ 1 := by split <;> simp
          have e2 : (if idx l.2.1 ns = v then [(ends.length : Int) + 1] else []).length ≤ 1 := by split <;> simp
          omega
      · rintro σ' H2 ⟨vo, vt, vu, vn, vr, ends, rooms, adj, rfl, s2, hN2, N2, G2, hl2, hr2, hz2⟩
        rw [hx.1] at G2 hl2 hr2
        have hpos' : ∀ i, i < ls.length → 0 ≤ rOf ls i := fun i hi => by
          unfold rOf
          rw [List.getD_eq_getElem?_getD, List.getElem?_eq_getElem hi]
          exact hpos _ (List.getElem_mem hi)
        obtain ⟨hc, hk⟩ := Fl.caps_start (n := ns.length) (a := aOf ns ls) (b := bOf ns ls) hpos' hr2
        obtain ⟨dx2, ho2⟩ := N2.ob
        refine ⟨_, rfl, p, dx2, _, rfl, ho2, nf_no _ _ _ (by decide +kernel) (by decide +kernel) (by decide +kernel), p, le, lr, lo, outs, ends, rooms, adj, ls.length, ns.length, aOf ns ls, bOf ns ls, rOf ls, rfl, N2, G2, hl2, by omega, by omega, hn2, hc, hk, fun H3 rooms' found kp3 hr3 hl3 FF => ?_⟩
        have N3 := N2.rooms kp3 hr3
        have nlr : nl ≠ lr := fun z => frN lr (by simp) _ (z ▸ hN)
        have s3 : Same H H3 := fun b o q => kp3 b o (fun z => frN lr (by simp) o (z ▸ sm b o q)) (s2 b o q)
        have hN3 := kp3 _ _ nlr hN2
        refine ⟨_, rfl, _, rfl, sz (Nat.le_of_ble_eq_true rfl), fun t ht => ?_⟩
        exact k _ t nl p le lr lo outs ends rooms' adj found (same_put s3 (s3.free ht)) (s3.free ht) upd_same (by rw [upd_ne (ne_of_none hN3 ht)]; exact hN3) (N3.same (same_new ht)) G2 hl3 FF
end
end Kx
namespace Kx
open PySem PySem.Spec PyProof.Rows L2
abbrev sCheck : Stmt := top 11
def bad1 (l : Lk) : Bool := !(decide (0 ≤ l.2.2) && decide (l.2.2 ≤ 1000000000))
def firstBad (ls : List Lk) : Option Int := (ls.find? bad1).map (·.2.2)
theorem firstBad_at : ∀ {ls : List Lk} {i : Nat} {l : Lk}, (∀ j l', j < i → ls[j]? = some l' → bad1 l' = false) → ls[i]? = some l → bad1 l = true → firstBad ls = some l.2.2
  | [], i, l, _, h, _ => by simp at h
  | x :: r, 0, l, _, h, hb => by
    have e : x = l := Option.some.inj h
    subst e
    unfold firstBad
    rw [List.find?_cons, hb]; rfl
  | x :: r, i + 1, l, h0, h, hb => by
    have hx : bad1 x = false := h0 0 x (Nat.succ_pos _) rfl
    have ih := firstBad_at (ls := r) (i := i) (l := l) (fun j l' hj hl' => h0 (j + 1) l' (by omega) hl') h hb
    unfold firstBad at ih ⊢
    rw [List.find?_cons, hx]; exact ih
theorem firstBad_none {ls : List Lk} (h : ∀ (j : Nat) l', j < ls.length → ls[j]? = some l' → bad1 l' = false) : firstBad ls = none := by
  unfold firstBad
  have : ls.find? bad1 = none := List.find?_eq_none.mpr fun x hx => by
    obtain ⟨j, hj⟩ := List.mem_iff_getElem?.mp hx
    rw [h j x (List.getElem?_eq_some_iff.mp hj).1 hj]; exact Bool.false_ne_true
  rw [this]; rfl
theorem firstBad_ok {ls : List Lk} (h : firstBad ls = none) : ∀ l ∈ ls, 0 ≤ l.2.2 ∧ l.2.2 ≤ 1000000000 := by
  intro l hl
  unfold firstBad at h
  have h1 : ls.find? bad1 = none := by
    cases e : ls.find? bad1 with
    | none => rfl
    | some y => rw [e] at h; cases h
  have h2 := List.find?_eq_none.mp h1 l hl
  unfold bad1 at h2
  simp at h2
  exact h2
def spCheck (K : PySem.W.Frag) (CT CB CD : Addr) : Sp := fun vs H Q E => ∃ (ll : Addr) (ls : List Lk) (s e : Str), vs = [.ref ll, .str s, .str e] ∧ LsAt K H ll ls ∧
  (400 < ls.length → ∀ d H', Same H H' → H' d = some (.xd [("limit", .int 400)]) → E (.ref CT) (some d) H') ∧
  (ls.length ≤ 400 → ∀ r, firstBad ls = some r → ∀ d H', Same H H' → H' d = some (.xd [("number", .int r)]) → E (.ref CB) (some d) H') ∧
  (ls.length ≤ 400 → firstBad ls = none → s = e → ∀ d H', Same H H' → H' d = some (.xd [("name", .str s)]) → E (.ref CD) (some d) H') ∧
  (ls.length ≤ 400 → firstBad ls = none → s ≠ e → ∀ H', Same H H' → Q .non H')
structure TxtE (P : Program) (K : PySem.W.Frag) (mg : Str → Option Value) (CT CB CD fT fB fD : Addr) : Prop where
  eT : ErrTxt P K mg "TooMany" "limit" CT fT
  eB : ErrTxt P K mg "BadCount" "number" CB fB
  eD : ErrTxt P K mg "Duplicate" "name" CD fD
  vL : ∃ t, mg "MOST_LINKS" = some (Value.int 400 t)
  vR : ∃ t, mg "MOST_ROOM" = some (Value.int 1000000000 t)
section
variable {P : Program} {w : World} {K : PySem.W.Frag} {mg : Str → Option Value} {base : Heap} {C CT CB CD fT fB fD : Addr}
theorem scCheck : FnScope ["links", "start", "end", "_", "room"] ["links", "start", "end"] (defScope sCheck) := ⟨rfl, rfl, rfl, by decide +kernel, rfl, by decide +kernel, by decide +kernel⟩
theorem ok_check {f : Addr} {fd : FuncData} (F : Fun K "check_links" "check_links" sCheck f fd) (TL : TxtL K mg) (TE : TxtE P K mg CT CB CD fT fB fD) : FnOk P w K mg base (L2N.CX P w) 3 f fd ["links", "start", "end"] (spCheck K CT CB CD) := by
  refine okN F scCheck (fun vs H Q E h => ?_) (fun cdv A outer s H vs Q E hr h => ?_)
  · obtain ⟨ll, ls, s, e, rfl, _⟩ := h
    rfl
  · obtain ⟨ll, ls, st, en, rfl, ⟨xs, hq, hx⟩, kT, kB, kD, k⟩ := h
    obtain ⟨tL, vL⟩ := TE.vL
    obtain ⟨tR, vR⟩ := TE.vR
    refine ⟨_, (pss_cons (ps_if (pt_cmpR op_gt (pe_callB call_len_seq (by rfl) TL.b_len (by decide +kernel) (pa_cons (pv 0) pa_nil)) (pe_glob (by rfl) vL (v := .int 400) ⟨_, rfl⟩) (nomark _)) (pss_one (L2N.ps_raise rfl (L2N.takes_of rfl rfl rfl rfl) (pmk_err TE.eT hr (pa_cons (pe_glob (by rfl) vL (v := .int 400) ⟨_, rfl⟩) pa_nil)))) pss_nil)
    (pss_cons (ps_for (passes_of rfl) rfl (pi_seq (pv 0)) (pg_tup rfl (pgs_cons (pg_name (i := 3) scCheck.nd rfl (Or.inl rfl)) (pgs_cons (pg_name (i := 3) scCheck.nd rfl (Or.inl rfl)) (pgs_cons (pg_name (i := 4) scCheck.nd rfl (Or.inl rfl)) pgs_nil))))
      (pss_one (ps_if (pt_not (pt_chain op_le op_le pe_int (pv 4) (pe_glob (by rfl) vR (v := .int 1000000000) ⟨_, rfl⟩))) (pss_one (L2N.ps_raise rfl (L2N.takes_of rfl rfl rfl rfl) (pmk_err TE.eB hr (pa_cons (pv 4) pa_nil)))) pss_nil)))
    (pss_one (ps_if (pt_cmpR op_eq (pv 1) (pv 2) (nomark _)) (pss_one (L2N.ps_raise rfl (L2N.takes_of rfl rfl rfl rfl) (pmk_err TE.eD hr (pa_cons (pv 1) pa_nil)))) pss_nil)))), ?_⟩
    refine ⟨_, rfl, _, _, rfl, hq, _, _, rfl, rfl, _, rfl, if_d (fun c => ?_) (fun c => ?_)⟩
    · rw [hx.1] at c
      exact ⟨_, rfl, fun d hd => kT (by omega) d _ (same_new hd) upd_same⟩
    · rw [hx.1] at c
      have hlen : ls.length ≤ 400 := by omega
      refine ⟨_, rfl, ll, rfl, for_seq (K := K) (H0 := H) hq (fun i σ' H' => ∃ v3 v4 : Option V, σ' = [some (.ref ll), some (.str st), some (.str en), v3, v4] ∧ H' = H ∧ ∀ (j : Nat) l', j < i → ls[j]? = some l' → bad1 l' = false)
        ⟨none, none, rfl, rfl, fun j l' hj => by omega⟩ (fun i σ' H' ⟨_, _, _, e, _⟩ => by rw [e]; exact Same.refl H) ?_ ?_⟩
      · rintro i x σ' H' hxi ⟨v3, v4, rfl, rfl, hg⟩
        obtain ⟨l, t, hl, rfl, ht⟩ := hx.at hxi
        refine ⟨t, _, rfl, ht, rfl, _, _, rfl, _, _, rfl, _, _, rfl, rfl, ?_⟩
        have good : bad1 l = false → ∃ v3 v4 : Option V, [some (V.ref ll), some (.str st), some (.str en), some (.str l.2.1), some (.int l.2.2)] = [some (.ref ll), some (.str st), some (.str en), v3, v4] ∧ H' = H' ∧ ∀ (j : Nat) l', j < i + 1 → ls[j]? = some l' → bad1 l' = false := fun hb => ⟨_, _, rfl, rfl, fun j l' hj hl' => by
          by_cases cj : j = i
          · subst cj; rw [hl] at hl'; cases hl'; exact hb
          · exact hg j l' (by omega) hl'⟩
        have badc : bad1 l = true → ∀ d, H' d = none → E (.ref CB) (some d) (upd H' d (.xd [("number", .int l.2.2)])) := fun hb d hd => kB hlen _ (firstBad_at hg hl hb) d _ (same_new hd) upd_same
        refine ⟨_, rfl, _, _, rfl, rfl, _, rfl, ?_⟩
        by_cases c1 : (0 : Int) ≤ l.2.2
        · rw [if_pos (decide_eq_true c1)]
          refine ⟨_, _, rfl, rfl, _, rfl, ?_⟩
          by_cases c2 : l.2.2 ≤ 1000000000
          · rw [decide_eq_true c2]
            exact good (by unfold bad1; rw [decide_eq_true c1, decide_eq_true c2]; rfl)
          · rw [decide_eq_false c2]
            exact ⟨_, rfl, _, rfl, badc (by unfold bad1; rw [decide_eq_false c2, Bool.and_false]; rfl)⟩
        · rw [if_neg (by simp [c1])]
          exact ⟨_, rfl, _, rfl, _, rfl, badc (by unfold bad1; rw [decide_eq_false c1, Bool.false_and]; rfl)⟩
      · rintro σ' H' ⟨v3, v4, rfl, rfl, hg⟩
        rw [hx.1] at hg
        have hb := firstBad_none hg
        refine ⟨_, rfl, _, rfl, rfl, _, rfl, if_d (fun c => ?_) (fun c => ?_)⟩
        · exact ⟨_, rfl, _, rfl, fun d hd => kD hlen hb (V.str.inj c) d _ (same_new hd) upd_same⟩
        · exact k hlen hb (fun z => c (congrArg V.str z)) _ (Same.refl _)
end
end Kx
namespace Kx
open PySem PySem.Spec PyProof.Rows L2
abbrev sGreat : Stmt := top 13
abbrev sLeast : Stmt := top 14
/-- a comprehension over enumerate(list) -/
theorem lc_enum {K : PySem.W.Frag} {a : Addr} {xs : List V} {g : TG} {tt : TT} {te : TE} {vs : List Nat} {σ : L2.St} {H1 : Hp} {D : Addr} {Qd : Hp → Prop} (Pv : Nat → Hp → Prop) (h0 : Pv 0 (upd H1 D (.lst []))) (hl : ∀ i H, i ≤ xs.length → Pv i H → SqL K H a xs)
    (hs : ∀ i x H T, xs[i]? = some x → Pv i H → H T = none → g (.ref T) (wipe σ vs) (upd H T (.tup [.int (i : Nat), x])) fun σ2 H2 => wipe σ2 vs = wipe σ vs ∧ tt σ2 H2 fun b H3 =>
      if b = true then te σ2 H3 fun y H4 => ∃ acc, H4 D = some (.lst acc) ∧ acc.length < sizeLine ∧ Pv (i + 1) (upd H4 D (.lst (acc ++ [y]))) else Pv (i + 1) H3) (hd : ∀ H, Pv xs.length H → Qd H) :
    ∃ W : Nat → Nat → Hp → Prop, (∃ m, W 0 m (upd H1 D (.lst []))) ∧ ∀ i m H, W i m H →
      ((Ite K a).stop i H ∧ Qd H) ∨ ((Ite K a).go i H ∧ ∃ Nx : Hp → Prop, (∀ H', Nx H' → ∃ m', m' < m ∧ W (i + 1) m' H') ∧ ∀ x H', (Ite K a).yld i H x H' → g x (wipe σ vs) H' fun σ2 H2 => wipe σ2 vs = wipe σ vs ∧ tt σ2 H2 fun b H3 =>
        if b = true then te σ2 H3 fun y H4 => ∃ acc, H4 D = some (.lst acc) ∧ acc.length < sizeLine ∧ Nx (upd H4 D (.lst (acc ++ [y]))) else Nx H3) := by
  refine ⟨fun i m H => m + i = xs.length ∧ Pv i H, ⟨xs.length, rfl, h0⟩, ?_⟩
  rintro i m H ⟨hm, p⟩
  have q := hl i H (by omega) p
  by_cases hlt : i < xs.length
  · refine .inr ⟨⟨xs, xs[i], q, List.getElem?_eq_getElem hlt⟩, Pv (i + 1), fun H' p' => ⟨m - 1, by omega, by omega, p'⟩, ?_⟩
    rintro x H' ⟨T, y, rfl, hT, rfl, hy⟩
    exact hs i y H T (hy xs q) p hT
  · have e : i = xs.length := by omega
    subst e
    exact .inl ⟨⟨xs, q, Nat.le_refl _⟩, hd H p⟩
/-- the names on a side, by number -/
def pickN (found : List Nat) : Nat → List Str → List Str
  | _, [] => []
  | k, x :: r => if k ∈ found then x :: pickN found (k + 1) r else pickN found (k + 1) r
theorem pickN_snoc (found : List Nat) (x : Str) : ∀ (k : Nat) (ns : List Str), pickN found k (ns ++ [x]) = pickN found k ns ++ if k + ns.length ∈ found then [x] else []
  | k, [] => by
    show (if k ∈ found then [x] else []) = [] ++ if k + 0 ∈ found then [x] else []
    rw [Nat.add_zero, List.nil_append]
  | k, y :: r => by
    have ih := pickN_snoc found x (k + 1) r
    have e : k + (y :: r).length = k + 1 + r.length := by rw [List.length_cons]; omega
    show (if k ∈ found then y :: pickN found (k + 1) (r ++ [x]) else pickN found (k + 1) (r ++ [x])) = _
    rw [e, ih]
    show _ = (if k ∈ found then y :: pickN found (k + 1) r else pickN found (k + 1) r) ++ _
    split <;> rfl
def spGreat (K : PySem.W.Frag) (CT CB CD : Addr) : Sp := fun vs H Q E => ∃ (ll : Addr) (ls : List Lk) (s e : Str), vs = [.ref ll, .str s, .str e] ∧ LsAt K H ll ls ∧
  (400 < ls.length → ∀ d H', Same H H' → H' d = some (.xd [("limit", .int 400)]) → E (.ref CT) (some d) H') ∧
  (ls.length ≤ 400 → ∀ r, firstBad ls = some r → ∀ d H', Same H H' → H' d = some (.xd [("number", .int r)]) → E (.ref CB) (some d) H') ∧
  (ls.length ≤ 400 → firstBad ls = none → s = e → ∀ d H', Same H H' → H' d = some (.xd [("name", .str s)]) → E (.ref CD) (some d) H') ∧
  (ls.length ≤ 400 → firstBad ls = none → s ≠ e → ∀ H' q (rooms : List Int) found, Same H H' → H q = none → H' q = some (.lst ((List.range ls.length).map fun i => V.int (rmf rooms (2 * i + 1)))) →
    Fl.Full ls.length (nodes ls s e).length (aOf (nodes ls s e) ls) (bOf (nodes ls s e) ls) (rOf ls) (rmf rooms) found → Q (.ref q) H')
def spLeast (K : PySem.W.Frag) (CT CB CD : Addr) : Sp := fun vs H Q E => ∃ (ll : Addr) (ls : List Lk) (s e : Str), vs = [.ref ll, .str s, .str e] ∧ LsAt K H ll ls ∧
  (400 < ls.length → ∀ d H', Same H H' → H' d = some (.xd [("limit", .int 400)]) → E (.ref CT) (some d) H') ∧
  (ls.length ≤ 400 → ∀ r, firstBad ls = some r → ∀ d H', Same H H' → H' d = some (.xd [("number", .int r)]) → E (.ref CB) (some d) H') ∧
  (ls.length ≤ 400 → firstBad ls = none → s = e → ∀ d H', Same H H' → H' d = some (.xd [("name", .str s)]) → E (.ref CD) (some d) H') ∧
  (ls.length ≤ 400 → firstBad ls = none → s ≠ e → ∀ H' q (rooms : List Int) found, Same H H' → H q = none → H' q = some (.lst ((pickN found 0 (nodes ls s e)).map V.str)) →
    Fl.Full ls.length (nodes ls s e).length (aOf (nodes ls s e) ls) (bOf (nodes ls s e) ls) (rOf ls) (rmf rooms) found → Q (.ref q) H')
section
variable {P : Program} {w : World} {K : PySem.W.Frag} {mg : Str → Option Value} {base : Heap} {C CT CB CD fT fB fD : Addr}
theorem scGreat : FnScope ["links", "start", "end", "_", "network", "at"] ["links", "start", "end"] (defScope sGreat) := ⟨rfl, rfl, rfl, by decide +kernel, rfl, by decide +kernel, by decide +kernel⟩
theorem ok_great {f fC fN fL : Addr} {fd fdC fdN fdL : FuncData} (F : Fun K "greatest_flow" "greatest_flow" sGreat f fd) (T : TxtN K mg C) (TL : TxtL K mg) (DC : DefAt K mg "check_links" sCheck ["links", "start", "end"] fC fdC) (GC : FnOk P w K mg base (L2N.CX P w) 3 fC fdC ["links", "start", "end"] (spCheck K CT CB CD))
    (DN : DefAt K mg "filled_network" sFilled ["links", "start", "end"] fN fdN) (GN : FnOk P w K mg base CX0 5 fN fdN ["links", "start", "end"] (spFilled K C)) (ML : MethAt K C "flow" "Network.flow" sFlow ["self", "arc"] fL fdL) : FnOk P w K mg base (L2N.CX P w) 6 f fd ["links", "start", "end"] (spGreat K CT CB CD) := by
  have GL : FnOk P w K mg base CX0 1 fL fdL ["self", "arc"] (spFlow C) := ok_flow ML.F T
  refine okN F scGreat (fun vs H Q E h => ?_) (fun cdv A outer s H vs Q E hr h => ?_)
  · obtain ⟨ll, ls, s, e, rfl, _⟩ := h
    rfl
  · obtain ⟨ll, ls, st, en, rfl, hls, kT, kB, kD, k⟩ := h
    refine ⟨_, (pss_cons (ps_expr (pe_call GC (hr.mono (by decide)) rfl DC.m DC.F.kp DC.b .nil (L2N.passes_call (L2N.takes_of rfl rfl rfl rfl) (fun _ _ _ _ z => z)) (pa_cons (pv 0) (pa_cons (pv 1) (pa_cons (pv 2) pa_nil)))))
    (pss_cons (ps_asg (pe_call GN (hr.mono (by decide)) rfl DN.m DN.F.kp DN.b .nil pass0 (pa_cons (pv 0) (pa_cons (pv 1) (pa_cons (pv 2) pa_nil)))) (pg_tup rfl (pgs_cons (pg_name (i := 3) scGreat.nd rfl (by first | exact Or.inl rfl | exact Or.inr rfl)) (pgs_cons (pg_name (i := 4) scGreat.nd rfl (by first | exact Or.inl rfl | exact Or.inr rfl)) pgs_nil))))
    (pss_one (ps_ret (pe_lc (g := gName 5) (tt := tYes) (te := (tMeth C "flow" (spFlow C) [] E0 (tVar 4) (tCons (tOp (rI CMul fun i j => .int (i * j)) (tC (.int 2)) (tVar 5)) tNil))) (own := [("at", 5)]) rfl scGreat.nd (pi_range1 rfl T.b_range (pa_cons (pe_callB c_len (by rfl) TL.b_len (by decide +kernel) (pa_cons (pv 0) pa_nil)) pa_nil)) (blkOk_by (N := ["links", "start", "end", "_", "network", "at"]) (sc := defScope sGreat) (own := [("at", 5)]) (by decide +kernel)) (fun _ _ _ _ _ => (pg_name (i := 5) scGreat.nd rfl (by first | exact Or.inl rfl | exact Or.inr rfl))) (fun _ _ _ _ _ => pts_nil) (fun _ _ _ _ _ => (pe_meth (pv 4) T.cl ML.m GL (hr.mono (by decide)) ML.b .nil pass0 (pa_cons (pe_op op_mul pe_int (pv 5)) pa_nil)))))))), ?_⟩
    refine ⟨_, rfl, _, rfl, _, rfl, ll, ls, st, en, rfl, hls, kT, kB, kD, fun hlen hb hse H1 sm1 => ?_⟩
    have hls1 : LsAt K H1 ll ls := by
      obtain ⟨xs, hq, hx⟩ := hls
      exact ⟨xs, hq.elim (fun z => .inl (sm1.seq z)) (fun z => .inr (seqT_same sm1 z)), hx.same sm1⟩
    refine ⟨_, rfl, _, rfl, _, rfl, ll, ls, st, en, rfl, hls1, hse, hlen, fun l hl => (firstBad_ok hb l hl).1, fun H2 t nl p le lr lo outs ends rooms adj found sm2 ht0 ht hnl N G hrl FF => ?_⟩
    refine ⟨t, _, rfl, .inl (.inl ht), rfl, _, _, rfl, _, _, rfl, rfl, ?_⟩
    obtain ⟨xs, hq, hx⟩ := hls1
    have hq2 : SqL K H2 ll xs ∨ SqT K H2 ll xs := hq.elim (fun z => .inl (sm2.seq z)) (fun z => .inr (seqT_same sm2 z))
    refine ⟨_, rfl, _, _, rfl, hq2, _, rfl, by rw [hx.1]; omega, by rw [hx.1]; omega, fun D hD => ?_⟩
    rw [hx.1, Int.toNat_natCast]
    refine lc_range (lo := 0) (n := ls.length) (fun i H3 => Same H2 H3 ∧ H3 D = some (.lst ((List.range i).map fun i => V.int (rmf rooms (2 * i + 1))))) ⟨same_new hD, upd_same⟩ ?_ ?_
    · rintro i H3 hi ⟨s3, hD3⟩
      have N3 := N.same s3
      obtain ⟨dx3, ho3⟩ := N3.ob
      refine ⟨rfl, _, rfl, p, dx3, _, rfl, ho3, nf_no _ _ _ (by decide +kernel) (by decide +kernel) (by decide +kernel), _, rfl, _, _, rfl, rfl, .inl ⟨by decide, by decide⟩, p, le, lr, lo, outs, ends, rooms, adj, 2 * i, rmf rooms (2 * i + 1), ?_, N3, rmf_at (by rw [hrl]; omega), ?_⟩
      · have e : (2 : Int) * (0 + (i : Int)) = ((2 * i : Nat) : Int) := by omega
        show [V.ref p, V.int (2 * (0 + (i : Int)))] = [V.ref p, V.int ((2 * i : Nat) : Int)]
        rw [e]
      · refine ⟨_, hD3, szl (by rw [List.length_map, List.length_range]; omega), same_put s3 hD, ?_⟩
        rw [upd_same, List.range_succ, List.map_append]
        rfl
    · rintro H3 ⟨s3, hD3⟩
      exact k hlen hb hse H3 D rooms found ((sm1.trans sm2).trans s3) ((sm1.trans sm2).free hD) hD3 FF
theorem scLeast : FnScope ["links", "start", "end", "names", "network", "by", "at", "name"] ["links", "start", "end"] (defScope sLeast) := ⟨rfl, rfl, rfl, by decide +kernel, rfl, by decide +kernel, by decide +kernel⟩
theorem ok_least {f fC fN fR : Addr} {fd fdC fdN fdR : FuncData} (F : Fun K "least_side" "least_side" sLeast f fd) (T : TxtN K mg C) (bE : mg "enumerate" = none) (DC : DefAt K mg "check_links" sCheck ["links", "start", "end"] fC fdC) (GC : FnOk P w K mg base (L2N.CX P w) 3 fC fdC ["links", "start", "end"] (spCheck K CT CB CD))
    (DN : DefAt K mg "filled_network" sFilled ["links", "start", "end"] fN fdN) (GN : FnOk P w K mg base CX0 5 fN fdN ["links", "start", "end"] (spFilled K C)) (MR : MethAt K C "reached" "Network.reached" sReached ["self", "start"] fR fdR) (GR : FnOk P w K mg base CX0 2 fR fdR ["self", "start"] (spReached C)) : FnOk P w K mg base (L2N.CX P w) 6 f fd ["links", "start", "end"] (spLeast K CT CB CD) := by
  refine okN F scLeast (fun vs H Q E h => ?_) (fun cdv A outer s H vs Q E hr h => ?_)
  · obtain ⟨ll, ls, s, e, rfl, _⟩ := h
    rfl
  · obtain ⟨ll, ls, st, en, rfl, hls, kT, kB, kD, k⟩ := h
    have hu := hu_of hr
    refine ⟨_, (pss_cons (ps_expr (pe_call GC (hr.mono (by decide)) rfl DC.m DC.F.kp DC.b .nil (L2N.passes_call (L2N.takes_of rfl rfl rfl rfl) (fun _ _ _ _ z => z)) (pa_cons (pv 0) (pa_cons (pv 1) (pa_cons (pv 2) pa_nil)))))
    (pss_cons (ps_asg (pe_call GN (hr.mono (by decide)) rfl DN.m DN.F.kp DN.b .nil pass0 (pa_cons (pv 0) (pa_cons (pv 1) (pa_cons (pv 2) pa_nil)))) (pg_tup rfl (pgs_cons (pg_name (i := 3) scLeast.nd rfl (by first | exact Or.inl rfl | exact Or.inr rfl)) (pgs_cons (pg_name (i := 4) scLeast.nd rfl (by first | exact Or.inl rfl | exact Or.inr rfl)) pgs_nil))))
    (pss_cons (ps_set (i := 5) scLeast.nd rfl (by first | exact Or.inl rfl | exact Or.inr rfl) (pe_meth (pv 4) T.cl MR.m GR (hr.mono (by decide)) MR.b .nil pass0 (pa_cons pe_int pa_nil)))
    (pss_one (ps_ret (pe_lc (g := gTup K 2 (gCons (gName 6) (gCons (gName 7) gNil))) (tt := (tB (tDIn (tVar 6) (tVar 5)))) (te := (tVar 7)) (own := [("at", 6), ("name", 7)]) rfl scLeast.nd (pi_enum (by rfl) bE (pa_cons (pv 3) pa_nil)) (blkOk_by (N := ["links", "start", "end", "names", "network", "by", "at", "name"]) (sc := defScope sLeast) (own := [("at", 6), ("name", 7)]) (by decide +kernel)) (fun _ _ _ _ _ => (pg_tup rfl (pgs_cons (pg_name (i := 6) scLeast.nd rfl (by first | exact Or.inl rfl | exact Or.inr rfl)) (pgs_cons (pg_name (i := 7) scLeast.nd rfl (by first | exact Or.inl rfl | exact Or.inr rfl)) pgs_nil)))) (fun _ _ _ _ _ => (pts_one (pt_cmp (pc_din hu (pv 6) (pv 5))))) (fun _ _ _ _ _ => (pv 7)))))))), ?_⟩
    refine ⟨_, rfl, _, rfl, _, rfl, ll, ls, st, en, rfl, hls, kT, kB, kD, fun hlen hb hse H1 sm1 => ?_⟩
    have hls1 : LsAt K H1 ll ls := by
      obtain ⟨xs, hq, hx⟩ := hls
      exact ⟨xs, hq.elim (fun z => .inl (sm1.seq z)) (fun z => .inr (seqT_same sm1 z)), hx.same sm1⟩
    refine ⟨_, rfl, _, rfl, _, rfl, ll, ls, st, en, rfl, hls1, hse, hlen, fun l hl => (firstBad_ok hb l hl).1, fun H2 t nl p le lr lo outs ends rooms adj found sm2 ht0 ht hnl N G hrl FF => ?_⟩
    refine ⟨t, _, rfl, .inl (.inl ht), rfl, _, _, rfl, _, _, rfl, rfl, ?_⟩
    obtain ⟨dx2, ho2⟩ := N.ob
    have hnn := nodes_len st en ls
    have hn2 : 2 ≤ (nodes ls st en).length := by
      obtain ⟨nr, hpre⟩ := nodes_pre st en ls
      rw [hpre]; simp
    refine ⟨_, rfl, p, dx2, _, rfl, ho2, nf_no _ _ _ (by decide +kernel) (by decide +kernel) (by decide +kernel), p, le, lr, lo, outs, ends, rooms, adj, ls.length, (nodes ls st en).length, aOf (nodes ls st en) ls, bOf (nodes ls st en) ls, 0, rfl, N, G, hrl, by omega, by omega, fun H3 q found' arcs sm3 hq0 hq R => ?_⟩
    have h1 : 1 ∉ found' := fun z => by
      have := R.within (Fl.side found) (by simp [Fl.side, FF.h0]) (fun e he ho ht => by
        simp only [Fl.side, decide_eq_true_eq] at ht ⊢
        exact FF.closed e he ho ht) 1 z
      simp only [Fl.side, decide_eq_true_eq] at this
      exact FF.h1 this
    have FF' := Fl.full_of FF.caps FF.keeps R h1
    have hnl3 := sm3 _ _ hnl
    refine ⟨_, rfl, nl, _, rfl, SqL.of hnl3, fun D hD => ?_⟩
    refine lc_enum (K := K) (a := nl) (xs := (nodes ls st en).map V.str) (fun i H4 => Same H3 H4 ∧ H4 D = some (.lst ((pickN found' 0 ((nodes ls st en).take i)).map V.str)) ∧ i ≤ (nodes ls st en).length) ⟨same_new hD, upd_same, Nat.zero_le _⟩ (fun i H4 _ ⟨s4, _⟩ => SqL.of (s4 _ _ hnl3)) ?_ ?_
    · rintro i x H4 T hxi ⟨s4, hD4, hi⟩ hT
      obtain ⟨y, hy, rfl⟩ : ∃ y, (nodes ls st en)[i]? = some y ∧ x = V.str y := by
        rw [List.getElem?_map] at hxi
        cases q : (nodes ls st en)[i]? with
        | none => rw [q] at hxi; cases hxi
        | some z => rw [q] at hxi; exact ⟨z, rfl, (Option.some.inj hxi).symm⟩
      have hil := (List.getElem?_eq_some_iff.mp hy).1
      have hq4 : upd H4 T (.tup [.int (i : Nat), .str y]) q = some (.dK (pairs found' arcs)) := by
        rw [upd_ne (ne_of_none (s4 _ _ hq) hT)]; exact s4 _ _ hq
      have hD5 : upd H4 T (.tup [.int (i : Nat), .str y]) D = some (.lst ((pickN found' 0 ((nodes ls st en).take i)).map V.str)) := by
        rw [upd_ne (ne_of_none hD4 hT)]; exact hD4
      have sn : pickN found' 0 ((nodes ls st en).take (i + 1)) = pickN found' 0 ((nodes ls st en).take i) ++ if i ∈ found' then [y] else [] := by
        rw [take_snoc hy, pickN_snoc, List.length_take, Nat.min_eq_left (by omega), Nat.zero_add]
      have s5 : Same H3 (upd H4 T (.tup [.int (i : Nat), .str y])) := same_put s4 (s4.free hT)
      refine ⟨T, _, rfl, .inl (.inl upd_same), rfl, _, _, rfl, _, _, rfl, rfl, rfl, _, rfl, _, rfl, q, _, rfl, DGet.k (k := Sum.inl ((i : Nat) : Int)) hq4, _, rfl, ?_⟩
      have hpl : (pickN found' 0 ((nodes ls st en).take i)).length ≤ i := by
        have gen : ∀ (k : Nat) (l : List Str), (pickN found' k l).length ≤ l.length := by
          intro k l
          induction l generalizing k with
          | nil => exact Nat.le_refl _
          | cons a r ih =>
            unfold pickN
            split
            · rw [List.length_cons, List.length_cons]; have := ih (k + 1); omega
            · rw [List.length_cons]; have := ih (k + 1); omega
        have := gen 0 ((nodes ls st en).take i)
        rw [List.length_take] at this
        omega
      by_cases c : i ∈ found'
      · obtain ⟨j, hj⟩ := List.mem_iff_getElem?.mp c
        obtain ⟨ej, hja⟩ : ∃ x, arcs[j]? = some x := ⟨_, List.getElem?_eq_getElem (by rw [R.len]; exact (List.getElem?_eq_some_iff.mp hj).1)⟩
        rw [pairs_some R.nd hj hja]
        refine ⟨_, rfl, _, hD5, szl (by rw [List.length_map]; omega), same_put s5 hD, ?_, by omega⟩
        rw [upd_same, sn, if_pos c, List.map_append]
        rfl
      · rw [pairs_none c]
        refine ⟨s5, ?_, by omega⟩
        rw [sn, if_neg c, List.append_nil]
        exact hD5
    · rintro H4 ⟨s4, hD4, _⟩
      rw [List.length_map, List.take_length] at hD4
      exact k hlen hb hse H4 D rooms found' (((sm1.trans sm2).trans sm3).trans s4) (((sm1.trans sm2).trans sm3).free hD) hD4 FF'
end
end Kx
namespace Kx
open PySem PySem.Spec PyProof.Rows L2
abbrev sMix : Stmt := top 18
abbrev sSame : Stmt := top 19
/-! ### the mixed places -/
def spMix : Sp := fun vs H Q _ => ∃ (p : Addr) (n : Nat) (a : Addr) (ns : List Int), vs = [.ref p, .int n] ∧ PoolA H p a ns ∧ n ≤ 1000 ∧ ∀ H' q (xs : List Nat), PoolA H' p a ns → Keep p H H' → H q = none → H' q = some (.lst (xs.map fun (k : Nat) => V.int (k : Int))) → xs.Perm (List.range n) → Q (.ref q) H'
theorem perm_ins {xs : List Nat} {d k : Nat} (h : xs.Perm (List.range k)) : (xs.take d ++ [k] ++ xs.drop d).Perm (List.range (k + 1)) := by
  have h1 : (xs.take d ++ [k] ++ xs.drop d).Perm (k :: xs) := by
    rw [List.append_assoc]
    refine (List.perm_middle (a := k) (l₁ := xs.take d) (l₂ := xs.drop d)).trans ?_
    rw [List.take_append_drop]
  rw [List.range_succ]
  exact h1.trans ((h.cons k).trans (List.perm_append_singleton k _).symm)
/-- a list or a tuple by place -/
def rIxQ (K : PySem.W.Frag) : R2 := fun x y H Q => ∃ p xs i v, x = .ref p ∧ y = .int i ∧ (SqL K H p xs ∨ SqT K H p xs) ∧ atI xs i = some v ∧ Q v H
theorem ix_seq {X : Cx} : IxR X (rIxQ X.K) := by
  intro value slice pins s σ H x y v u Q I rx ry h hs
  obtain ⟨p, xs, i, z, e1, e2, hq, e3, q⟩ := h
  rcases hq with hq | hq
  · exact ix_list value slice pins s σ H x y v u Q I rx ry ⟨p, xs, i, z, e1, e2, hq, e3, q⟩ hs
  · exact ix_tup value slice pins s σ H x y v u Q I rx ry ⟨p, xs, i, z, e1, e2, hq, e3, q⟩ hs
theorem Keep.put {p q : Addr} {H H1 : Hp} {o : HO} (a : Keep p H H1) (h : H q = none) : Keep p H (L2.upd H1 q o) := fun b u hb e => by rw [L2.upd_ne (ne_of_none e h)]; exact a b u hb e
structure TxtS (mg : Str → Option Value) : Prop where
  b_range : mg "range" = none
  b_isinstance : mg "isinstance" = none
  b_bool : mg "bool" = none
  b_int : mg "int" = none
  b_str : mg "str" = none
  b_tuple : mg "tuple" = none
  b_list : mg "list" = none
  b_len : mg "len" = none
  b_sum : mg "sum" = none
section
variable {P : Program} {w : World} {K : PySem.W.Frag} {mg : Str → Option Value} {base : Heap}
theorem scMix : FnScope ["pool", "count", "places", "k"] ["pool", "count"] (defScope sMix) := ⟨rfl, rfl, rfl, by decide +kernel, rfl, by decide +kernel, by decide +kernel⟩
theorem ok_mix {f fD : Addr} {fd fdD : FuncData} (F : Fun K "_law_mixed_places" "_law_mixed_places" sMix f fd) (T : TxtS mg) (D : DefAt K mg "_law_draw" sDraw ["pool", "bound"] fD fdD) (G : FnOk P w K mg base CX0 1 fD fdD ["pool", "bound"] spDraw) : FnOk P w K mg base CX0 2 f fd ["pool", "count"] spMix := by
  refine F.ok scMix (fun vs H Q E h => ?_) (fun cdv A outer s H vs Q E hr h => ?_)
  · obtain ⟨p, n, a, ns, rfl, _⟩ := h
    rfl
  · obtain ⟨p, n, a, ns, rfl, hP, hn, k⟩ := h
    refine ⟨_, (pss_cons (ps_set (i := 2) scMix.nd rfl (by first | exact Or.inl rfl | exact Or.inr rfl) (pe_lst pa_nil))
    (pss_cons (ps_for PassesOwn.never rfl (pi_range1 rfl T.b_range (pa_cons (pv 1) pa_nil)) (pg_name (i := 3) scMix.nd rfl (by first | exact Or.inl rfl | exact Or.inr rfl))
      (pss_one (ps_expr (pe_bm PySem.F.plainAttrs_list PySem.F.slot_list_insert PySem.F.type_list_insert mt_insert (pv 2) (pa_cons (pe_call G (hr.mono (by decide)) rfl D.m D.F.kp D.b .nil pass0 (pa_cons (pv 0) (pa_cons (pe_op op_add (pv 3) pe_int) pa_nil))) (pa_cons (pv 3) pa_nil))))))
    (pss_one (ps_ret (pv 2))))), ?_⟩
    refine ⟨by decide, fun q hq => ?_⟩
    obtain ⟨hqp, hqa⟩ := hP.ne hq
    refine ⟨_, rfl, _, rfl, by omega, by omega, ?_⟩
    rw [Int.toNat_natCast]
    refine for_range (lo := 0) (n := n) (fun i σ' H' => ∃ (v3 : Option V) (xs : List Nat), σ' = [some (.ref p), some (.int n), some (.ref q), v3] ∧ PoolA H' p a ns ∧ Keep p H H' ∧ H' q = some (.lst (xs.map fun (k : Nat) => V.int (k : Int))) ∧ xs.Perm (List.range i))
      ⟨none, [], rfl, hP.same (same_new hq), same_keep (same_new hq), upd_same, .nil⟩ ?_ ?_
    · rintro i σ' H' hi ⟨v3, xs, rfl, hP', kp, hx, px⟩
      have hxl : xs.length = i := by rw [px.length_eq, List.length_range]
      refine ⟨_, rfl, .inl ⟨rfl, _, SqL.of hx⟩, _, rfl, _, rfl, _, _, rfl, rfl, p, (0 + (i : Int)) + 1, a, ns, rfl, hP', by omega, fun H2 d hP2 kp2 h0 hd => ?_⟩
      have hx2 := kp2 q _ hqp hx
      refine ⟨_, rfl, q, _, d, _, rfl, rfl, hx2, szl (by rw [List.length_map]; omega), h0, by omega, ?_⟩
      refine ⟨_, xs.take d.toNat ++ [i] ++ xs.drop d.toNat, rfl, hP2.keep Keep.refl.upd hqp hqa, (kp.trans kp2).put hq, ?_, perm_ins px⟩
      rw [upd_same, List.map_append, List.map_append, List.map_take, List.map_drop]
      show _ = some (HO.lst (_ ++ [V.int (i : Int)] ++ _))
      rw [show (0 : Int) + (i : Int) = i by omega]
    · rintro σ' H' ⟨v3, xs, rfl, hP', kp, hx, px⟩
      exact ⟨_, rfl, k _ q xs hP' kp hq hx px⟩
/-! ### _law_same: alike data -/
mutual
inductive Alike (K : PySem.W.Frag) (H : Hp) : Nat → V → V → Prop
  | non {n : Nat} : Alike K H n .non .non
  | bl {n : Nat} (b : Bool) : Alike K H n (.bl b) (.bl b)
  | int {n : Nat} (i : Int) : Alike K H n (.int i) (.int i)
  | str {n : Nat} (x : Str) : Alike K H n (.str x) (.str x)
  | lst {n : Nat} {a b : Addr} {xs ys : List V} : SqL K H a xs → SqL K H b ys → xs.length ≤ 100000 → AlikeAll K H n xs ys → Alike K H (n + 1) (.ref a) (.ref b)
  | tup {n : Nat} {a b : Addr} {xs ys : List V} : SqT K H a xs → SqT K H b ys → xs.length ≤ 100000 → AlikeAll K H n xs ys → Alike K H (n + 1) (.ref a) (.ref b)
inductive AlikeAll (K : PySem.W.Frag) (H : Hp) : Nat → List V → List V → Prop
  | nil {n : Nat} : AlikeAll K H n [] []
  | cons {n : Nat} {x y : V} {xs ys : List V} : Alike K H n x y → AlikeAll K H n xs ys → AlikeAll K H n (x :: xs) (y :: ys)
end
theorem AlikeAll.len {H : Hp} : ∀ {n : Nat} {xs ys : List V}, AlikeAll K H n xs ys → xs.length = ys.length
  | _, _, _, .nil => rfl
  | _, _, _, .cons _ h => congrArg (· + 1) h.len
theorem AlikeAll.at {H : Hp} : ∀ {n : Nat} {xs ys : List V} {i : Nat}, AlikeAll K H n xs ys → i < ys.length → ∃ x y, xs[i]? = some x ∧ ys[i]? = some y ∧ Alike K H n x y
  | _, _, _, _, .nil, h => absurd h (Nat.not_lt_zero _)
  | _, _, _, 0, .cons h _, _ => ⟨_, _, rfl, rfl, h⟩
  | _, _, _, i + 1, .cons _ h, hi => h.at (i := i) (Nat.lt_of_succ_lt_succ hi)
theorem alike_strs {H : Hp} {n : Nat} : ∀ ss : List Str, AlikeAll K H n (ss.map V.str) (ss.map V.str)
  | [] => .nil
  | s :: r => .cons (.str s) (alike_strs r)
theorem alike_ints {H : Hp} {n : Nat} : ∀ ss : List Int, AlikeAll K H n (ss.map V.int) (ss.map V.int)
  | [] => .nil
  | s :: r => .cons (.int s) (alike_ints r)
def spSame (K : PySem.W.Frag) (n : Nat) : Sp := fun vs H Q _ => ∃ m x y, n = m + 1 ∧ vs = [x, y] ∧ Alike K H m x y ∧ Q (.bl true) H
theorem ty_l {H : Hp} {a : Addr} {xs : List V} (h : SqL K H a xs) : TyX K H (.ref a) (.type "list") := by
  rcases h with (h | ⟨o, h⟩) | ⟨o, its, n, h1, h2, _⟩
  · exact .base (.lst h)
  · exact .base (.frz h)
  · exact .kList h1 h2
theorem ty_t {H : Hp} {a : Addr} {xs : List V} (h : SqT K H a xs) : TyX K H (.ref a) (.type "tuple") := by
  rcases h with (h | ⟨o, h⟩) | ⟨o, its, n, h1, h2, _⟩
  · exact .base (.tup h)
  · exact .fTuple h
  · exact .kTuple h1 h2
theorem scSame : FnScope ["actual", "due", "k"] ["actual", "due"] (defScope sSame) := ⟨rfl, rfl, rfl, by decide +kernel, rfl, by decide +kernel, by decide +kernel⟩
example : PySem.W.kitOne K (.type "list") (.type "bool") = some false := by rfl
theorem ok_same {f : Addr} {fd : FuncData} (F : Fun K "_law_same" "_law_same" sSame f fd) (T : TxtS mg) (D : DefAt K mg "_law_same" sSame ["actual", "due"] f fd) : ∀ n : Nat, FnOk P w K mg base CX0 n f fd ["actual", "due"] (spSame K n) := by
  intro n
  induction n with
  | zero =>
    refine ⟨fun vs H Q E h => ?_, fun A outer s H args us vs Q E hr e0 hb r h => ?_⟩ <;> (obtain ⟨m, x, y, e, _⟩ := h; omega)
  | succ n ih =>
  refine F.ok scSame (fun vs H Q E h => ?_) (fun cdv A outer s H vs Q E hr h => ?_)
  · obtain ⟨m, x, y, e, rfl, _⟩ := h
    rfl
  · obtain ⟨m, x, y, e, rfl, hA, k⟩ := h
    have e' : n = m := Nat.succ.inj e
    subst e'
    refine ⟨_, (pss_cons (ps_if (pt_cmpR o_isN (pv 1) pe_non (nomark _)) (pss_one (ps_ret (pe_cmpR o_isN (pv 0) pe_non (nomark _)))) pss_nil)
    (pss_cons (ps_if (PW.pt (pw_or (pt_val (pe_callB call_isi (by rfl) T.b_isinstance (by decide +kernel) (pa_cons (pv 1) (pa_cons (pe_bltn (by rfl) T.b_bool (by decide +kernel) (rel_ty "bool")) pa_nil)))) (pw_or1 (pt_val (pe_callB call_isi (by rfl) T.b_isinstance (by decide +kernel) (pa_cons (pv 0) (pa_cons (pe_bltn (by rfl) T.b_bool (by decide +kernel) (rel_ty "bool")) pa_nil))))))) (pss_one (ps_ret (pe_and (pe_callB call_isi (by rfl) T.b_isinstance (by decide +kernel) (pa_cons (pv 1) (pa_cons (pe_bltn (by rfl) T.b_bool (by decide +kernel) (rel_ty "bool")) pa_nil))) (pe_and (pe_callB call_isi (by rfl) T.b_isinstance (by decide +kernel) (pa_cons (pv 0) (pa_cons (pe_bltn (by rfl) T.b_bool (by decide +kernel) (rel_ty "bool")) pa_nil))) (pe_one (pe_cmpR op_eq (pv 0) (pv 1) (nomark _))))))) pss_nil)
    (pss_cons (ps_if (pt_val (pe_callB call_isi (by rfl) T.b_isinstance (by decide +kernel) (pa_cons (pv 1) (pa_cons (pe_bltn (by rfl) T.b_int (by decide +kernel) (rel_ty "int")) pa_nil)))) (pss_one (ps_ret (pe_and (pe_callB call_isi (by rfl) T.b_isinstance (by decide +kernel) (pa_cons (pv 0) (pa_cons (pe_bltn (by rfl) T.b_int (by decide +kernel) (rel_ty "int")) pa_nil))) (pe_one (pe_cmpR op_eq (pv 0) (pv 1) (nomark _)))))) pss_nil)
    (pss_cons (ps_if (pt_val (pe_callB call_isi (by rfl) T.b_isinstance (by decide +kernel) (pa_cons (pv 1) (pa_cons (pe_bltn (by rfl) T.b_str (by decide +kernel) (rel_ty "str")) pa_nil)))) (pss_one (ps_ret (pe_and (pe_callB call_isi (by rfl) T.b_isinstance (by decide +kernel) (pa_cons (pv 0) (pa_cons (pe_bltn (by rfl) T.b_str (by decide +kernel) (rel_ty "str")) pa_nil))) (pe_one (pe_cmpR op_eq (pv 0) (pv 1) (nomark _)))))) pss_nil)
    (pss_cons (ps_if (PW.pt (pw_or (pt_cmpR op_ne (pe_callB call_isi (by rfl) T.b_isinstance (by decide +kernel) (pa_cons (pv 1) (pa_cons (pe_bltn (by rfl) T.b_tuple (by decide +kernel) (rel_ty "tuple")) pa_nil))) (pe_callB call_isi (by rfl) T.b_isinstance (by decide +kernel) (pa_cons (pv 0) (pa_cons (pe_bltn (by rfl) T.b_tuple (by decide +kernel) (rel_ty "tuple")) pa_nil))) (nomark _)) (pw_or1 (pt_cmpR op_ne (pe_callB call_isi (by rfl) T.b_isinstance (by decide +kernel) (pa_cons (pv 1) (pa_cons (pe_bltn (by rfl) T.b_list (by decide +kernel) (rel_ty "list")) pa_nil))) (pe_callB call_isi (by rfl) T.b_isinstance (by decide +kernel) (pa_cons (pv 0) (pa_cons (pe_bltn (by rfl) T.b_list (by decide +kernel) (rel_ty "list")) pa_nil))) (nomark _))))) (pss_one (ps_ret pe_bl)) pss_nil)
    (pss_cons (ps_if (pt_cmpR op_ne (pe_callB c_len (by rfl) T.b_len (by decide +kernel) (pa_cons (pv 0) pa_nil)) (pe_callB c_len (by rfl) T.b_len (by decide +kernel) (pa_cons (pv 1) pa_nil)) (nomark _)) (pss_one (ps_ret pe_bl)) pss_nil)
    (pss_cons (ps_for PassesOwn.never rfl (pi_range1 rfl T.b_range (pa_cons (pe_callB c_len (by rfl) T.b_len (by decide +kernel) (pa_cons (pv 1) pa_nil)) pa_nil)) (pg_name (i := 2) scSame.nd rfl (by first | exact Or.inl rfl | exact Or.inr rfl))
      (pss_one (ps_if (pt_not (pt_val (pe_call ih hr rfl D.m D.F.kp D.b .nil pass0 (pa_cons (pe_ix ix_seq (pv 0) (pv 2) (fun _ _ => rfl)) (pa_cons (pe_ix ix_seq (pv 1) (pv 2) (fun _ _ => rfl)) pa_nil))))) (pss_one (ps_ret pe_bl)) pss_nil)))
    (pss_one (ps_ret pe_bl))))))))), ?_⟩
    cases hA with
    | non => exact ⟨_, rfl, rfl, _, rfl, _, rfl, rfl, k⟩
    | bl b => exact ⟨_, rfl, rfl, _, rfl, _, rfl, _, _, _, _, _, rfl, .ty _, (.base (.bl b)), rfl, _, rfl, _, rfl, _, _, _, _, _, rfl, .ty _, (.base (.bl b)), rfl, _, rfl, _, rfl, _, _, _, _, _, rfl, .ty _, (.base (.bl b)), rfl, _, rfl, _, rfl, _, rfl, rfl, by rw [decide_eq_true rfl]; exact k⟩
    | int i => exact ⟨_, rfl, rfl, _, rfl, _, rfl, _, _, _, _, _, rfl, .ty _, (.base (.int i)), rfl, _, rfl, _, rfl, _, _, _, _, _, rfl, .ty _, (.base (.int i)), rfl, _, rfl, _, rfl, _, _, _, _, _, rfl, .ty _, (.base (.int i)), rfl, _, rfl, _, rfl, _, _, _, _, _, rfl, .ty _, (.base (.int i)), rfl, _, rfl, _, rfl, _, rfl, rfl, by rw [decide_eq_true rfl]; exact k⟩
    | str z => exact ⟨_, rfl, rfl, _, rfl, _, rfl, _, _, _, _, _, rfl, .ty _, (.base (.str z)), rfl, _, rfl, _, rfl, _, _, _, _, _, rfl, .ty _, (.base (.str z)), rfl, _, rfl, _, rfl, _, _, _, _, _, rfl, .ty _, (.base (.str z)), rfl, _, rfl, _, rfl, _, _, _, _, _, rfl, .ty _, (.base (.str z)), rfl, _, rfl, _, rfl, _, _, _, _, _, rfl, .ty _, (.base (.str z)), rfl, _, rfl, _, rfl, _, rfl, rfl, by rw [decide_eq_true rfl]; exact k⟩
    | @lst n a b xs ys ha hb hl hh =>
      have hL := hh.len
      refine ⟨_, rfl, rfl, _, rfl, _, rfl, _, _, _, _, _, rfl, .ty _, (ty_l hb), rfl, _, rfl, _, rfl, _, _, _, _, _, rfl, .ty _, (ty_l ha), rfl, _, rfl, _, rfl, _, _, _, _, _, rfl, .ty _, (ty_l hb), rfl, _, rfl, _, rfl, _, _, _, _, _, rfl, .ty _, (ty_l hb), rfl, _, rfl, _, rfl, _, _, _, _, _, rfl, .ty _, (ty_l hb), rfl, _, rfl, _, _, _, _, _, rfl, .ty _, (ty_l ha), rfl, rfl, _, rfl, _, rfl, _, _, _, _, _, rfl, .ty _, (ty_l hb), rfl, _, rfl, _, _, _, _, _, rfl, .ty _, (ty_l ha), rfl, rfl, _, rfl, _, rfl, _, _, rfl, .inl ha, _, rfl, _, _, rfl, .inl hb, rfl, _, rfl, ?_⟩
      rw [hL, decide_eq_true rfl]
      refine ⟨_, rfl, _, _, rfl, .inl hb, _, rfl, by omega, by omega, ?_⟩
      rw [Int.toNat_natCast]
      refine for_range (lo := 0) (n := ys.length) (fun i σ' H' => ∃ v2 : Option V, σ' = [some (.ref a), some (.ref b), v2] ∧ H' = H) ⟨none, rfl, rfl⟩ ?_ ?_
      · rintro i σ' H' hi ⟨v2, rfl, rfl⟩
        obtain ⟨x, y, h1, h2, h3⟩ := hh.at hi
        refine ⟨_, rfl, _, rfl, _, _, _, _, rfl, rfl, .inl ha, at_of (by omega) h1, _, rfl, _, rfl, _, _, _, _, rfl, rfl, .inl hb, at_of (by omega) h2, n, x, y, rfl, rfl, h3, _, rfl, ?_⟩
        exact ⟨_, rfl, rfl⟩
      · rintro σ' H' ⟨v2, rfl, rfl⟩
        exact k
    | @tup n a b xs ys ha hb hl hh =>
      have hL := hh.len
      refine ⟨_, rfl, rfl, _, rfl, _, rfl, _, _, _, _, _, rfl, .ty _, (ty_t hb), rfl, _, rfl, _, rfl, _, _, _, _, _, rfl, .ty _, (ty_t ha), rfl, _, rfl, _, rfl, _, _, _, _, _, rfl, .ty _, (ty_t hb), rfl, _, rfl, _, rfl, _, _, _, _, _, rfl, .ty _, (ty_t hb), rfl, _, rfl, _, rfl, _, _, _, _, _, rfl, .ty _, (ty_t hb), rfl, _, rfl, _, _, _, _, _, rfl, .ty _, (ty_t ha), rfl, rfl, _, rfl, _, rfl, _, _, _, _, _, rfl, .ty _, (ty_t hb), rfl, _, rfl, _, _, _, _, _, rfl, .ty _, (ty_t ha), rfl, rfl, _, rfl, _, rfl, _, _, rfl, .inr ha, _, rfl, _, _, rfl, .inr hb, rfl, _, rfl, ?_⟩
      rw [hL, decide_eq_true rfl]
      refine ⟨_, rfl, _, _, rfl, .inr hb, _, rfl, by omega, by omega, ?_⟩
      rw [Int.toNat_natCast]
      refine for_range (lo := 0) (n := ys.length) (fun i σ' H' => ∃ v2 : Option V, σ' = [some (.ref a), some (.ref b), v2] ∧ H' = H) ⟨none, rfl, rfl⟩ ?_ ?_
      · rintro i σ' H' hi ⟨v2, rfl, rfl⟩
        obtain ⟨x, y, h1, h2, h3⟩ := hh.at hi
        refine ⟨_, rfl, _, rfl, _, _, _, _, rfl, rfl, .inr ha, at_of (by omega) h1, _, rfl, _, rfl, _, _, _, _, rfl, rfl, .inr hb, at_of (by omega) h2, n, x, y, rfl, rfl, h3, _, rfl, ?_⟩
        exact ⟨_, rfl, rfl⟩
      · rintro σ' H' ⟨v2, rfl, rfl⟩
        exact k
end
end Kx
namespace Kx
open PySem PySem.Spec PyProof.Rows L2
abbrev sWorth : Stmt := top 21
abbrev sRoom : Stmt := top 22
abbrev sKnown : Stmt := top 23
def LlAt (K : PySem.W.Frag) (H : Hp) (a : Addr) (ls : List Lk) : Prop := ∃ xs, SqL K H a xs ∧ LksAt K H xs ls
theorem LlAt.same {K : PySem.W.Frag} {H H' : Hp} {a : Addr} {ls : List Lk} (h : LlAt K H a ls) (s : Same H H') : LlAt K H' a ls := by
  obtain ⟨xs, h1, h2⟩ := h
  exact ⟨xs, s.seq h1, h2.same s⟩
theorem LlAt.ls {K : PySem.W.Frag} {H : Hp} {a : Addr} {ls : List Lk} (h : LlAt K H a ls) : LsAt K H a ls := by
  obtain ⟨xs, h1, h2⟩ := h
  exact ⟨xs, .inl h1, h2⟩
theorem getD_of {ls : List Lk} {i : Nat} {l : Lk} (h : ls[i]? = some l) : ls.getD i dL = l := by rw [List.getD_eq_getElem?_getD, h]; rfl
/-- the picked values' list, and its sum -/
def pickL (c : Nat → Bool) (f : Nat → Int) (i : Nat) : List Int := (List.range i).filterMap fun k => if c k = true then some (f k) else none
theorem pickL_succ (c : Nat → Bool) (f : Nat → Int) (i : Nat) : pickL c f (i + 1) = pickL c f i ++ if c i = true then [f i] else [] := by
  unfold pickL
  rw [List.range_succ, List.filterMap_append]
  congr 1
  show List.filterMap _ [i] = _
  cases h : c i
  · rw [List.filterMap_cons_none (by rw [h]; rfl)]; rfl
  · rw [List.filterMap_cons_some (b := f i) (by rw [h]; rfl)]; rfl
theorem pickL_len (c : Nat → Bool) (f : Nat → Int) (i : Nat) : (pickL c f i).length ≤ i := by
  unfold pickL
  refine Nat.le_trans (List.length_filterMap_le _ _) ?_
  rw [List.length_range]; exact Nat.le_refl _
theorem pickL_sum (c : Nat → Bool) (f : Nat → Int) (i : Nat) : (pickL c f i).sum = Fl.sm i fun k => if c k = true then f k else 0 := by
  induction i with
  | zero => rfl
  | succ i ih =>
    rw [pickL_succ, List.sum_append, ih]
    show _ = Fl.sm i _ + (if c i = true then f i else 0)
    cases h : c i <;> simp
def isA (ls : List Lk) (x : Str) (k : Nat) : Bool := decide ((ls.getD k dL).1 = x)
def isB (ls : List Lk) (x : Str) (k : Nat) : Bool := decide ((ls.getD k dL).2.1 = x)
def wOf (ls : List Lk) (f : Nat → Int) (x : Str) : Int := (Fl.sm ls.length fun k => if isA ls x k = true then f k else 0) - Fl.sm ls.length fun k => if isB ls x k = true then f k else 0
def outS (ls : List Lk) (S : List Str) (k : Nat) : Bool := decide ((ls.getD k dL).1 ∈ S) && !decide ((ls.getD k dL).2.1 ∈ S)
def roomS (ls : List Lk) (S : List Str) : Int := Fl.sm ls.length fun k => if outS ls S k = true then rOf ls k else 0
def addK (e : Str) (ns : List Str) (x : Str) : List Str := if x ∉ ns ∧ x ≠ e then ns ++ [x] else ns
def known (ls : List Lk) (s e : Str) : List Str := ls.foldl (fun ns l => addK e (addK e ns l.1) l.2.1) [s]
theorem known_snoc (ls : List Lk) (l : Lk) (s e : Str) : known (ls ++ [l]) s e = addK e (addK e (known ls s e) l.1) l.2.1 := by unfold known; rw [List.foldl_append]; rfl
theorem addK_len (e : Str) (ns : List Str) (x : Str) : (addK e ns x).length ≤ ns.length + 1 := by
  unfold addK; split
  · rw [List.length_append]; exact Nat.le_refl _
  · omega
theorem known_len (s e : Str) : ∀ ls : List Lk, (known ls s e).length ≤ 1 + 2 * ls.length := by
  have h : ∀ (ls : List Lk) (ns : List Str), (ls.foldl (fun ns l => addK e (addK e ns l.1) l.2.1) ns).length ≤ ns.length + 2 * ls.length := by
    intro ls
    induction ls with
    | nil => intro ns; exact Nat.le_refl _
    | cons l r ih =>
      intro ns
      have h1 := ih (addK e (addK e ns l.1) l.2.1)
      have h2 := addK_len e (addK e ns l.1) l.2.1
      have h3 := addK_len e ns l.1
      rw [List.length_cons]
      show (List.foldl _ (addK e (addK e ns l.1) l.2.1) r).length ≤ _
      omega
  intro ls
  exact h ls [s]
/-- the known names are the nodes but the end -/
theorem known_nodes {s e : Str} (hse : s ≠ e) (ls : List Lk) : known ls s e = (nodes ls s e).filter fun x => decide (x ≠ e) := by
  have one : ∀ (ns : List Str) (x : Str), e ∈ ns → addK e (ns.filter fun x => decide (x ≠ e)) x = (addN ns x).filter fun x => decide (x ≠ e) := by
    intro ns x he
    unfold addK addN
    by_cases c : x ∈ ns
    · rw [if_pos c, if_neg (fun z => z.1 (List.mem_filter.mpr ⟨c, decide_eq_true z.2⟩))]
    · have hx : x ≠ e := fun z => c (z ▸ he)
      rw [if_neg c, if_pos ⟨fun z => c (List.mem_filter.mp z).1, hx⟩, List.filter_append]
      simp [hx]
  have h : ∀ (ls : List Lk) (ns : List Str), e ∈ ns → ls.foldl (fun ns l => addK e (addK e ns l.1) l.2.1) (ns.filter fun x => decide (x ≠ e)) = (ls.foldl (fun ns l => addN (addN ns l.1) l.2.1) ns).filter fun x => decide (x ≠ e) := by
    intro ls
    induction ls with
    | nil => intro ns _; rfl
    | cons l r ih =>
      intro ns he
      show List.foldl _ (addK e (addK e _ l.1) l.2.1) r = _
      rw [one ns _ he, one _ _ (addN_sub he)]
      exact ih _ (addN_sub (addN_sub he))
  have := h ls [s, e] (by simp)
  unfold known nodes
  rw [← this]
  congr 1
  simp [hse]
def spWorth (K : PySem.W.Frag) : Sp := fun vs H Q _ => ∃ (ll fl : Addr) (ls : List Lk) (f : Nat → Int) (x : Str), vs = [.ref ll, .ref fl, .str x] ∧ LlAt K H ll ls ∧ ls.length ≤ 400 ∧ SqL K H fl ((List.range ls.length).map fun i => V.int (f i)) ∧ ∀ H', Same H H' → Q (.int (wOf ls f x)) H'
def spRoom (K : PySem.W.Frag) : Sp := fun vs H Q _ => ∃ (ll sl : Addr) (ls : List Lk) (S : List Str), vs = [.ref ll, .ref sl] ∧ LlAt K H ll ls ∧ ls.length ≤ 400 ∧ SqL K H sl (S.map V.str) ∧ ∀ H', Same H H' → Q (.int (roomS ls S)) H'
def spKnown (K : PySem.W.Frag) : Sp := fun vs H Q _ => ∃ (ll : Addr) (ls : List Lk) (s e : Str), vs = [.ref ll, .str s, .str e] ∧ LlAt K H ll ls ∧ ls.length ≤ 400 ∧ ∀ H' q, Same H H' → H q = none → H' q = some (.lst ((known ls s e).map V.str)) → Q (.ref q) H'
section
variable {P : Program} {w : World} {K : PySem.W.Frag} {mg : Str → Option Value} {base : Heap}
theorem scWorth : FnScope ["links", "flow", "name", "out", "k"] ["links", "flow", "name"] (defScope sWorth) := ⟨rfl, rfl, rfl, by decide +kernel, rfl, by decide +kernel, by decide +kernel⟩
theorem ok_worth {f : Addr} {fd : FuncData} (F : Fun K "_law_worth" "_law_worth" sWorth f fd) (T : TxtS mg) : FnOk P w K mg base CX0 1 f fd ["links", "flow", "name"] (spWorth K) := by
  refine F.ok scWorth (fun vs H Q E h => ?_) (fun cdv A outer s H vs Q E hr h => ?_)
  · obtain ⟨ll, fl, ls, f, x, rfl, _⟩ := h
    rfl
  · obtain ⟨ll, fl, ls, f, x, rfl, hls, hn, hf, k⟩ := h
    refine ⟨_, (pss_cons (ps_set (i := 3) scWorth.nd rfl (by first | exact Or.inl rfl | exact Or.inr rfl) (pe_callB (cr_sum rfl) (by rfl) T.b_sum (by decide +kernel) (pa_cons (pe_lc (g := gName 4) (tt := (tTest (tOp rEq (tOp (rIxQ K) (tOp (rIxQ K) (tVar 0) (tVar 4)) (tC (.int 0))) (tVar 2)))) (te := (tOp (rIxQ K) (tVar 1) (tVar 4))) (own := [("k", 4)]) rfl scWorth.nd (pi_range1 rfl T.b_range (pa_cons (pe_callB c_len (by rfl) T.b_len (by decide +kernel) (pa_cons (pv 0) pa_nil)) pa_nil)) (blkOk_by (N := ["links", "flow", "name", "out", "k"]) (sc := defScope sWorth) (own := [("k", 4)]) (by decide +kernel)) (fun _ _ _ _ _ => (pg_name (i := 4) scWorth.nd rfl (by first | exact Or.inl rfl | exact Or.inr rfl))) (fun _ _ _ _ _ => (pts_one (pt_cmpR op_eq (pe_ix ix_seq (pe_ix ix_seq (pv 0) (pv 4) (fun _ _ => rfl)) pe_int (fun _ _ => rfl)) (pv 2) (nomark _)))) (fun _ _ _ _ _ => (pe_ix ix_seq (pv 1) (pv 4) (fun _ _ => rfl)))) pa_nil)))
    (pss_one (ps_ret (pe_op op_sub (pv 3) (pe_callB (cr_sum rfl) (by rfl) T.b_sum (by decide +kernel) (pa_cons (pe_lc (g := gName 4) (tt := (tTest (tOp rEq (tOp (rIxQ K) (tOp (rIxQ K) (tVar 0) (tVar 4)) (tC (.int 1))) (tVar 2)))) (te := (tOp (rIxQ K) (tVar 1) (tVar 4))) (own := [("k", 4)]) rfl scWorth.nd (pi_range1 rfl T.b_range (pa_cons (pe_callB c_len (by rfl) T.b_len (by decide +kernel) (pa_cons (pv 0) pa_nil)) pa_nil)) (blkOk_by (N := ["links", "flow", "name", "out", "k"]) (sc := defScope sWorth) (own := [("k", 4)]) (by decide +kernel)) (fun _ _ _ _ _ => (pg_name (i := 4) scWorth.nd rfl (by first | exact Or.inl rfl | exact Or.inr rfl))) (fun _ _ _ _ _ => (pts_one (pt_cmpR op_eq (pe_ix ix_seq (pe_ix ix_seq (pv 0) (pv 4) (fun _ _ => rfl)) pe_int (fun _ _ => rfl)) (pv 2) (nomark _)))) (fun _ _ _ _ _ => (pe_ix ix_seq (pv 1) (pv 4) (fun _ _ => rfl)))) pa_nil)))))), ?_⟩
    obtain ⟨xs, hxs, hx⟩ := hls
    have hL : xs.length = ls.length := hx.1
    have fat : ∀ i, i < ls.length → ((List.range ls.length).map fun i => V.int (f i))[i]? = some (.int (f i)) := fun i hi => by
      rw [List.getElem?_map, List.getElem?_range hi]; rfl
    refine ⟨_, rfl, _, _, rfl, .inl hxs, _, rfl, by omega, by omega, fun D hD => ?_⟩
    rw [hL, Int.toNat_natCast]
    refine lc_range (lo := 0) (n := ls.length) (fun i H3 => Same H H3 ∧ H3 D = some (.lst ((pickL (isA ls x) f i).map V.int))) ⟨same_new hD, upd_same⟩ ?_ ?_
    · rintro i H3 hi ⟨s3, hD3⟩
      obtain ⟨l, hl⟩ : ∃ l, ls[i]? = some l := ⟨_, List.getElem?_eq_getElem hi⟩
      obtain ⟨t, ht, hT⟩ := hx.2 i l hl
      refine ⟨rfl, _, rfl, _, rfl, _, _, _, _, rfl, rfl, .inl (s3.seq hxs), at_of (by omega) ht, _, _, _, _, rfl, rfl, .inr (seqT_same s3 hT), rfl, _, rfl, rfl, _, rfl, ?_⟩
      have e1 : ls.getD i dL = l := getD_of hl
      have e2 : isA ls x i = decide (V.str l.1 = V.str x) := by unfold isA; rw [e1]; simp
      have hpl := pickL_len (isA ls x) f i
      refine if_b (fun c => ?_) (fun c => ?_)
      · refine ⟨_, rfl, _, rfl, _, _, _, _, rfl, rfl, .inl (s3.seq hf), at_of (by omega) (fat i hi), _, hD3, szl (by rw [List.length_map]; omega), same_put s3 hD, ?_⟩
        rw [upd_same, pickL_succ, e2, c, List.map_append]; rfl
      · refine ⟨s3, ?_⟩
        rw [pickL_succ, e2, c, hD3]; simp
    · rintro H3 ⟨s3, hD3⟩
      refine ⟨D, _, rfl, SqL.of hD3, ?_⟩
      rw [pickL_sum]
      refine ⟨_, rfl, _, rfl, _, _, rfl, .inl (s3.seq hxs), _, rfl, by omega, by omega, fun D2 hD2 => ?_⟩
      rw [hL, Int.toNat_natCast]
      refine lc_range (lo := 0) (n := ls.length) (fun i H4 => Same H3 H4 ∧ H4 D2 = some (.lst ((pickL (isB ls x) f i).map V.int))) ⟨same_new hD2, upd_same⟩ ?_ ?_
      · rintro i H4 hi ⟨s4, hD4⟩
        obtain ⟨l, hl⟩ : ∃ l, ls[i]? = some l := ⟨_, List.getElem?_eq_getElem hi⟩
        obtain ⟨t, ht, hT⟩ := hx.2 i l hl
        have s5 := s3.trans s4
        refine ⟨rfl, _, rfl, _, rfl, _, _, _, _, rfl, rfl, .inl (s5.seq hxs), at_of (by omega) ht, _, _, _, _, rfl, rfl, .inr (seqT_same s5 hT), rfl, _, rfl, rfl, _, rfl, ?_⟩
        have e1 : ls.getD i dL = l := getD_of hl
        have e2 : isB ls x i = decide (V.str l.2.1 = V.str x) := by unfold isB; rw [e1]; simp
        have hpl := pickL_len (isB ls x) f i
        refine if_b (fun c => ?_) (fun c => ?_)
        · refine ⟨_, rfl, _, rfl, _, _, _, _, rfl, rfl, .inl (s5.seq hf), at_of (by omega) (fat i hi), _, hD4, szl (by rw [List.length_map]; omega), same_put s4 hD2, ?_⟩
          rw [upd_same, pickL_succ, e2, c, List.map_append]; rfl
        · refine ⟨s4, ?_⟩
          rw [pickL_succ, e2, c, hD4]; simp
      · rintro H4 ⟨s4, hD4⟩
        refine ⟨D2, _, rfl, SqL.of hD4, ?_⟩
        rw [pickL_sum]
        exact ⟨_, _, rfl, rfl, k _ (s3.trans s4)⟩
theorem scRoom : FnScope ["links", "side", "link"] ["links", "side"] (defScope sRoom) := ⟨rfl, rfl, rfl, by decide +kernel, rfl, by decide +kernel, by decide +kernel⟩
theorem ok_room {f : Addr} {fd : FuncData} (F : Fun K "_law_room" "_law_room" sRoom f fd) (T : TxtS mg) : FnOk P w K mg base CX0 1 f fd ["links", "side"] (spRoom K) := by
  refine F.ok scRoom (fun vs H Q E h => ?_) (fun cdv A outer s H vs Q E hr h => ?_)
  · obtain ⟨ll, sl, ls, S, rfl, _⟩ := h
    rfl
  · obtain ⟨ll, sl, ls, S, rfl, hls, hn, hS, k⟩ := h
    refine ⟨_, (pss_one (ps_ret (pe_callB (cr_sum rfl) (by rfl) T.b_sum (by decide +kernel) (pa_cons (pe_lc (g := gName 2) (tt := (tAnd (tTest (tOp (rIn K false) (tOp (rIxQ K) (tVar 2) (tC (.int 0))) (tVar 1))) (tTest (tOp (rIn K true) (tOp (rIxQ K) (tVar 2) (tC (.int 1))) (tVar 1))))) (te := (tOp (rIxQ K) (tVar 2) (tC (.int 2)))) (own := [("link", 2)]) rfl scRoom.nd (pi_list (pv 0)) (blkOk_by (N := ["links", "side", "link"]) (sc := defScope sRoom) (own := [("link", 2)]) (by decide +kernel)) (fun _ _ _ _ _ => (pg_name (i := 2) scRoom.nd rfl (by first | exact Or.inl rfl | exact Or.inr rfl))) (fun _ _ _ _ _ => (pts_one (PW.pt (pw_and (pt_cmpR op_in_seq (pe_ix ix_seq (pv 2) pe_int (fun _ _ => rfl)) (pv 1) rfl) (pw_and1 (pt_cmpR op_notIn_seq (pe_ix ix_seq (pv 2) pe_int (fun _ _ => rfl)) (pv 1) rfl)))))) (fun _ _ _ _ _ => (pe_ix ix_seq (pv 2) pe_int (fun _ _ => rfl)))) pa_nil)))), ?_⟩
    obtain ⟨xs, hxs, hx⟩ := hls
    have hL : xs.length = ls.length := hx.1
    refine ⟨_, rfl, ll, rfl, ⟨_, hxs⟩, fun D hD => ?_⟩
    refine lc_list (K := K) (a := ll) (xs := xs) (fun i H3 => Same H H3 ∧ H3 D = some (.lst ((pickL (outS ls S) (rOf ls) i).map V.int))) ⟨same_new hD, upd_same⟩ (fun i H3 _ ⟨s3, _⟩ => s3.seq hxs) ?_ ?_
    · rintro i v H3 hv ⟨s3, hD3⟩
      obtain ⟨l, t, hl, rfl, hT⟩ := hx.at hv
      have e1 : ls.getD i dL = l := getD_of hl
      have hT3 := seqT_same s3 hT
      refine ⟨rfl, _, rfl, _, _, _, _, rfl, rfl, .inr hT3, rfl, _, rfl, sl, _, rfl, .inl (s3.seq hS), rfl, flat_strs _, _, rfl, ?_⟩
      have e0 : (if false = true then !inV (V.str l.1) (S.map V.str) else inV (V.str l.1) (S.map V.str)) = decide (l.1 ∈ S) := by rw [if_neg Bool.false_ne_true, inV_str]
      rw [e0]
      have hil := (List.getElem?_eq_some_iff.mp hl).1
      have hpl := pickL_len (outS ls S) (rOf ls) i
      have no : outS ls S i = false → Same H H3 ∧ H3 D = some (.lst ((pickL (outS ls S) (rOf ls) (i + 1)).map V.int)) := fun c => by
        refine ⟨s3, ?_⟩
        rw [pickL_succ, c, hD3]; simp
      have e2 : outS ls S i = (decide (l.1 ∈ S) && !decide (l.2.1 ∈ S)) := by unfold outS; rw [e1]
      have er : rOf ls i = l.2.2 := by unfold rOf; rw [e1]
      refine if_b (fun c => ?_) (fun c => no (by rw [e2, c]; rfl))
      refine ⟨_, rfl, _, _, _, _, rfl, rfl, .inr hT3, rfl, _, rfl, sl, _, rfl, .inl (s3.seq hS), rfl, flat_strs _, _, rfl, ?_⟩
      have e3 : (if true = true then !inV (V.str l.2.1) (S.map V.str) else inV (V.str l.2.1) (S.map V.str)) = !decide (l.2.1 ∈ S) := by rw [if_pos rfl, inV_str]
      rw [e3]
      refine if_b (fun c2 => ?_) (fun c2 => no (by rw [e2, c, c2]; rfl))
      refine ⟨_, rfl, _, _, _, _, rfl, rfl, .inr hT3, rfl, _, hD3, szl (by rw [List.length_map]; omega), same_put s3 hD, ?_⟩
      rw [upd_same, pickL_succ, e2, c, c2, er, List.map_append]; rfl
    · rintro H3 ⟨s3, hD3⟩
      rw [hL] at hD3
      refine ⟨D, _, rfl, SqL.of hD3, ?_⟩
      rw [pickL_sum]
      exact k _ s3
theorem scKnown : FnScope ["links", "start", "end", "known", "link", "name"] ["links", "start", "end"] (defScope sKnown) := ⟨rfl, rfl, rfl, by decide +kernel, rfl, by decide +kernel, by decide +kernel⟩
theorem ok_known {f : Addr} {fd : FuncData} (F : Fun K "_law_known" "_law_known" sKnown f fd) (T : TxtS mg) : FnOk P w K mg base CX0 1 f fd ["links", "start", "end"] (spKnown K) := by
  refine F.ok scKnown (fun vs H Q E h => ?_) (fun cdv A outer s H vs Q E hr h => ?_)
  · obtain ⟨ll, ls, s, e, rfl, _⟩ := h
    rfl
  · obtain ⟨ll, ls, st, en, rfl, ⟨xs, hxs, hx⟩, hn, k⟩ := h
    refine ⟨_, (pss_cons (ps_set (i := 3) scKnown.nd rfl (by first | exact Or.inl rfl | exact Or.inr rfl) (pe_lst (pa_cons (pv 1) pa_nil)))
    (pss_cons (ps_for PassesOwn.never rfl (pi_list (pv 0)) (pg_name (i := 4) scKnown.nd rfl (by first | exact Or.inl rfl | exact Or.inr rfl))
      (pss_one (ps_for PassesOwn.never rfl (pi_list (pe_lst (pa_cons (pe_ix ix_seq (pv 4) pe_int (fun _ _ => rfl)) (pa_cons (pe_ix ix_seq (pv 4) pe_int (fun _ _ => rfl)) pa_nil)))) (pg_name (i := 5) scKnown.nd rfl (by first | exact Or.inl rfl | exact Or.inr rfl))
        (pss_one (ps_if (PW.pt (pw_and (pt_cmpR op_notIn_seq (pv 5) (pv 3) rfl) (pw_and1 (pt_cmpR op_ne (pv 5) (pv 2) (nomark _))))) (pss_one (ps_expr (pe_bm PySem.F.plainAttrs_list PySem.F.slot_list_append PySem.F.type_list_append mt_append (pv 3) (pa_cons (pv 5) pa_nil)))) pss_nil)))))
    (pss_one (ps_ret (pv 3))))), ?_⟩
    refine ⟨_, rfl, sz (Nat.le_of_ble_eq_true rfl), fun q hq => ?_⟩
    refine ⟨_, rfl, ll, rfl, ⟨_, (same_new hq).seq hxs⟩, for_list (K := K) (a := ll) (xs := xs) (fun i σ' H' => ∃ v4 v5 : Option V, σ' = [some (.ref ll), some (.str st), some (.str en), some (.ref q), v4, v5] ∧ Same H H' ∧ H' q = some (.lst ((known (ls.take i) st en).map V.str)) ∧ i ≤ ls.length)
      ⟨none, none, rfl, same_new hq, upd_same, Nat.zero_le _⟩ (fun i σ' H' _ ⟨_, _, _, s, _⟩ => s.seq hxs) ?_ ?_⟩
    · rintro i x σ' H' hxi ⟨v4, v5, rfl, s1, hq1, hi⟩
      obtain ⟨l, t, hl, rfl, hT⟩ := hx.at hxi
      have hil := (List.getElem?_eq_some_iff.mp hl).1
      have hT1 := seqT_same s1 hT
      refine ⟨_, rfl, _, _, _, _, rfl, rfl, .inr hT1, rfl, _, rfl, _, _, _, _, rfl, rfl, .inr hT1, rfl, sz (Nat.le_of_ble_eq_true rfl), fun D hD => ?_⟩
      refine ⟨D, rfl, ⟨_, SqL.of upd_same⟩, for_list (K := K) (a := D) (xs := [V.str l.1, V.str l.2.1]) (fun j σ' H2 => ∃ v5 : Option V, σ' = [some (.ref ll), some (.str st), some (.str en), some (.ref q), some (.ref t), v5] ∧ Same H H2 ∧ H2 D = some (.lst [V.str l.1, V.str l.2.1]) ∧
        H2 q = some (.lst ((([l.1, l.2.1].take j).foldl (addK en) (known (ls.take i) st en)).map V.str)))
        ⟨v5, rfl, same_put s1 (s1.free hD), upd_same, by rw [upd_ne (ne_of_none hq1 hD)]; exact hq1⟩ (fun j σ' H2 _ ⟨_, _, _, h, _⟩ => SqL.of h) ?_ ?_⟩
      · rintro j y σ' H2 hy ⟨v5, rfl, s2, hD2, hq2⟩
        have hj2 : j < 2 := (List.getElem?_eq_some_iff.mp hy).1
        obtain ⟨z, hz, rfl⟩ : ∃ z, [l.1, l.2.1][j]? = some z ∧ y = V.str z := by
          have : ([l.1, l.2.1].map V.str)[j]? = some y := hy
          rw [List.getElem?_map] at this
          cases q : [l.1, l.2.1][j]? with
          | none => rw [q] at this; cases this
          | some z => rw [q] at this; exact ⟨z, rfl, (Option.some.inj this).symm⟩
        have hk := known_len st en (ls.take i)
        rw [List.length_take] at hk
        have nx : ∀ N : List Str, N = addK en (([l.1, l.2.1].take j).foldl (addK en) (known (ls.take i) st en)) z → N = ([l.1, l.2.1].take (j + 1)).foldl (addK en) (known (ls.take i) st en) := fun N e => by
          rw [take_snoc hz, List.foldl_append, e]; rfl
        have hlen : (([l.1, l.2.1].take j).foldl (addK en) (known (ls.take i) st en)).length ≤ (known (ls.take i) st en).length + j := by
          match j, hj2 with
          | 0, _ => exact Nat.le_refl _
          | 1, _ => exact addK_len _ _ _
        generalize hB : ([l.1, l.2.1].take j).foldl (addK en) (known (ls.take i) st en) = B at *
        refine ⟨_, rfl, _, rfl, q, _, rfl, .inl (SqL.of hq2), rfl, flat_strs _, _, rfl, ?_⟩
        have e3 : (if true = true then !inV (V.str z) (B.map V.str) else inV (V.str z) (B.map V.str)) = !decide (z ∈ B) := by rw [if_pos rfl, inV_str]
        rw [e3]
        refine if_nd (fun c => ?_) (fun c => ?_)
        · refine ⟨_, rfl, _, rfl, rfl, _, rfl, if_nd (fun c2 => ?_) (fun c2 => ?_)⟩
          · refine ⟨_, rfl, .inl ⟨rfl, _, SqL.of hq2⟩, _, rfl, q, _, _, rfl, rfl, hq2, szl (by rw [List.length_map]; omega), ?_⟩
            refine ⟨_, rfl, same_put s2 hq, ?_, ?_⟩
            · rw [upd_ne (ne_of_none hq1 hD).symm]; exact hD2
            · rw [upd_same, ← nx (B ++ [z]) (by unfold addK; rw [if_pos ⟨c, fun e => c2 (congrArg V.str e)⟩]), List.map_append]; rfl
          · exact ⟨_, rfl, s2, hD2, by rw [← nx B (by unfold addK; rw [if_neg (fun e => e.2 (V.str.inj c2))])]; exact hq2⟩
        · exact ⟨_, rfl, s2, hD2, by rw [← nx B (by unfold addK; rw [if_neg (fun e => e.1 c)])]; exact hq2⟩
      · rintro σ' H2 ⟨v5, rfl, s2, hD2, hq2⟩
        refine ⟨_, _, rfl, s2, ?_, hil⟩
        rw [take_snoc hl, known_snoc]
        exact hq2
    · rintro σ' H' ⟨v4, v5, rfl, s1, hq1, hi⟩
      rw [hx.1, List.take_length] at hq1
      exact ⟨_, rfl, k _ q s1 hq hq1⟩
end
end Kx
namespace Kx
open PySem PySem.Spec PyProof.Rows L2
abbrev sTried : Stmt := top 20
structure ErrSee (K : PySem.W.Frag) (mg : Str → Option Value) (C CE : Addr) (f : Str) : Prop where
  is : ErrIs K C
  xf : XfC K C
  no : PySem.W.findIn K (.ref C) f = some none
  em : PySem.W.exmOne K (.ref C) (.ref CE) = some true
  ve : PySem.W.kitOne K (.ref C) (.type "ValueError") = some true
structure TxtR (K : PySem.W.Frag) (mg : Str → Option Value) (CE CT CB CD : Addr) : Prop where
  gE : mg "KindError" = some (.ref CE)
  gT : mg "TooMany" = some (.ref CT)
  gB : mg "BadCount" = some (.ref CB)
  gD : mg "Duplicate" = some (.ref CD)
  b_ve : mg "ValueError" = none
  sT : ErrSee K mg CT CE "limit"
  sB : ErrSee K mg CB CE "number"
  sD : ErrSee K mg CD CE "name"
  tt : PySem.W.kitOne K (.ref CT) (.ref CT) = some true
  tb : PySem.W.kitOne K (.ref CT) (.ref CB) = some false
  td : PySem.W.kitOne K (.ref CT) (.ref CD) = some false
  bt : PySem.W.kitOne K (.ref CB) (.ref CT) = some false
  bb : PySem.W.kitOne K (.ref CB) (.ref CB) = some true
  bd : PySem.W.kitOne K (.ref CB) (.ref CD) = some false
  dt : PySem.W.kitOne K (.ref CD) (.ref CT) = some false
  db : PySem.W.kitOne K (.ref CD) (.ref CB) = some false
  dd : PySem.W.kitOne K (.ref CD) (.ref CD) = some true
def spTried (K : PySem.W.Frag) : Sp := fun vs H Q _ => ∃ (form : Int) (ll : Addr) (ls : List Lk) (s e : Str), vs = [.int form, .ref ll, .str s, .str e] ∧ LsAt K H ll ls ∧
  (400 < ls.length → ∀ H' q, Same H H' → H q = none → H' q = some (.lst [.str "TooMany", .int 400]) → Q (.ref q) H') ∧
  (ls.length ≤ 400 → ∀ r, firstBad ls = some r → ∀ H' q, Same H H' → H q = none → H' q = some (.lst [.str "BadCount", .int r]) → Q (.ref q) H') ∧
  (ls.length ≤ 400 → firstBad ls = none → s = e → ∀ H' q, Same H H' → H q = none → H' q = some (.lst [.str "Duplicate", .str s]) → Q (.ref q) H') ∧
  (ls.length ≤ 400 → firstBad ls = none → s ≠ e → ∀ H' q l (rooms : List Int) found, Same H H' → H q = none → H' q = some (.lst [.str "made", .ref l]) → H l = none →
    H' l = some (.lst (if form = 0 then (List.range ls.length).map fun i => V.int (rmf rooms (2 * i + 1)) else (pickN found 0 (nodes ls s e)).map V.str)) →
    Fl.Full ls.length (nodes ls s e).length (aOf (nodes ls s e) ls) (bOf (nodes ls s e) ls) (rOf ls) (rmf rooms) found → Q (.ref q) H')
section
variable {P : Program} {w : World} {K : PySem.W.Frag} {mg : Str → Option Value} {base : Heap} {CE CT CB CD : Addr}
def tbTried (K : PySem.W.Frag) (CT CB CD : Addr) : WX → TS := fun W =>
  tSeq (tIfS (tTest (tOp rEq (tVar 0) (tC (.int 0)))) (tRet (tLst (tCons (tC (.str "made")) (tCons (tCallS (spGreat K CT CB CD) (WE W) (tCons (tVar 1) (tCons (tVar 2) (tCons (tVar 3) tNil)))) tNil)))) tNext)
    (tRet (tLst (tCons (tC (.str "made")) (tCons (tCallS (spLeast K CT CB CD) (WE W) (tCons (tVar 1) (tCons (tVar 2) (tCons (tVar 3) tNil)))) tNil))))
def tIsX (K : PySem.W.Frag) (a : Addr) (cls : Value) (d : Option Addr) (c : V) : TE := tCB (rIsX K a cls d) (tCons (tVar 4) (tCons (tC c) tNil))
def tsTried (K : PySem.W.Frag) (CT CB CD : Addr) : Addr → Value → Option Addr → TS := fun a cls d =>
  tSeq (tAsg (tLst (tCons (tIsX K a cls d (.ref CT)) (tCons (tIsX K a cls d (.ref CB)) (tCons (tIsX K a cls d (.ref CD)) tNil)))) (gName 5))
  (tSeq (tIfS (tOr (tNot (tB (tIsX K a cls d (.ty "ValueError")))) (tTest (tOp rNe (tCB (rLen1 K) (tCons (tLc (iList K (tVar 5)) (gName 6) (tB (tVar 6)) (tVar 6) [6]) tNil)) (tC (.int 1)))))
    (tRet (tLst (tCons (tC (.str "other")) (tCons (tC (.str "")) tNil)))) tNext)
  (tSeq (tIfS (tB (tOp (rIxL K) (tVar 5) (tC (.int 0)))) (tRet (tLst (tCons (tC (.str "TooMany")) (tCons (tXf a cls d CT "limit" (tVar 4)) tNil)))) tNext)
  (tSeq (tIfS (tB (tOp (rIxL K) (tVar 5) (tC (.int 1)))) (tRet (tLst (tCons (tC (.str "BadCount")) (tCons (tXf a cls d CB "number" (tVar 4)) tNil)))) tNext)
    (tRet (tLst (tCons (tC (.str "Duplicate")) (tCons (tXf a cls d CD "name" (tVar 4)) tNil)))))))
def tsEnd (K : PySem.W.Frag) (CT CB CD : Addr) : Addr → Value → Option Addr → TS := fun a cls d =>
  (tSeq (tIfS (tB (tOp (rIxL K) (tVar 5) (tC (.int 0)))) (tRet (tLst (tCons (tC (.str "TooMany")) (tCons (tXf a cls d CT "limit" (tVar 4)) tNil)))) tNext)
  (tSeq (tIfS (tB (tOp (rIxL K) (tVar 5) (tC (.int 1)))) (tRet (tLst (tCons (tC (.str "BadCount")) (tCons (tXf a cls d CB "number" (tVar 4)) tNil)))) tNext)
    (tRet (tLst (tCons (tC (.str "Duplicate")) (tCons (tXf a cls d CD "name" (tVar 4)) tNil))))))
def onesL (bs : List Bool) : List V := (bs.filter id).map V.bl
theorem ts_run {a dd C : Addr} {b1 b2 b3 : Bool} {f : Str} {v : V} {v0 v1 v2 v3 v6 : Option V} {D : Ends} {H : Hp} (S : ErrSee K mg C CE f) (k1 : PySem.W.kitOne K (.ref C) (.ref CT) = some b1) (k2 : PySem.W.kitOne K (.ref C) (.ref CB) = some b2) (k3 : PySem.W.kitOne K (.ref C) (.ref CD) = some b3)
    (one : ([b1, b2, b3].filter id).length = 1) (hd : H dd = some (.xd [(f, v)]))
    (h : ∀ H' q, Same H H' → H' q = some (.lst [.bl b1, .bl b2, .bl b3]) → tsEnd K CT CB CD a (.ref C) (some dd) D [v0, v1, v2, v3, some (.ref a), some (.ref q), v6] H') :
    tsTried K CT CB CD a (.ref C) (some dd) D [v0, v1, v2, v3, some (.ref a), none, v6] H := by
  have hc : ∀ (A : Addr) (u : Value), RelV (.ref A) u → u = .ref A := fun A u r => r
  refine ⟨_, rfl, _, _, C, dd, _, _, rfl, rfl, rfl, S.is, hc _, hd, k1, _, rfl, _, _, C, dd, _, _, rfl, rfl, rfl, S.is, hc _, hd, k2, _, rfl, _, _, C, dd, _, _, rfl, rfl, rfl, S.is, hc _, hd, k3, sz (Nat.le_of_ble_eq_true rfl), fun q hq => ?_⟩
  have s1 := same_new (o := .lst [.bl b1, .bl b2, .bl b3]) hq
  have hq1 : upd H q (.lst [.bl b1, .bl b2, .bl b3]) q = some (.lst [.bl b1, .bl b2, .bl b3]) := upd_same
  refine ⟨_, rfl, _, .type "ValueError", C, dd, _, _, rfl, rfl, rfl, S.is, fun u r => r, s1 _ _ hd, S.ve, _, rfl, ?_⟩
  refine ⟨_, rfl, q, rfl, ⟨_, SqL.of hq1⟩, fun D hD => ?_⟩
  refine lc_list (K := K) (a := q) (xs := [.bl b1, .bl b2, .bl b3]) (fun i H3 => Same (upd H q (.lst [.bl b1, .bl b2, .bl b3])) H3 ∧ H3 D = some (.lst (onesL ([b1, b2, b3].take i)))) ⟨same_new hD, upd_same⟩ (fun i H3 _ ⟨s3, _⟩ => SqL.of (s3 _ _ hq1)) ?_ ?_
  · rintro i x H3 hx ⟨s3, hD3⟩
    obtain ⟨b, hb, rfl⟩ : ∃ b, [b1, b2, b3][i]? = some b ∧ x = V.bl b := by
      have e : ([b1, b2, b3].map V.bl)[i]? = some x := hx
      rw [List.getElem?_map] at e
      cases z : [b1, b2, b3][i]? with
      | none => rw [z] at e; cases e
      | some y => rw [z] at e; exact ⟨y, rfl, (Option.some.inj e).symm⟩
    have e1 : onesL ([b1, b2, b3].take (i + 1)) = onesL ([b1, b2, b3].take i) ++ if b = true then [V.bl b] else [] := by
      rw [take_snoc hb]; unfold onesL; rw [List.filter_append, List.map_append]
      cases b <;> rfl
    refine ⟨rfl, _, rfl, _, rfl, ?_⟩
    refine if_b (fun c => ?_) (fun c => ?_)
    · have hi3 : (onesL ([b1, b2, b3].take i)).length ≤ 3 := by
        unfold onesL
        rw [List.length_map]
        refine Nat.le_trans (List.length_filter_le _ _) ?_
        rw [List.length_take]
        exact Nat.min_le_right _ _
      refine ⟨_, rfl, _, hD3, szl (by omega), same_put s3 hD, ?_⟩
      rw [upd_same, e1, if_pos c]
    · refine ⟨s3, ?_⟩
      rw [e1, if_neg (by rw [c]; exact Bool.false_ne_true), List.append_nil]; exact hD3
  · rintro H3 ⟨s3, hD3⟩
    refine ⟨D, _, rfl, .inl (SqL.of hD3), rfl, _, rfl, ?_⟩
    have e : ((onesL ([b1, b2, b3].take 3)).length : Int) = 1 := by
      unfold onesL
      rw [List.length_map]
      exact congrArg Int.ofNat one
    rw [show ([V.bl b1, V.bl b2, V.bl b3] : List V).length = 3 from rfl, e]
    exact if_nd (fun c => absurd rfl c) (fun _ => h H3 q (s1.trans s3) (s3 _ _ hq1))
theorem scTried : FnScope ["form", "links", "start", "end", "e", "found", "word"] ["form", "links", "start", "end"] (defScope sTried) := ⟨rfl, rfl, rfl, by decide +kernel, rfl, by decide +kernel, by decide +kernel⟩
theorem ok_tried {f fG fS : Addr} {fd fdG fdS : FuncData} (F : Fun K "_law_tried" "_law_tried" sTried f fd) (T : TxtS mg) (R : TxtR K mg CE CT CB CD)
    (DG : DefAt K mg "greatest_flow" sGreat ["links", "start", "end"] fG fdG) (GG : FnOk P w K mg base (L2N.CX P w) 6 fG fdG ["links", "start", "end"] (spGreat K CT CB CD))
    (DS : DefAt K mg "least_side" sLeast ["links", "start", "end"] fS fdS) (GS : FnOk P w K mg base (L2N.CX P w) 6 fS fdS ["links", "start", "end"] (spLeast K CT CB CD)) : FnOk P w K mg base CX0 7 f fd ["form", "links", "start", "end"] (spTried K) := by
  refine F.ok scTried (fun vs H Q E h => ?_) (fun cdv A outer s H vs Q E hr h => ?_)
  · obtain ⟨form, ll, ls, s, e, rfl, _⟩ := h
    rfl
  · obtain ⟨form, ll, ls, st, en, rfl, hls, kT, kB, kD, k⟩ := h
    refine ⟨_, pss_one (L2N.ps_try_as (i := 4) (tb := tbTried K CT CB CD) (ts := tsTried K CT CB CD) (Wout := fun _ _ _ _ => False) rfl rfl scTried.nd rfl rfl ⟨rfl, by decide, Or.inl R.gE⟩ takesN0
      (fun W pn xe tk _ => pss_cons (ps_if (pt_cmpR op_eq (pv 0) pe_int (nomark _)) (pss_one (ps_ret (pe_lst (pa_cons pe_str (pa_cons (by exact (pe_callS GG hr rfl DG.m DG.F.kp DG.b (fun σ => L2N.passAt tk σ) (by exact (pa_cons (pv 1) (pa_cons (pv 2) (pa_cons (pv 3) pa_nil)))))) pa_nil))))) pss_nil)
        (pss_one (ps_ret (pe_lst (pa_cons pe_str (pa_cons (by exact (pe_callS GS hr rfl DS.m DS.F.kp DS.b (fun σ => L2N.passAt tk σ) (by exact (pa_cons (pv 1) (pa_cons (pv 2) (pa_cons (pv 3) pa_nil)))))) pa_nil))))))
      (fun a oe cls d pn hz hf => ?_)), ?_⟩
    · exact pss_cons (ps_set (i := 5) scTried.nd rfl (by first | exact Or.inl rfl | exact Or.inr rfl) (pe_lst (pa_cons (pe_callB (call_isX hz.zc hf) (by rfl) T.b_isinstance (by decide +kernel) (pa_cons (pv 4) (pa_cons (pe_glob (by rfl) R.gT rfl) pa_nil))) (pa_cons (pe_callB (call_isX hz.zc hf) (by rfl) T.b_isinstance (by decide +kernel) (pa_cons (pv 4) (pa_cons (pe_glob (by rfl) R.gB rfl) pa_nil))) (pa_cons (pe_callB (call_isX hz.zc hf) (by rfl) T.b_isinstance (by decide +kernel) (pa_cons (pv 4) (pa_cons (pe_glob (by rfl) R.gD rfl) pa_nil))) pa_nil)))))
        (pss_cons (ps_if (PW.pt (pw_or (pt_not (pt_val (pe_callB (call_isX hz.zc hf) (by rfl) T.b_isinstance (by decide +kernel) (pa_cons (pv 4) (pa_cons (pe_bltn (by rfl) R.b_ve (by decide +kernel) (rel_ty "ValueError")) pa_nil))))) (pw_or1 (pt_cmpR op_ne (pe_callB c_len (by rfl) T.b_len (by decide +kernel) (pa_cons (pe_lcH (g := gName 6) (tt := tB (tVar 6)) (te := tVar 6) (own := [("word", 6)]) (hotC_suite hz hf) scTried.nd (pv 5) (blkOk_by (N := ["form", "links", "start", "end", "e", "found", "word"]) (sc := defScope sTried) (own := [("word", 6)]) (by decide +kernel)) (fun _ _ _ _ _ => (pg_name (i := 6) scTried.nd rfl (by first | exact Or.inl rfl | exact Or.inr rfl))) (fun _ _ _ _ _ => pts_one (pt_val (pv 6))) (fun _ _ _ _ _ => pv 6)) pa_nil)) pe_int (nomark _)))))
          (pss_one (ps_ret (pe_lst (pa_cons pe_str (pa_cons pe_str pa_nil))))) pss_nil)
        (pss_cons (ps_if (pt_val (pe_ix ix_list (pv 5) pe_int (fun _ _ => rfl))) (pss_one (ps_ret (pe_lst (pa_cons pe_str (pa_cons (pe_xf R.sT.xf R.sT.no hz.zc hf (pv 4)) pa_nil))))) pss_nil)
        (pss_cons (ps_if (pt_val (pe_ix ix_list (pv 5) pe_int (fun _ _ => rfl))) (pss_one (ps_ret (pe_lst (pa_cons pe_str (pa_cons (pe_xf R.sB.xf R.sB.no hz.zc hf (pv 4)) pa_nil))))) pss_nil)
        (pss_one (ps_ret (pe_lst (pa_cons pe_str (pa_cons (pe_xf R.sD.xf R.sD.no hz.zc hf (pv 4)) pa_nil))))))))
    · refine ⟨_, rfl, rfl, _, rfl, if_d (fun c => ?_) (fun c => ?_)⟩
      · have c0 : form = 0 := V.int.inj c
        refine ⟨_, rfl, _, rfl, _, rfl, ll, ls, st, en, rfl, hls, ?_, ?_, ?_, ?_⟩
        · intro hlen d H' sm hd
          refine ⟨true, R.sT.em, fun _ a ha => ?_, fun z => by cases z⟩
          refine ts_run R.sT R.tt R.tb R.td rfl hd fun H2 q s2 hq => ?_
          refine ⟨_, rfl, _, _, _, _, rfl, rfl, SqL.of hq, rfl, _, rfl, ?_⟩
          refine ⟨_, rfl, rfl, rfl, d, _, _, rfl, s2 _ _ hd, rfl, sz (Nat.le_of_ble_eq_true rfl), fun r hr => ?_⟩
          exact kT hlen _ r (same_put (sm.trans s2) ((sm.trans s2).free hr)) ((sm.trans s2).free hr) upd_same
        · intro hlen r hr d H' sm hd
          refine ⟨true, R.sB.em, fun _ a ha => ?_, fun z => by cases z⟩
          refine ts_run R.sB R.bt R.bb R.bd rfl hd fun H2 q s2 hq => ?_
          refine ⟨_, rfl, _, _, _, _, rfl, rfl, SqL.of hq, rfl, _, rfl, ?_⟩
          refine ⟨_, rfl, _, _, _, _, rfl, rfl, SqL.of hq, rfl, _, rfl, ?_⟩
          refine ⟨_, rfl, rfl, rfl, d, _, _, rfl, s2 _ _ hd, rfl, sz (Nat.le_of_ble_eq_true rfl), fun u hu => ?_⟩
          exact kB hlen r hr _ u (same_put (sm.trans s2) ((sm.trans s2).free hu)) ((sm.trans s2).free hu) upd_same
        · intro hlen hb hse d H' sm hd
          refine ⟨true, R.sD.em, fun _ a ha => ?_, fun z => by cases z⟩
          refine ts_run R.sD R.dt R.db R.dd rfl hd fun H2 q s2 hq => ?_
          refine ⟨_, rfl, _, _, _, _, rfl, rfl, SqL.of hq, rfl, _, rfl, ?_⟩
          refine ⟨_, rfl, _, _, _, _, rfl, rfl, SqL.of hq, rfl, _, rfl, ?_⟩
          refine ⟨_, rfl, rfl, rfl, d, _, _, rfl, s2 _ _ hd, rfl, sz (Nat.le_of_ble_eq_true rfl), fun u hu => ?_⟩
          exact kD hlen hb hse _ u (same_put (sm.trans s2) ((sm.trans s2).free hu)) ((sm.trans s2).free hu) upd_same
        · intro hlen hb hse H' q rooms found sm hq hq' FF
          refine ⟨sz (Nat.le_of_ble_eq_true rfl), fun r hr => ?_⟩
          exact k hlen hb hse _ r q rooms found (same_put sm (sm.free hr)) (sm.free hr) upd_same hq (by rw [upd_ne (ne_of_none hq' hr), hq', if_pos c0]) FF
      · have c0 : ¬ form = 0 := fun z => c (congrArg V.int z)
        refine ⟨_, rfl, _, rfl, _, rfl, ll, ls, st, en, rfl, hls, ?_, ?_, ?_, ?_⟩
        · intro hlen d H' sm hd
          refine ⟨true, R.sT.em, fun _ a ha => ?_, fun z => by cases z⟩
          refine ts_run R.sT R.tt R.tb R.td rfl hd fun H2 q s2 hq => ?_
          refine ⟨_, rfl, _, _, _, _, rfl, rfl, SqL.of hq, rfl, _, rfl, ?_⟩
          refine ⟨_, rfl, rfl, rfl, d, _, _, rfl, s2 _ _ hd, rfl, sz (Nat.le_of_ble_eq_true rfl), fun r hr => ?_⟩
          exact kT hlen _ r (same_put (sm.trans s2) ((sm.trans s2).free hr)) ((sm.trans s2).free hr) upd_same
        · intro hlen r hr d H' sm hd
          refine ⟨true, R.sB.em, fun _ a ha => ?_, fun z => by cases z⟩
          refine ts_run R.sB R.bt R.bb R.bd rfl hd fun H2 q s2 hq => ?_
          refine ⟨_, rfl, _, _, _, _, rfl, rfl, SqL.of hq, rfl, _, rfl, ?_⟩
          refine ⟨_, rfl, _, _, _, _, rfl, rfl, SqL.of hq, rfl, _, rfl, ?_⟩
          refine ⟨_, rfl, rfl, rfl, d, _, _, rfl, s2 _ _ hd, rfl, sz (Nat.le_of_ble_eq_true rfl), fun u hu => ?_⟩
          exact kB hlen r hr _ u (same_put (sm.trans s2) ((sm.trans s2).free hu)) ((sm.trans s2).free hu) upd_same
        · intro hlen hb hse d H' sm hd
          refine ⟨true, R.sD.em, fun _ a ha => ?_, fun z => by cases z⟩
          refine ts_run R.sD R.dt R.db R.dd rfl hd fun H2 q s2 hq => ?_
          refine ⟨_, rfl, _, _, _, _, rfl, rfl, SqL.of hq, rfl, _, rfl, ?_⟩
          refine ⟨_, rfl, _, _, _, _, rfl, rfl, SqL.of hq, rfl, _, rfl, ?_⟩
          refine ⟨_, rfl, rfl, rfl, d, _, _, rfl, s2 _ _ hd, rfl, sz (Nat.le_of_ble_eq_true rfl), fun u hu => ?_⟩
          exact kD hlen hb hse _ u (same_put (sm.trans s2) ((sm.trans s2).free hu)) ((sm.trans s2).free hu) upd_same
        · intro hlen hb hse H' q rooms found sm hq hq' FF
          refine ⟨sz (Nat.le_of_ble_eq_true rfl), fun r hr => ?_⟩
          exact k hlen hb hse _ r q rooms found (same_put sm (sm.free hr)) (sm.free hr) upd_same hq (by rw [upd_ne (ne_of_none hq' hr), hq', if_neg c0]) FF
end
end Kx
namespace Kx
open PySem PySem.Spec PyProof.Rows L2
/-! ### names and numbers of nodes -/
theorem idx_inj {ns : List Str} {x y : Str} (hx : x ∈ ns) (hy : y ∈ ns) (h : idx x ns = idx y ns) : x = y := by
  have h1 := idx_at hx
  rw [h, idx_at hy] at h1
  exact (Option.some.inj h1).symm
theorem idx_s (s e : Str) (ls : List Lk) : idx s (nodes ls s e) = 0 := by
  obtain ⟨r, h⟩ := nodes_pre s e ls
  rw [h]; unfold idx; rw [if_pos rfl]
theorem idx_e {s e : Str} (hse : s ≠ e) (ls : List Lk) : idx e (nodes ls s e) = 1 := by
  obtain ⟨r, h⟩ := nodes_pre s e ls
  rw [h]; unfold idx; rw [if_neg hse]; unfold idx; rw [if_pos rfl]
theorem idx_of {ns : List Str} (nd : ns.Nodup) {i : Nat} {x : Str} (h : ns[i]? = some x) : idx x ns = i := by
  have hx : x ∈ ns := List.mem_of_getElem? h
  obtain ⟨h1, e1⟩ := List.getElem?_eq_some_iff.mp (idx_at hx)
  obtain ⟨h2, e2⟩ := List.getElem?_eq_some_iff.mp h
  exact (List.getElem_inj nd).mp (e1.trans e2.symm)
theorem lk_mem {ls : List Lk} {i : Nat} (h : i < ls.length) : ls.getD i dL ∈ ls := by
  rw [getD_of (List.getElem?_eq_getElem h)]
  exact List.getElem_mem h
section
variable {ls : List Lk} {s e : Str}
theorem a_lt (i : Nat) (h : i < ls.length) : aOf (nodes ls s e) ls i < (nodes ls s e).length := idx_lt (nodes_mem s e ls _ (lk_mem h)).1
theorem b_lt (i : Nat) (h : i < ls.length) : bOf (nodes ls s e) ls i < (nodes ls s e).length := idx_lt (nodes_mem s e ls _ (lk_mem h)).2
theorem two_le : 2 ≤ (nodes ls s e).length := by
  obtain ⟨r, h⟩ := nodes_pre s e ls
  rw [h]; simp
theorem worth_net {rm : Nat → Int} {x : Str} (hx : x ∈ nodes ls s e) : wOf ls (fun i => rm (2 * i + 1)) x = Fl.net ls.length (aOf (nodes ls s e) ls) (bOf (nodes ls s e) ls) rm (idx x (nodes ls s e)) := by
  unfold wOf Fl.net
  rw [← Fl.sm_sub]
  refine Fl.sm_congr fun i hi => ?_
  obtain ⟨h1, h2⟩ := nodes_mem s e ls _ (lk_mem hi)
  have ea : decide (aOf (nodes ls s e) ls i = idx x (nodes ls s e)) = isA ls x i := by
    unfold isA aOf
    by_cases c : (ls.getD i dL).1 = x
    · rw [decide_eq_true c, c, decide_eq_true rfl]
    · rw [decide_eq_false c, decide_eq_false fun z => c (idx_inj h1 hx z)]
  have eb : decide (bOf (nodes ls s e) ls i = idx x (nodes ls s e)) = isB ls x i := by
    unfold isB bOf
    by_cases c : (ls.getD i dL).2.1 = x
    · rw [decide_eq_true c, c, decide_eq_true rfl]
    · rw [decide_eq_false c, decide_eq_false fun z => c (idx_inj h2 hx z)]
  rw [ea, eb]
  cases isA ls x i <;> cases isB ls x i <;> simp [Fl.ind]
/-- the side of a list of names, by number -/
def inS (ns : List Str) (S : List Str) : Nat → Bool := fun v => decide (ns.getD v Str.empty ∈ S)
theorem inS_idx {ns S : List Str} {x : Str} (h : x ∈ ns) : inS ns S (idx x ns) = decide (x ∈ S) := by
  unfold inS
  rw [List.getD_eq_getElem?_getD, idx_at h]; rfl
theorem room_cap (S : List Str) : roomS ls S = Fl.cap ls.length (aOf (nodes ls s e) ls) (bOf (nodes ls s e) ls) (rOf ls) (inS (nodes ls s e) S) := by
  unfold roomS Fl.cap
  refine Fl.sm_congr fun i hi => ?_
  obtain ⟨h1, h2⟩ := nodes_mem s e ls _ (lk_mem hi)
  unfold outS aOf bOf
  rw [inS_idx h1, inS_idx h2]
  by_cases c1 : (ls.getD i dL).1 ∈ S <;> by_cases c2 : (ls.getD i dL).2.1 ∈ S <;> simp [c1, c2]
theorem pickN_filter {found : List Nat} {ns : List Str} (nd : ns.Nodup) : ∀ (l pre : List Str), ns = pre ++ l → pickN found pre.length l = l.filter fun x => decide (idx x ns ∈ found)
  | [], _, _ => rfl
  | x :: r, pre, h => by
    have ih := pickN_filter (found := found) nd r (pre ++ [x]) (by rw [h]; simp)
    rw [List.length_append] at ih
    have e1 : idx x ns = pre.length := idx_of nd (by rw [h]; simp)
    show (if pre.length ∈ found then x :: pickN found (pre.length + 1) r else pickN found (pre.length + 1) r) = _
    rw [show pre.length + 1 = pre.length + [x].length from rfl, ih, List.filter_cons, e1]
    by_cases c : pre.length ∈ found <;> simp [c]
theorem pick_eq (hse : s ≠ e) (found : List Nat) : pickN found 0 (nodes ls s e) = (nodes ls s e).filter fun x => decide (idx x (nodes ls s e) ∈ found) := pickN_filter (nodes_nd hse ls) _ [] rfl
theorem pick_mem (hse : s ≠ e) {found : List Nat} {x : Str} : x ∈ pickN found 0 (nodes ls s e) ↔ x ∈ nodes ls s e ∧ idx x (nodes ls s e) ∈ found := by
  rw [pick_eq hse, List.mem_filter]
  simp
theorem s_mem : s ∈ nodes ls s e := by
  obtain ⟨r, h⟩ := nodes_pre s e ls
  rw [h]; simp
theorem e_mem : e ∈ nodes ls s e := by
  obtain ⟨r, h⟩ := nodes_pre s e ls
  rw [h]; simp
/-- a side that is the least of those with the least room -/
structure Best (ls : List Lk) (s e : Str) (W : Int) (S : List Str) : Prop where
  s0 : s ∈ S
  e0 : e ∉ S
  nd : S.Nodup
  len : S.length ≤ 802
  room : roomS ls S = W
  least : ∀ T : List Str, s ∈ T → e ∉ T → W ≤ roomS ls T ∧ (roomS ls T = W → ∀ x ∈ S, x ∈ T)
theorem cap_side (hse : s ≠ e) (found : List Nat) : roomS ls (pickN found 0 (nodes ls s e)) = Fl.cap ls.length (aOf (nodes ls s e) ls) (bOf (nodes ls s e) ls) (rOf ls) (Fl.side found) := by
  rw [room_cap (s := s) (e := e)]
  have key : ∀ x, x ∈ nodes ls s e → inS (nodes ls s e) (pickN found 0 (nodes ls s e)) (idx x (nodes ls s e)) = Fl.side found (idx x (nodes ls s e)) := fun x hx => by
    rw [inS_idx hx]
    unfold Fl.side
    rw [Bool.eq_iff_iff]
    simp [pick_mem hse, hx]
  refine Fl.sm_congr fun i hi => ?_
  obtain ⟨h1, h2⟩ := nodes_mem s e ls _ (lk_mem hi)
  unfold aOf bOf
  rw [key _ h1, key _ h2]
theorem best_of (hse : s ≠ e) (hl : ls.length ≤ 400) {rm1 rm2 : Nat → Int} {f1 f2 : List Nat}
    (F1 : Fl.Full ls.length (nodes ls s e).length (aOf (nodes ls s e) ls) (bOf (nodes ls s e) ls) (rOf ls) rm1 f1)
    (F2 : Fl.Full ls.length (nodes ls s e).length (aOf (nodes ls s e) ls) (bOf (nodes ls s e) ls) (rOf ls) rm2 f2) : Best ls s e (wOf ls (fun i => rm1 (2 * i + 1)) s) (pickN f2 0 (nodes ls s e)) := by
  have w1 : wOf ls (fun i => rm1 (2 * i + 1)) s = Fl.net ls.length (aOf (nodes ls s e) ls) (bOf (nodes ls s e) ls) rm1 0 := by rw [worth_net s_mem, idx_s]
  have side0 : ∀ f : List Nat, 0 ∈ f → Fl.side f 0 = true := fun f h => decide_eq_true h
  have side1 : ∀ f : List Nat, 1 ∉ f → Fl.side f 1 = false := fun f h => decide_eq_false h
  have q1 := F1.worth two_le a_lt b_lt
  have q2 := F2.worth two_le a_lt b_lt
  have l1 := Fl.weak two_le a_lt b_lt F1.caps F1.keeps (Fl.side f2) (side0 _ F2.h0) (side1 _ F2.h1)
  have l2 := Fl.weak two_le a_lt b_lt F2.caps F2.keeps (Fl.side f1) (side0 _ F1.h0) (side1 _ F1.h1)
  have eW : Fl.net ls.length (aOf (nodes ls s e) ls) (bOf (nodes ls s e) ls) rm1 0 = Fl.net ls.length (aOf (nodes ls s e) ls) (bOf (nodes ls s e) ls) rm2 0 := by omega
  rw [w1]
  refine ⟨(pick_mem hse).mpr ⟨s_mem, by rw [idx_s]; exact F2.h0⟩, fun z => F2.h1 (by have := ((pick_mem hse).mp z).2; rwa [idx_e hse] at this), ?_, ?_, ?_, ?_⟩
  · rw [pick_eq hse]; exact (nodes_nd hse ls).filter _
  · rw [pick_eq hse]
    refine Nat.le_trans (List.length_filter_le _ _) ?_
    have := nodes_len s e ls
    omega
  · rw [cap_side hse, eW, q2]
  · intro T hs he
    have t0 : inS (nodes ls s e) T 0 = true := by rw [← idx_s s e ls, inS_idx s_mem]; exact decide_eq_true hs
    have t1 : inS (nodes ls s e) T 1 = false := by rw [← idx_e hse ls, inS_idx e_mem]; exact decide_eq_false he
    rw [room_cap (s := s) (e := e)]
    refine ⟨Fl.weak two_le a_lt b_lt F1.caps F1.keeps _ t0 t1, fun q x hx => ?_⟩
    obtain ⟨hx1, hx2⟩ := (pick_mem hse).mp hx
    have := F2.least two_le a_lt b_lt _ t0 t1 (by rw [← eW, q]) _ hx2
    rw [inS_idx hx1] at this
    exact of_decide_eq_true this
theorem known_tail (hse : s ≠ e) (ls : List Lk) : ∃ r, known ls s e = s :: r ∧ ∀ x ∈ r, x ∈ nodes ls s e ∧ x ≠ s ∧ x ≠ e := by
  obtain ⟨r, h⟩ := nodes_pre s e ls
  have nd := nodes_nd hse ls
  rw [known_nodes hse]
  rw [h] at nd ⊢
  refine ⟨r, ?_, fun x hx => ⟨by simp [hx], ?_, ?_⟩⟩
  · rw [List.filter_cons, if_pos (by simp [hse]), List.filter_cons, if_neg (by simp)]
    congr 1
    refine List.filter_eq_self.mpr fun x hx => ?_
    simp at nd ⊢
    intro z
    exact nd.2.1 (z ▸ hx)
  · intro z
    simp at nd
    exact nd.1.2 (z ▸ hx)
  · intro z
    simp at nd
    exact nd.2.1 (z ▸ hx)
theorem even_zero (hse : s ≠ e) {rm : Nat → Int} {f : List Nat} (F : Fl.Full ls.length (nodes ls s e).length (aOf (nodes ls s e) ls) (bOf (nodes ls s e) ls) (rOf ls) rm f) {x : Str} (hx : x ∈ nodes ls s e) (h1 : x ≠ s) (h2 : x ≠ e) : wOf ls (fun i => rm (2 * i + 1)) x = 0 := by
  rw [worth_net hx]
  refine F.keeps _ (idx_lt hx) (fun z => h1 (idx_inj hx s_mem (by rw [z, idx_s]))) (fun z => h2 (idx_inj hx e_mem (by rw [z, idx_e hse])))
theorem same_side (hse : s ≠ e) {rm : Nat → Int} {f : List Nat} (F : Fl.Full ls.length (nodes ls s e).length (aOf (nodes ls s e) ls) (bOf (nodes ls s e) ls) (rOf ls) rm f) :
    (known ls s e).filter (fun x => decide (x ∈ pickN f 0 (nodes ls s e))) = pickN f 0 (nodes ls s e) := by
  rw [known_nodes hse, List.filter_filter]
  conv => rhs; rw [pick_eq hse]
  refine List.filter_congr fun x hx => ?_
  rw [Bool.eq_iff_iff]
  simp only [Bool.and_eq_true, decide_eq_true_eq, pick_mem hse]
  refine ⟨fun h => h.1.2, fun h => ⟨⟨hx, h⟩, fun z => F.h1 ?_⟩⟩
  rw [z, idx_e hse] at h; exact h
end
end Kx
namespace Kx
open PySem PySem.Spec PyProof.Rows L2
abbrev sRight : Stmt := top 24
theorem cut_from (xs : List V) (k : Nat) : cutV xs (some (k : Int)) none = xs.drop k := by
  unfold cutV
  rw [HT.sIx_nat, HT.sIx_none]
  by_cases h : k ≤ xs.length
  · rw [Nat.min_eq_left h]
    exact List.take_of_length_le (by rw [List.length_drop]; exact Nat.le_refl _)
  · rw [Nat.min_eq_right (by omega), List.drop_length, List.take_nil, List.drop_of_length_le (by omega)]
theorem cut_to (xs : List V) (k : Nat) : cutV xs none (some (k : Int)) = xs.take k := by
  unfold cutV
  rw [HT.sIx_nat, HT.sIx_none, List.drop_zero, Nat.sub_zero]
  by_cases h : k ≤ xs.length
  · rw [Nat.min_eq_left h]
  · rw [Nat.min_eq_right (by omega), List.take_length, List.take_of_length_le (by omega)]
theorem get_map {xs : List Str} {i : Nat} {x : V} (h : (xs.map V.str)[i]? = some x) : ∃ y, xs[i]? = some y ∧ x = V.str y := by
  rw [List.getElem?_map] at h
  cases e : xs[i]? with
  | none => rw [e] at h; cases h
  | some z => rw [e] at h; exact ⟨z, rfl, (Option.some.inj h).symm⟩
def spRight (K : PySem.W.Frag) : Sp := fun vs H Q _ => ∃ (ll : Addr) (ls : List Lk) (s e : Str), vs = [.ref ll, .str s, .str e] ∧ LlAt K H ll ls ∧ ls.length ≤ 400 ∧ firstBad ls = none ∧ s ≠ e ∧
  ∀ H' q sd W S, Same H H' → H q = none → H' q = some (.lst [.int W, .ref sd]) → H' sd = some (.lst (S.map V.str)) → Best ls s e W S → Q (.ref q) H'
section
variable {P : Program} {w : World} {K : PySem.W.Frag} {mg : Str → Option Value} {base : Heap}
theorem scRight : FnScope ["links", "start", "end", "told", "k", "amount", "known", "name", "side", "worth"] ["links", "start", "end"] (defScope sRight) := ⟨rfl, rfl, rfl, by decide +kernel, rfl, by decide +kernel, by decide +kernel⟩
theorem ok_right {f fT fS fW fR fK : Addr} {fd fdT fdS fdW fdR fdK : FuncData} (F : Fun K "_law_right" "_law_right" sRight f fd) (T : TxtS mg)
    (D_law_tried : DefAt K mg "_law_tried" sTried ["form", "links", "start", "end"] fT fdT) (G_law_tried : FnOk P w K mg base CX0 7 fT fdT ["form", "links", "start", "end"] (spTried K))
    (D_law_same : DefAt K mg "_law_same" sSame ["actual", "due"] fS fdS) (G_law_same : FnOk P w K mg base CX0 2 fS fdS ["actual", "due"] (spSame K 2))
    (D_law_worth : DefAt K mg "_law_worth" sWorth ["links", "flow", "name"] fW fdW) (G_law_worth : FnOk P w K mg base CX0 1 fW fdW ["links", "flow", "name"] (spWorth K))
    (D_law_room : DefAt K mg "_law_room" sRoom ["links", "side"] fR fdR) (G_law_room : FnOk P w K mg base CX0 1 fR fdR ["links", "side"] (spRoom K))
    (D_law_known : DefAt K mg "_law_known" sKnown ["links", "start", "end"] fK fdK) (G_law_known : FnOk P w K mg base CX0 1 fK fdK ["links", "start", "end"] (spKnown K)) :
    FnOk P w K mg base CX0 8 f fd ["links", "start", "end"] (spRight K) := by
  refine F.ok scRight (fun vs H Q E h => ?_) (fun cdv A outer s H vs Q E hr h => ?_)
  · obtain ⟨ll, ls, s, e, rfl, _⟩ := h
    rfl
  · obtain ⟨ll, ls, st, en, rfl, hls, hlen, hb, hse, k⟩ := h
    refine ⟨_, (pss_cons (ps_set (i := 3) scRight.nd rfl (by first | exact Or.inl rfl | exact Or.inr rfl) (pe_lst (pa_cons (pe_call G_law_tried (hr.mono (by decide)) rfl D_law_tried.m D_law_tried.F.kp D_law_tried.b .nil pass0 (pa_cons pe_int (pa_cons (pe_callTy c_list (by rfl) T.b_list (by decide +kernel) (pa_cons (pv 0) pa_nil)) (pa_cons (pv 1) (pa_cons (pv 2) pa_nil))))) (pa_cons (pe_call G_law_tried (hr.mono (by decide)) rfl D_law_tried.m D_law_tried.F.kp D_law_tried.b .nil pass0 (pa_cons pe_int (pa_cons (pe_callTy c_tuple (by rfl) T.b_tuple (by decide +kernel) (pa_cons (pv 0) pa_nil)) (pa_cons (pv 1) (pa_cons (pv 2) pa_nil))))) pa_nil))))
    (pss_cons (ps_if (PW.pt (pw_or (pt_cmpR op_ne (pe_ix ix_seq (pe_ix ix_seq (pv 3) pe_int (fun _ _ => rfl)) pe_int (fun _ _ => rfl)) pe_str (nomark _)) (pw_or (pt_cmpR op_ne (pe_ix ix_seq (pe_ix ix_seq (pv 3) pe_int (fun _ _ => rfl)) pe_int (fun _ _ => rfl)) pe_str (nomark _)) (pw_or (pt_not (pt_val (pe_callB call_isi (by rfl) T.b_isinstance (by decide +kernel) (pa_cons (pe_ix ix_seq (pe_ix ix_seq (pv 3) pe_int (fun _ _ => rfl)) pe_int (fun _ _ => rfl)) (pa_cons (pe_bltn (by rfl) T.b_list (by decide +kernel) (rel_ty "list")) pa_nil))))) (pw_or1 (pt_cmpR op_ne (pe_callB c_len (by rfl) T.b_len (by decide +kernel) (pa_cons (pe_ix ix_seq (pe_ix ix_seq (pv 3) pe_int (fun _ _ => rfl)) pe_int (fun _ _ => rfl)) pa_nil)) (pe_callB c_len (by rfl) T.b_len (by decide +kernel) (pa_cons (pv 0) pa_nil)) (nomark _))))))) (pss_one (ps_ret (pe_lst pa_nil))) pss_nil)
    (pss_cons (ps_for PassesOwn.never rfl (pi_range1 rfl T.b_range (pa_cons (pe_callB c_len (by rfl) T.b_len (by decide +kernel) (pa_cons (pv 0) pa_nil)) pa_nil)) (pg_name (i := 4) scRight.nd rfl (by first | exact Or.inl rfl | exact Or.inr rfl))
      (pss_cons (ps_set (i := 5) scRight.nd rfl (by first | exact Or.inl rfl | exact Or.inr rfl) (pe_ix ix_seq (pe_ix ix_seq (pe_ix ix_seq (pv 3) pe_int (fun _ _ => rfl)) pe_int (fun _ _ => rfl)) (pv 4) (fun _ _ => rfl)))
      (pss_one (ps_if (PW.pt (pw_or (pt_val (pe_callB call_isi (by rfl) T.b_isinstance (by decide +kernel) (pa_cons (pv 5) (pa_cons (pe_bltn (by rfl) T.b_bool (by decide +kernel) (rel_ty "bool")) pa_nil)))) (pw_or (pt_not (pt_val (pe_callB call_isi (by rfl) T.b_isinstance (by decide +kernel) (pa_cons (pv 5) (pa_cons (pe_bltn (by rfl) T.b_int (by decide +kernel) (rel_ty "int")) pa_nil))))) (pw_or (pt_cmpR op_lt (pv 5) pe_int (nomark _)) (pw_or1 (pt_cmpR op_gt (pv 5) (pe_ix ix_seq (pe_ix ix_seq (pv 0) (pv 4) (fun _ _ => rfl)) pe_int (fun _ _ => rfl)) (nomark _))))))) (pss_one (ps_ret (pe_lst pa_nil))) pss_nil))))
    (pss_cons (ps_set (i := 6) scRight.nd rfl (by first | exact Or.inl rfl | exact Or.inr rfl) (pe_call G_law_known (hr.mono (by decide)) rfl D_law_known.m D_law_known.F.kp D_law_known.b .nil pass0 (pa_cons (pv 0) (pa_cons (pv 1) (pa_cons (pv 2) pa_nil)))))
    (pss_cons (ps_for PassesOwn.never rfl (pi_list (pe_slice sl_list (pv 6) (po_some pe_int) po_none)) (pg_name (i := 7) scRight.nd rfl (by first | exact Or.inl rfl | exact Or.inr rfl))
      (pss_one (ps_if (pt_cmpR op_ne (pe_call G_law_worth (hr.mono (by decide)) rfl D_law_worth.m D_law_worth.F.kp D_law_worth.b .nil pass0 (pa_cons (pv 0) (pa_cons (pe_ix ix_seq (pe_ix ix_seq (pv 3) pe_int (fun _ _ => rfl)) pe_int (fun _ _ => rfl)) (pa_cons (pv 7) pa_nil)))) pe_int (nomark _)) (pss_one (ps_ret (pe_lst pa_nil))) pss_nil)))
    (pss_cons (ps_set (i := 8) scRight.nd rfl (by first | exact Or.inl rfl | exact Or.inr rfl) (pe_ix ix_seq (pe_ix ix_seq (pv 3) pe_int (fun _ _ => rfl)) pe_int (fun _ _ => rfl)))
    (pss_cons (ps_if (PW.pt (pw_or (pt_not (pt_val (pe_callB call_isi (by rfl) T.b_isinstance (by decide +kernel) (pa_cons (pv 8) (pa_cons (pe_bltn (by rfl) T.b_list (by decide +kernel) (rel_ty "list")) pa_nil))))) (pw_or (pt_cmpR op_notIn_seq (pv 1) (pv 8) rfl) (pw_or1 (pt_cmpR op_in_seq (pv 2) (pv 8) rfl))))) (pss_one (ps_ret (pe_lst pa_nil))) pss_nil)
    (pss_cons (ps_if (pt_not (pt_val (pe_call G_law_same (hr.mono (by decide)) rfl D_law_same.m D_law_same.F.kp D_law_same.b .nil pass0 (pa_cons (pv 8) (pa_cons (pe_lc (g := gName 7) (tt := (tTest (tOp (rIn K false) (tVar 7) (tVar 8)))) (te := (tVar 7)) (own := [("name", 7)]) rfl scRight.nd (pi_list (pv 6)) (blkOk_by (N := ["links", "start", "end", "told", "k", "amount", "known", "name", "side", "worth"]) (sc := defScope sRight) (own := [("name", 7)]) (by decide +kernel)) (fun _ _ _ _ _ => (pg_name (i := 7) scRight.nd rfl (by first | exact Or.inl rfl | exact Or.inr rfl))) (fun _ _ _ _ _ => (pts_one (pt_cmpR op_in_seq (pv 7) (pv 8) rfl))) (fun _ _ _ _ _ => (pv 7))) pa_nil))))) (pss_one (ps_ret (pe_lst pa_nil))) pss_nil)
    (pss_cons (ps_set (i := 9) scRight.nd rfl (by first | exact Or.inl rfl | exact Or.inr rfl) (pe_call G_law_worth (hr.mono (by decide)) rfl D_law_worth.m D_law_worth.F.kp D_law_worth.b .nil pass0 (pa_cons (pv 0) (pa_cons (pe_ix ix_seq (pe_ix ix_seq (pv 3) pe_int (fun _ _ => rfl)) pe_int (fun _ _ => rfl)) (pa_cons (pv 1) pa_nil)))))
    (pss_cons (ps_if (pt_cmpR op_ne (pv 9) (pe_call G_law_room (hr.mono (by decide)) rfl D_law_room.m D_law_room.F.kp D_law_room.b .nil pass0 (pa_cons (pv 0) (pa_cons (pv 8) pa_nil))) (nomark _)) (pss_one (ps_ret (pe_lst pa_nil))) pss_nil)
    (pss_one (ps_ret (pe_lst (pa_cons (pv 9) (pa_cons (pv 8) pa_nil))))))))))))))), ?_⟩
    obtain ⟨xs, hxs, hx⟩ := hls
    have hxl : xs.length = ls.length := hx.1
    -- told
    refine ⟨_, rfl, _, _, rfl, .inl hxs, fun l1 hl1 => ?_⟩
    have s1 := same_new (o := .lst xs) hl1
    refine ⟨_, rfl, _, rfl, 0, l1, ls, st, en, rfl, ⟨xs, .inl (SqL.of upd_same), hx.same s1⟩, fun z => absurd z (by omega), fun _ r hr' => (by rw [hb] at hr'; cases hr'), fun _ _ z => absurd z hse, fun _ _ _ H2 q1 fl rm1 f1 s2 hq1 hq1' hfl0 hfl FF1 => ?_⟩
    have s2' := s1.trans s2
    refine ⟨_, rfl, _, _, rfl, .inl ⟨s2'.seq hxs, fun l2 hl2 => ?_⟩⟩
    have s3 := same_new (o := .tup xs) hl2
    refine ⟨_, rfl, _, rfl, 1, l2, ls, st, en, rfl, ⟨xs, .inr (.inl (.inl upd_same)), hx.same (s2'.trans s3)⟩, fun z => absurd z (by omega), fun _ r hr' => (by rw [hb] at hr'; cases hr'), fun _ _ z => absurd z hse, fun _ _ _ H4 q2 sd rm2 f2 s4 hq2 hq2' hsd0 hsd FF2 => ?_⟩
    refine ⟨sz (Nat.le_of_ble_eq_true rfl), fun td htd => ?_⟩
    rw [if_pos rfl] at hfl
    rw [if_neg (by decide)] at hsd
    generalize hS : pickN f2 0 (nodes ls st en) = S at hsd
    have sA : Same H H4 := (s2'.trans s3).trans s4
    have s5 : Same H4 (upd H4 td (.lst [.ref q1, .ref q2])) := same_new htd
    have s6 : Same H (upd H4 td (.lst [.ref q1, .ref q2])) := sA.trans s5
    have gT : upd H4 td (.lst [.ref q1, .ref q2]) td = some (.lst [.ref q1, .ref q2]) := upd_same
    have g1 : upd H4 td (.lst [.ref q1, .ref q2]) q1 = some (.lst [.str "made", .ref fl]) := (s3.trans (s4.trans s5)) _ _ hq1'
    have g2 : upd H4 td (.lst [.ref q1, .ref q2]) q2 = some (.lst [.str "made", .ref sd]) := s5 _ _ hq2'
    have gF : upd H4 td (.lst [.ref q1, .ref q2]) fl = some (.lst ((List.range ls.length).map fun i => V.int (rmf rm1 (2 * i + 1)))) := (s3.trans (s4.trans s5)) _ _ hfl
    have gS : upd H4 td (.lst [.ref q1, .ref q2]) sd = some (.lst (S.map V.str)) := s5 _ _ hsd
    generalize upd H4 td (.lst [.ref q1, .ref q2]) = H5 at *
    have B := best_of hse hlen FF1 FF2
    rw [hS] at B
    have tl : ∀ H', Same H5 H' → H' td = some (.lst [.ref q1, .ref q2]) ∧ H' q1 = some (.lst [.str "made", .ref fl]) ∧ H' q2 = some (.lst [.str "made", .ref sd]) ∧ H' fl = some (.lst ((List.range ls.length).map fun i => V.int (rmf rm1 (2 * i + 1)))) ∧ H' sd = some (.lst (S.map V.str)) ∧ SqL K H' ll xs ∧ LksAt K H' xs ls := fun H' e => ⟨e _ _ gT, e _ _ g1, e _ _ g2, e _ _ gF, e _ _ gS, (s6.trans e).seq hxs, hx.same (s6.trans e)⟩
    obtain ⟨xT, x1, x2, xF, xS, xl, xk⟩ := tl H5 (Same.refl _)
    have cL : ∀ {H' : Hp} {xs : List V} {a : Addr}, H' a = some (.lst xs) → SqL K H' a xs := fun h => SqL.of h
    refine ⟨_, rfl, _, _, _, _, rfl, rfl, .inl (cL xT), rfl, _, _, _, _, rfl, rfl, .inl (cL x1), rfl, rfl, _, rfl, if_nd (fun c => absurd rfl c) (fun _ => ?_)⟩
    refine ⟨_, rfl, _, _, _, _, rfl, rfl, .inl (cL xT), rfl, _, _, _, _, rfl, rfl, .inl (cL x2), rfl, rfl, _, rfl, if_nd (fun c => absurd rfl c) (fun _ => ?_)⟩
    refine ⟨_, rfl, _, _, _, _, rfl, rfl, .inl (cL xT), rfl, _, _, _, _, rfl, rfl, .inl (cL x1), rfl, _, _, _, _, _, rfl, .ty _, .base (.lst xF), rfl, _, rfl, ?_⟩
    refine ⟨_, rfl, _, _, _, _, rfl, rfl, .inl (cL xT), rfl, _, _, _, _, rfl, rfl, .inl (cL x1), rfl, _, _, rfl, .inl (cL xF), _, rfl, _, _, rfl, .inl xl, rfl, _, rfl, if_nd (fun c => absurd (by rw [hxl]; simp) c) (fun _ => ?_)⟩
    refine ⟨_, rfl, _, _, rfl, .inl xl, _, rfl, by omega, by omega, ?_⟩
    rw [hxl, Int.toNat_natCast]
    refine for_range (lo := 0) (n := ls.length) (fun i σ' H' => ∃ v4 v5 : Option V, σ' = [some (.ref ll), some (.str st), some (.str en), some (.ref td), v4, v5, none, none, none, none] ∧ H' = H5) ⟨none, none, rfl, rfl⟩ ?_ ?_
    · rintro i σ' H' hi ⟨v4, v5, rfl, rfl⟩
      obtain ⟨l, hl⟩ : ∃ l, ls[i]? = some l := ⟨_, List.getElem?_eq_getElem hi⟩
      obtain ⟨t, ht, hT⟩ := xk.2 i l hl
      have fat : ((List.range ls.length).map fun i => V.int (rmf rm1 (2 * i + 1)))[i]? = some (.int (rmf rm1 (2 * i + 1))) := by
        rw [List.getElem?_map, List.getElem?_range hi]; rfl
      obtain ⟨c1, c2, c3⟩ := FF1.caps i hi
      have er : rOf ls i = l.2.2 := by unfold rOf; rw [getD_of hl]
      rw [er] at c3
      generalize rmf rm1 (2 * i + 1) = am at *
      refine ⟨_, rfl, _, _, _, _, rfl, rfl, .inl (cL xT), rfl, _, _, _, _, rfl, rfl, .inl (cL x1), rfl, _, rfl, _, _, _, _, rfl, rfl, .inl (cL xF), at_of (by omega) fat, ?_⟩
      refine ⟨_, rfl, _, _, _, _, _, rfl, .ty _, .base (.int am), rfl, _, rfl, _, rfl, _, _, _, _, _, rfl, .ty _, .base (.int am), rfl, _, rfl, _, rfl, _, _, rfl, rfl, _, rfl, if_d (fun c => absurd c (by omega)) (fun _ => ?_)⟩
      refine ⟨_, rfl, _, rfl, _, rfl, _, _, _, _, rfl, rfl, .inl xl, at_of (by omega) ht, _, _, _, _, rfl, rfl, .inr hT, rfl, _, _, rfl, rfl, _, rfl, if_d (fun c => absurd c (by omega)) (fun _ => ?_)⟩
      exact ⟨_, _, rfl, rfl⟩
    · rintro σ' H' ⟨v4, v5, rfl, rfl⟩
      refine ⟨_, rfl, _, rfl, _, rfl, ll, ls, st, en, rfl, ⟨xs, xl, xk⟩, hlen, fun H6 kn s7 hkn0 hkn => ?_⟩
      obtain ⟨r, er, hr'⟩ := known_tail hse ls
      have hkn' := hkn
      rw [er] at hkn'
      refine ⟨_, rfl, _, rfl, _, _, rfl, SqL.of hkn', fun p hp => ?_⟩
      have ec : cutV ((st :: r).map V.str) (some 1) none = r.map V.str := cut_from _ 1
      rw [ec]
      have s8 : Same H6 (upd H6 p (.lst (r.map V.str))) := same_new hp
      refine ⟨p, rfl, ⟨_, SqL.of upd_same⟩, for_list (K := K) (a := p) (xs := r.map V.str) (fun i σ' H' => ∃ v7 : Option V, σ' = [some (.ref ll), some (.str st), some (.str en), some (.ref td), v4, v5, some (.ref kn), v7, none, none] ∧ Same (upd H6 p (.lst (r.map V.str))) H')
        ⟨none, rfl, Same.refl _⟩ (fun i σ' H' _ ⟨_, _, e⟩ => SqL.of (e _ _ upd_same)) ?_ ?_⟩
      · rintro i x σ' H' hi ⟨v7, rfl, s9⟩
        obtain ⟨y, hy, rfl⟩ := get_map hi
        obtain ⟨y1, y2, y3⟩ := hr' y (List.mem_of_getElem? hy)
        obtain ⟨zT, z1, z2, zF, zS, zl, zk⟩ := tl H' ((s7.trans s8).trans s9)
        refine ⟨_, rfl, _, rfl, _, _, _, _, rfl, rfl, .inl (cL zT), rfl, _, _, _, _, rfl, rfl, .inl (cL z1), rfl, _, rfl, ll, fl, ls, _, y, rfl, ⟨xs, zl, zk⟩, hlen, cL zF, fun H7 s10 => ?_⟩
        rw [even_zero hse FF1 y1 y2 y3]
        exact ⟨rfl, _, rfl, if_nd (fun c => absurd rfl c) (fun _ => ⟨_, rfl, s9.trans s10⟩)⟩
      · rintro σ' H' ⟨v7, rfl, s9⟩
        have sX := (s7.trans s8).trans s9
        obtain ⟨zT, z1, z2, zF, zS, zl, zk⟩ := tl H' sX
        refine ⟨_, rfl, _, _, _, _, rfl, rfl, .inl (cL zT), rfl, _, _, _, _, rfl, rfl, .inl (cL z2), rfl, ?_⟩
        refine ⟨_, rfl, _, _, _, _, _, rfl, .ty _, .base (.lst zS), rfl, _, rfl, ?_⟩
        have e1 : (if true = true then !inV (V.str st) (S.map V.str) else inV (V.str st) (S.map V.str)) = false := by rw [if_pos rfl, inV_str, decide_eq_true B.s0]; rfl
        have e2 : (if false = true then !inV (V.str en) (S.map V.str) else inV (V.str en) (S.map V.str)) = false := by rw [if_neg Bool.false_ne_true, inV_str, decide_eq_false B.e0]
        refine ⟨_, rfl, _, rfl, sd, _, rfl, .inl (cL zS), rfl, flat_strs _, _, rfl, ?_⟩
        rw [e1]
        refine ⟨_, rfl, _, rfl, sd, _, rfl, .inl (cL zS), rfl, flat_strs _, _, rfl, ?_⟩
        rw [e2]
        have knH : ∀ H7, Same H' H7 → SqL K H7 kn ((known ls st en).map V.str) := fun H7 e => SqL.of (e _ _ (s9 _ _ (s8 _ _ hkn)))
        refine ⟨_, rfl, _, rfl, kn, rfl, ⟨_, knH _ (Same.refl _)⟩, fun D hD => ?_⟩
        refine lc_list (K := K) (a := kn) (xs := (known ls st en).map V.str) (fun i H7 => Same H' H7 ∧ H7 D = some (.lst ((((known ls st en).take i).filter fun x => decide (x ∈ S)).map V.str)) ∧ i ≤ 802) ⟨same_new hD, upd_same, Nat.zero_le _⟩ (fun i H7 _ ⟨e, _⟩ => knH _ e) ?_ ?_
        · rintro i x H7 hi ⟨e7, hD7, hi8⟩
          obtain ⟨y, hy, rfl⟩ := get_map hi
          have hkl := known_len st en ls
          have hil := (List.getElem?_eq_some_iff.mp hy).1
          refine ⟨rfl, _, rfl, _, rfl, sd, _, rfl, .inl (SqL.of (e7 _ _ zS)), rfl, flat_strs _, _, rfl, ?_⟩
          have e3 : (if false = true then !inV (V.str y) (S.map V.str) else inV (V.str y) (S.map V.str)) = decide (y ∈ S) := by rw [if_neg Bool.false_ne_true, inV_str]
          rw [e3]
          have e4 : ((known ls st en).take (i + 1)).filter (fun x => decide (x ∈ S)) = ((known ls st en).take i).filter (fun x => decide (x ∈ S)) ++ if decide (y ∈ S) = true then [y] else [] := by
            rw [take_snoc hy, List.filter_append]
            congr 1
            rw [List.filter_cons]; rfl
          refine if_b (fun c => ?_) (fun c => ?_)
          · have hfl : (((known ls st en).take i).filter fun x => decide (x ∈ S)).length ≤ 802 := by
              refine Nat.le_trans (List.length_filter_le _ _) ?_
              rw [List.length_take]; omega
            refine ⟨_, rfl, _, hD7, szl (by rw [List.length_map]; omega), same_put e7 hD, ?_, by omega⟩
            rw [upd_same, e4, if_pos c, List.map_append]; rfl
          · refine ⟨e7, ?_, by omega⟩
            rw [e4, if_neg (by rw [c]; exact Bool.false_ne_true), List.append_nil]; exact hD7
        · rintro H7 ⟨e7, hD7, _⟩
          rw [List.length_map, List.take_length, ← hS, same_side hse FF2, hS] at hD7
          obtain ⟨wT, w1, w2, wF, wS, wl, wk⟩ := tl H7 (sX.trans e7)
          refine ⟨1, _, _, rfl, rfl, .lst (cL wS) (cL hD7) (by rw [List.length_map]; have := B.len; omega) (alike_strs S), _, rfl, ?_⟩
          refine ⟨_, rfl, _, rfl, _, _, _, _, rfl, rfl, .inl (cL wT), rfl, _, _, _, _, rfl, rfl, .inl (cL w1), rfl, _, rfl, ll, fl, ls, _, st, rfl, ⟨xs, wl, wk⟩, hlen, cL wF, fun H8 e8 => ?_⟩
          obtain ⟨uT, u1, u2, uF, uS, ul, uk⟩ := tl H8 ((sX.trans e7).trans e8)
          refine ⟨_, rfl, _, rfl, _, rfl, ll, sd, ls, S, rfl, ⟨xs, ul, uk⟩, hlen, cL uS, fun H9 e9 => ?_⟩
          rw [B.room]
          refine ⟨rfl, _, rfl, if_nd (fun c => absurd rfl c) (fun _ => ?_)⟩
          have sZ := ((s6.trans sX).trans e7).trans (e8.trans e9)
          exact ⟨_, rfl, _, rfl, sz (Nat.le_of_ble_eq_true rfl), fun u hu => k _ u sd _ S (same_put sZ (sZ.free hu)) (sZ.free hu) upd_same (by rw [upd_ne (ne_of_none (e9 _ _ uS) hu)]; exact e9 _ _ uS) B⟩
end
end Kx
namespace Kx
open PySem PySem.Spec PyProof.Rows L2
abbrev sDrawn : Stmt := top 25
def Fair (ls : List Lk) : Prop := ∀ l ∈ ls, 0 ≤ l.2.2 ∧ l.2.2 ≤ 1000000000
theorem Fair.bad {ls : List Lk} (h : Fair ls) : firstBad ls = none := firstBad_none fun j l _ hl => by
  obtain ⟨h1, h2⟩ := h l (List.mem_of_getElem? hl)
  unfold bad1
  rw [decide_eq_true h1, decide_eq_true h2]; rfl
theorem Keep.seqT {K : PySem.W.Frag} {p t : Addr} {H H' : Hp} {xs ys : List V} (k : Keep p H H') (hp : H p = some (.lst ys)) (h : SqT K H t xs) : SqT K H' t xs := by
  rcases h with (h | ⟨o, h⟩) | h
  · exact .inl (.inl (k t _ (fun z => by rw [z, hp] at h; cases h) h))
  · exact .inl (.inr ⟨o, k t _ (fun z => by rw [z, hp] at h; cases h) h⟩)
  · exact .inr h
theorem Keep.free {p q : Addr} {H H' : Hp} (k : Keep p H H') (h : H' q = none) (hq : q ≠ p) : H q = none := by
  cases e : H q with
  | none => rfl
  | some o => rw [k q o hq e] at h; cases h
theorem PoolA.lst {H : Hp} {p a : Addr} {ns : List Int} (h : PoolA H p a ns) : ∃ ys, H p = some (.lst ys) := by
  obtain ⟨_, _, _, _, h1, _⟩ := h
  exact ⟨_, h1⟩
theorem LksAt.keep {K : PySem.W.Frag} {p : Addr} {H H' : Hp} {xs ys : List V} {ls : List Lk} (h : LksAt K H xs ls) (k : Keep p H H') (hp : H p = some (.lst ys)) : LksAt K H' xs ls := ⟨h.1, fun i l hl => by
  obtain ⟨t, h1, h2⟩ := h.2 i l hl
  exact ⟨t, h1, k.seqT hp h2⟩⟩
theorem LksAt.snoc {K : PySem.W.Frag} {H : Hp} {xs : List V} {ls : List Lk} {t : Addr} {l : Lk} (h : LksAt K H xs ls) (ht : SqT K H t [.str l.1, .str l.2.1, .int l.2.2]) : LksAt K H (xs ++ [.ref t]) (ls ++ [l]) := ⟨by rw [List.length_append, List.length_append, h.1]; rfl, fun i l' hl' => by
  by_cases c : i < ls.length
  · rw [List.getElem?_append_left c] at hl'
    obtain ⟨t', h1, h2⟩ := h.2 i l' hl'
    exact ⟨t', by rw [List.getElem?_append_left (by rw [h.1]; exact c)]; exact h1, h2⟩
  · rw [List.getElem?_append_right (by omega)] at hl'
    have e : i - ls.length = 0 := by
      have := (List.getElem?_eq_some_iff.mp hl').1
      simp at this; omega
    rw [e] at hl'
    have e2 : l = l' := Option.some.inj hl'
    subst e2
    exact ⟨t, by rw [List.getElem?_append_right (by rw [h.1]; omega), h.1, e]; rfl, ht⟩⟩
theorem LksAt.take {K : PySem.W.Frag} {H : Hp} {xs : List V} {ls : List Lk} (n : Nat) (h : LksAt K H xs ls) : LksAt K H (xs.take n) (ls.take n) := ⟨by rw [List.length_take, List.length_take, h.1], fun i l hl => by
  rw [List.getElem?_take] at hl
  by_cases c : i < n
  · rw [if_pos c] at hl
    obtain ⟨t, h1, h2⟩ := h.2 i l hl
    exact ⟨t, by rw [List.getElem?_take, if_pos c]; exact h1, h2⟩
  · rw [if_neg c] at hl; cases hl⟩
theorem LksAt.drop {K : PySem.W.Frag} {H : Hp} {xs : List V} {ls : List Lk} (n : Nat) (h : LksAt K H xs ls) : LksAt K H (xs.drop n) (ls.drop n) := ⟨by rw [List.length_drop, List.length_drop, h.1], fun i l hl => by
  rw [List.getElem?_drop] at hl
  obtain ⟨t, h1, h2⟩ := h.2 _ l hl
  exact ⟨t, by rw [List.getElem?_drop]; exact h1, h2⟩⟩
theorem LksAt.app {K : PySem.W.Frag} {H : Hp} {xs ys : List V} {ls ms : List Lk} (h : LksAt K H xs ls) (g : LksAt K H ys ms) : LksAt K H (xs ++ ys) (ls ++ ms) := ⟨by rw [List.length_append, List.length_append, h.1, g.1], fun i l hl => by
  by_cases c : i < ls.length
  · rw [List.getElem?_append_left c] at hl
    obtain ⟨t, h1, h2⟩ := h.2 i l hl
    exact ⟨t, by rw [List.getElem?_append_left (by rw [h.1]; exact c)]; exact h1, h2⟩
  · rw [List.getElem?_append_right (by omega)] at hl
    obtain ⟨t, h1, h2⟩ := g.2 _ l hl
    exact ⟨t, by rw [List.getElem?_append_right (by rw [h.1]; omega), h.1]; exact h1, h2⟩⟩
theorem LksAt.nil {K : PySem.W.Frag} {H : Hp} : LksAt K H [] [] := ⟨rfl, fun i l hl => by simp at hl⟩
def nms : List Str := ["s", "t", "u", "v", "w", "", "a b"]
theorem nms_at {d : Int} (h0 : 0 ≤ d) (h : d < 7 ∨ d = 0) : ∃ x, atI (nms.map V.str) d = some (V.str x) := by
  obtain ⟨j, rfl⟩ : ∃ j : Nat, d = (j : Int) := ⟨d.toNat, by omega⟩
  have hj : j < nms.length := by show j < 7; omega
  refine ⟨nms[j], at_of (j := j) rfl ?_⟩
  rw [List.getElem?_map, List.getElem?_eq_getElem hj]; rfl
def spDrawn (K : PySem.W.Frag) : Sp := fun vs H Q _ => ∃ (p a : Addr) (ns : List Int), vs = [.ref p] ∧ PoolA H p a ns ∧ ∀ H' q ls, PoolA H' p a ns → Keep p H H' → H q = none → LlAt K H' q ls → q ≠ p → ls.length ≤ 14 → Fair ls → Q (.ref q) H'
section
variable {P : Program} {w : World} {K : PySem.W.Frag} {mg : Str → Option Value} {base : Heap}
theorem scDrawn : FnScope ["pool", "names", "links", "large", "k", "one", "two", "room"] ["pool"] (defScope sDrawn) := ⟨rfl, rfl, rfl, by decide +kernel, rfl, by decide +kernel, by decide +kernel⟩
theorem ok_drawn {f fD : Addr} {fd fdD : FuncData} (F : Fun K "_law_drawn" "_law_drawn" sDrawn f fd) (T : TxtS mg) (D_law_draw : DefAt K mg "_law_draw" sDraw ["pool", "bound"] fD fdD) (G_law_draw : FnOk P w K mg base CX0 1 fD fdD ["pool", "bound"] spDraw) : FnOk P w K mg base CX0 2 f fd ["pool"] (spDrawn K) := by
  refine F.ok scDrawn (fun vs H Q E h => ?_) (fun cdv A outer s H vs Q E hr h => ?_)
  · obtain ⟨p, a, ns, rfl, _⟩ := h
    rfl
  · obtain ⟨p, a, ns, rfl, hP, k⟩ := h
    refine ⟨_, (pss_cons (ps_set (i := 1) scDrawn.nd rfl (by first | exact Or.inl rfl | exact Or.inr rfl) (pe_lst (pa_cons pe_str (pa_cons pe_str (pa_cons pe_str (pa_cons pe_str (pa_cons pe_str (pa_cons pe_str (pa_cons pe_str pa_nil)))))))))
    (pss_cons (ps_set (i := 2) scDrawn.nd rfl (by first | exact Or.inl rfl | exact Or.inr rfl) (pe_lst pa_nil))
    (pss_cons (ps_set (i := 3) scDrawn.nd rfl (by first | exact Or.inl rfl | exact Or.inr rfl) (pe_call G_law_draw (hr.mono (by decide)) rfl D_law_draw.m D_law_draw.F.kp D_law_draw.b .nil pass0 (pa_cons (pv 0) (pa_cons pe_int pa_nil))))
    (pss_cons (ps_for PassesOwn.never rfl (pi_range1 rfl T.b_range (pa_cons (pe_call G_law_draw (hr.mono (by decide)) rfl D_law_draw.m D_law_draw.F.kp D_law_draw.b .nil pass0 (pa_cons (pv 0) (pa_cons pe_int pa_nil))) pa_nil)) (pg_name (i := 4) scDrawn.nd rfl (by first | exact Or.inl rfl | exact Or.inr rfl))
      (pss_cons (ps_set (i := 5) scDrawn.nd rfl (by first | exact Or.inl rfl | exact Or.inr rfl) (pe_ix ix_seq (pv 1) (pe_call G_law_draw (hr.mono (by decide)) rfl D_law_draw.m D_law_draw.F.kp D_law_draw.b .nil pass0 (pa_cons (pv 0) (pa_cons pe_int pa_nil))) (fun _ _ => rfl)))
      (pss_cons (ps_set (i := 6) scDrawn.nd rfl (by first | exact Or.inl rfl | exact Or.inr rfl) (pe_ix ix_seq (pv 1) (pe_call G_law_draw (hr.mono (by decide)) rfl D_law_draw.m D_law_draw.F.kp D_law_draw.b .nil pass0 (pa_cons (pv 0) (pa_cons pe_int pa_nil))) (fun _ _ => rfl)))
      (pss_cons (ps_set (i := 7) scDrawn.nd rfl (by first | exact Or.inl rfl | exact Or.inr rfl) (pe_call G_law_draw (hr.mono (by decide)) rfl D_law_draw.m D_law_draw.F.kp D_law_draw.b .nil pass0 (pa_cons (pv 0) (pa_cons pe_int pa_nil))))
      (C8.pss_cut (ps_if (pt_cmpR op_eq (pv 3) pe_int (nomark _)) (pss_one (ps_set (i := 7) scDrawn.nd rfl (by first | exact Or.inl rfl | exact Or.inr rfl) (pe_call G_law_draw (hr.mono (by decide)) rfl D_law_draw.m D_law_draw.F.kp D_law_draw.b .nil pass0 (pa_cons (pv 0) (pa_cons pe_int pa_nil))))) pss_nil)
      (pss_cons (ps_expr (pe_bm PySem.F.plainAttrs_list PySem.F.slot_list_append PySem.F.type_list_append mt_append (pv 2) (pa_cons (pe_tup (pa_cons (pv 5) (pa_cons (pv 6) (pa_cons (pv 7) pa_nil)))) pa_nil)))
      (pss_one (ps_if (pt_cmpR op_eq (pe_call G_law_draw (hr.mono (by decide)) rfl D_law_draw.m D_law_draw.F.kp D_law_draw.b .nil pass0 (pa_cons (pv 0) (pa_cons pe_int pa_nil))) pe_int (nomark _)) (pss_one (ps_expr (pe_bm PySem.F.plainAttrs_list PySem.F.slot_list_append PySem.F.type_list_append mt_append (pv 2) (pa_cons (pe_tup (pa_cons (pv 6) (pa_cons (pv 5) (pa_cons (pe_call G_law_draw (hr.mono (by decide)) rfl D_law_draw.m D_law_draw.F.kp D_law_draw.b .nil pass0 (pa_cons (pv 0) (pa_cons pe_int pa_nil))) pa_nil)))) pa_nil)))) pss_nil))))))))
    (pss_one (ps_ret (pe_slice sl_list (pv 2) po_none (po_some pe_int)))))))), ?_⟩
    refine ⟨sz (Nat.le_of_ble_eq_true rfl), fun nm hnm => ?_⟩
    obtain ⟨nmp, nma⟩ := hP.ne hnm
    have s1 : Same H (upd H nm (.lst (nms.map V.str))) := same_new hnm
    have hN1 : upd H nm (.lst (nms.map V.str)) nm = some (.lst (nms.map V.str)) := upd_same
    have hP1 := hP.same s1
    have e0 : upd H nm (.lst (nms.map V.str)) = upd H nm (.lst [V.str "s", .str "t", .str "u", .str "v", .str "w", .str "", .str "a b"]) := rfl
    rw [← e0]
    generalize upd H nm (.lst (nms.map V.str)) = H1 at *
    refine ⟨by decide, fun L hL => ?_⟩
    obtain ⟨Lp, La⟩ := hP1.ne hL
    have hL0 := s1.free hL
    have hLn : L ≠ nm := fun z => by rw [z, hN1] at hL; cases hL
    have s2 : Same H1 (upd H1 L (.lst [])) := same_new hL
    refine ⟨_, rfl, p, 3, a, ns, rfl, hP1.same s2, by decide, fun H2 lg hP2 kp2 _ _ => ?_⟩
    refine ⟨_, rfl, p, 15, a, ns, rfl, hP2, by decide, fun H3 cnt hP3 kp3 h30 h31 => ?_⟩
    refine ⟨_, rfl, by omega, by omega, ?_⟩
    have kk : Keep p H H3 := (((same_keep s1).trans (same_keep s2)).trans kp2).trans kp3
    refine for_range (lo := 0) (n := cnt.toNat) (fun i σ' H' => ∃ (v4 v5 v6 v7 : Option V) (xs : List V) (ls : List Lk), σ' = [some (.ref p), some (.ref nm), some (.ref L), some (.int lg), v4, v5, v6, v7] ∧ PoolA H' p a ns ∧ Keep p H H' ∧ H' nm = some (.lst (nms.map V.str)) ∧ H' L = some (.lst xs) ∧ LksAt K H' xs ls ∧ Fair ls ∧ ls.length ≤ 2 * i)
      ⟨none, none, none, none, [], [], rfl, hP3, kk, kp3 _ _ nmp (kp2 _ _ nmp (s2 _ _ hN1)), kp3 _ _ Lp (kp2 _ _ Lp upd_same), .nil, (fun l hl => by cases hl), Nat.zero_le _⟩ ?_ ?_
    · rintro i σ' H' hi ⟨v4, v5, v6, v7, xs, ls, rfl, hP4, k4, hN4, hL4, hx4, fr, hln⟩
      refine ⟨_, rfl, _, rfl, p, 7, a, ns, rfl, hP4, by decide, fun H5 d1 hP5 k5 h50 h51 => ?_⟩
      have hN5 := k5 _ _ nmp hN4
      obtain ⟨one, hone⟩ := nms_at h50 h51
      refine ⟨nm, _, d1, _, rfl, rfl, (.inl (SqL.of hN5)), hone, ?_⟩
      refine ⟨_, rfl, _, rfl, p, 7, a, ns, rfl, hP5, by decide, fun H6 d2 hP6 k6 h60 h61 => ?_⟩
      have hN6 := k6 _ _ nmp hN5
      obtain ⟨two, htwo⟩ := nms_at h60 h61
      refine ⟨nm, _, d2, _, rfl, rfl, (.inl (SqL.of hN6)), htwo, ?_⟩
      refine ⟨_, rfl, p, 10, a, ns, rfl, hP6, by decide, fun H7 d3 hP7 k7 h70 h71 => ?_⟩
      refine ⟨fun σ'' H'' => ∃ r, σ'' = [some (.ref p), some (.ref nm), some (.ref L), some (.int lg), some (.int (0 + (i : Int))), some (.str one), some (.str two), some (.int r)] ∧ PoolA H'' p a ns ∧ Keep p H' H'' ∧ 0 ≤ r ∧ r ≤ 1000000000, ?_, ?_⟩
      · refine ⟨_, rfl, rfl, _, rfl, if_d (fun c => ?_) (fun c => ?_)⟩
        · refine ⟨_, rfl, p, 1000000001, a, ns, rfl, hP7, by decide, fun H8 d4 hP8 k8 h80 h81 => ?_⟩
          exact ⟨_, rfl, hP8, ((k5.trans k6).trans k7).trans k8, h80, by omega⟩
        · exact ⟨_, rfl, hP7, (k5.trans k6).trans k7, h70, by omega⟩
      · rintro σ' H8 ⟨r, rfl, hP8, k8, r0, r1⟩
        have hN8 := k8 _ _ nmp hN4
        have hL8 := k8 _ _ Lp hL4
        obtain ⟨ys, hpl⟩ := hP4.lst
        have hx8 := hx4.keep k8 hpl
        have hlx := hx8.1
        refine ⟨_, rfl, .inl ⟨rfl, _, SqL.of hL8⟩, _, rfl, _, rfl, _, rfl, sz (Nat.le_of_ble_eq_true rfl), fun t ht => ?_⟩
        have st : Same H8 (upd H8 t (.tup [.str one, .str two, .int r])) := same_new ht
        refine ⟨L, _, _, rfl, rfl, st _ _ hL8, szl (by omega), ?_⟩
        have tL : t ≠ L := fun z => by rw [z, hL8] at ht; cases ht
        have tT : SqT K (upd (upd H8 t (.tup [.str one, .str two, .int r])) L (.lst (xs ++ [.ref t]))) t [.str one, .str two, .int r] := .inl (.inl (by rw [upd_ne tL, upd_same]))
        have hLA : upd (upd H8 t (.tup [.str one, .str two, .int r])) L (.lst (xs ++ [.ref t])) L = some (.lst (xs ++ [.ref t])) := upd_same
        have kL : Keep L (upd H8 t (.tup [.str one, .str two, .int r])) (upd (upd H8 t (.tup [.str one, .str two, .int r])) L (.lst (xs ++ [.ref t]))) := Keep.refl.upd
        have hPA := (hP8.same st).keep kL Lp La
        have hNA := kL _ _ hLn.symm (st _ _ hN8)
        have hxA : LksAt K (upd (upd H8 t (.tup [.str one, .str two, .int r])) L (.lst (xs ++ [.ref t]))) (xs ++ [.ref t]) (ls ++ [(one, two, r)]) := ((hx8.same st).keep kL (st _ _ hL8)).snoc tT
        have kA : Keep p H (upd (upd H8 t (.tup [.str one, .str two, .int r])) L (.lst (xs ++ [.ref t]))) := ((k4.trans k8).trans (same_keep st)).put hL0
        have frA : Fair (ls ++ [(one, two, r)]) := fun l hl => by
          rcases List.mem_append.mp hl with z | z
          · exact fr l z
          · rw [List.mem_singleton.mp z]; exact ⟨r0, r1⟩
        have lnA : (ls ++ [(one, two, r)]).length = ls.length + 1 := by rw [List.length_append]; rfl
        generalize upd (upd H8 t (.tup [.str one, .str two, .int r])) L (.lst (xs ++ [.ref t])) = HA at *
        refine ⟨_, rfl, p, 4, a, ns, rfl, hPA, by decide, fun H9 d5 hP9 k9 _ _ => ⟨rfl, _, rfl, if_d (fun c => ?_) (fun c => ?_)⟩⟩
        · have hL9 := k9 _ _ Lp hLA
          refine ⟨_, rfl, .inl ⟨rfl, _, SqL.of hL9⟩, _, rfl, _, rfl, _, rfl, p, 10, a, ns, rfl, hP9, by decide, fun H10 d6 hP10 k10 hA0 hA1 => ?_⟩
          refine ⟨sz (Nat.le_of_ble_eq_true rfl), fun t2 ht2 => ?_⟩
          have hL10 := k10 _ _ Lp hL9
          obtain ⟨ysA, hplA⟩ := hPA.lst
          have hx10 := hxA.keep (k9.trans k10) hplA
          have hlx2 := hx10.1
          have st2 : Same H10 (upd H10 t2 (.tup [.str two, .str one, .int d6])) := same_new ht2
          have tL2 : t2 ≠ L := fun z => by rw [z, hL10] at ht2; cases ht2
          refine ⟨L, _, _, rfl, rfl, st2 _ _ hL10, szl (by omega), ?_⟩
          have kL2 : Keep L (upd H10 t2 (.tup [.str two, .str one, .int d6])) (upd (upd H10 t2 (.tup [.str two, .str one, .int d6])) L (.lst ((xs ++ [.ref t]) ++ [.ref t2]))) := Keep.refl.upd
          refine ⟨_, _, _, _, _, (ls ++ [(one, two, r)]) ++ [(two, one, d6)], rfl, (hP10.same st2).keep kL2 Lp La, (((kA.trans k9).trans k10).trans (same_keep st2)).put hL0, kL2 _ _ hLn.symm (st2 _ _ (k10 _ _ nmp (k9 _ _ nmp hNA))), upd_same,
            ((hx10.same st2).keep kL2 (st2 _ _ hL10)).snoc (.inl (.inl (by rw [upd_ne tL2, upd_same]))), fun l hl => ?_, by rw [List.length_append, lnA]; show ls.length + 1 + 1 ≤ 2 * (i + 1); omega⟩
          rcases List.mem_append.mp hl with z | z
          · exact frA l z
          · rw [List.mem_singleton.mp z]; exact ⟨hA0, by show d6 ≤ 1000000000; omega⟩
        · obtain ⟨ysA, hplA⟩ := hPA.lst
          exact ⟨_, _, _, _, _, ls ++ [(one, two, r)], rfl, hP9, kA.trans k9, k9 _ _ nmp hNA, k9 _ _ Lp hLA, hxA.keep k9 hplA, frA, by rw [lnA]; omega⟩
    · rintro σ' H' ⟨v4, v5, v6, v7, xs, ls, rfl, hP4, k4, hN4, hL4, hx4, fr, hln⟩
      refine ⟨_, rfl, _, rfl, _, _, rfl, SqL.of hL4, fun q hq => ?_⟩
      have ec : cutV xs none (some 14) = xs.take 14 := cut_to _ 14
      rw [ec]
      obtain ⟨qp, qa⟩ := hP4.ne hq
      refine k _ q (ls.take 14) (hP4.same (same_new hq)) (k4.trans (same_keep (same_new hq))) (k4.free hq qp) ⟨_, SqL.of upd_same, (hx4.take 14).same (same_new hq)⟩ qp (by rw [List.length_take]; omega) (fun l hl => fr l (List.mem_of_mem_take hl))
end
end Kx
namespace Kx
open PySem PySem.Spec PyProof.Rows L2
abbrev sSides : Stmt := top 26
def spSides (K : PySem.W.Frag) : Sp := fun vs H Q _ => ∃ (ll sd : Addr) (ls : List Lk) (s e : Str) (W : Int) (S : List Str), vs = [.ref ll, .str s, .str e, .int W, .ref sd] ∧ LlAt K H ll ls ∧ ls.length ≤ 400 ∧ s ≠ e ∧ SqL K H sd (S.map V.str) ∧ Best ls s e W S ∧ ∀ H', Same H H' → Q (.bl true) H'
section
variable {P : Program} {w : World} {K : PySem.W.Frag} {mg : Str → Option Value} {base : Heap}
theorem scSides : FnScope ["links", "start", "end", "worth", "side", "known", "bits", "rest", "held", "name", "room"] ["links", "start", "end", "worth", "side"] (defScope sSides) := ⟨rfl, rfl, rfl, by decide +kernel, rfl, by decide +kernel, by decide +kernel⟩
theorem ok_sides {f fR fK : Addr} {fd fdR fdK : FuncData} (F : Fun K "_law_sides" "_law_sides" sSides f fd) (T : TxtS mg)
    (D_law_room : DefAt K mg "_law_room" sRoom ["links", "side"] fR fdR) (G_law_room : FnOk P w K mg base CX0 1 fR fdR ["links", "side"] (spRoom K))
    (D_law_known : DefAt K mg "_law_known" sKnown ["links", "start", "end"] fK fdK) (G_law_known : FnOk P w K mg base CX0 1 fK fdK ["links", "start", "end"] (spKnown K)) : FnOk P w K mg base CX0 2 f fd ["links", "start", "end", "worth", "side"] (spSides K) := by
  refine F.ok scSides (fun vs H Q E h => ?_) (fun cdv A outer s H vs Q E hr h => ?_)
  · obtain ⟨ll, sd, ls, s, e, W, S, rfl, _⟩ := h
    rfl
  · obtain ⟨ll, sd, ls, st, en, W, S, rfl, hls, hlen, hse, hsd, B, k⟩ := h
    refine ⟨_, (pss_cons (ps_set (i := 5) scSides.nd rfl (by first | exact Or.inl rfl | exact Or.inr rfl) (pe_slice sl_list (pe_call G_law_known (hr.mono (by decide)) rfl D_law_known.m D_law_known.F.kp D_law_known.b .nil pass0 (pa_cons (pv 0) (pa_cons (pv 1) (pa_cons (pv 2) pa_nil)))) (po_some pe_int) po_none))
    (pss_cons (ps_for PassesOwn.never rfl (pi_range1 rfl T.b_range (pa_cons pe_int pa_nil)) (pg_name (i := 6) scSides.nd rfl (by first | exact Or.inl rfl | exact Or.inr rfl))
      (pss_cons (ps_set (i := 7) scSides.nd rfl (by first | exact Or.inl rfl | exact Or.inr rfl) (pv 6))
      (pss_cons (ps_set (i := 8) scSides.nd rfl (by first | exact Or.inl rfl | exact Or.inr rfl) (pe_lst (pa_cons (pv 1) pa_nil)))
      (pss_cons (ps_for PassesOwn.never rfl (pi_list (pv 5)) (pg_name (i := 9) scSides.nd rfl (by first | exact Or.inl rfl | exact Or.inr rfl))
        (pss_cons (ps_if (pt_cmpR op_eq (pe_op op_mod (pe_callTy c_int (by rfl) T.b_int (by decide +kernel) (pa_cons (pv 7) pa_nil)) pe_int) pe_int (nomark _)) (pss_one (ps_expr (pe_bm PySem.F.plainAttrs_list PySem.F.slot_list_append PySem.F.type_list_append mt_append (pv 8) (pa_cons (pv 9) pa_nil)))) pss_nil)
        (pss_one (ps_set (i := 7) scSides.nd rfl (by first | exact Or.inl rfl | exact Or.inr rfl) (pe_op op_fdiv (pv 7) pe_int)))))
      (pss_one (ps_if (pt_cmpR op_eq (pv 7) pe_int (nomark _)) (pss_cons (ps_set (i := 10) scSides.nd rfl (by first | exact Or.inl rfl | exact Or.inr rfl) (pe_call G_law_room (hr.mono (by decide)) rfl D_law_room.m D_law_room.F.kp D_law_room.b .nil pass0 (pa_cons (pv 0) (pa_cons (pv 8) pa_nil))))
        (pss_one (ps_if (PW.pt (pw_or (pt_cmpR op_lt (pv 10) (pv 3) (nomark _)) (pw_or1 (PW.pt (pw_and (pt_cmpR op_eq (pv 10) (pv 3) (nomark _)) (pw_and1 (pt_cmpR op_gt (pe_callB c_len (by rfl) T.b_len (by decide +kernel) (pa_cons (pe_lc (g := gName 9) (tt := (tTest (tOp (rIn K true) (tVar 9) (tVar 8)))) (te := (tVar 9)) (own := [("name", 9)]) rfl scSides.nd (pi_list (pv 4)) (blkOk_by (N := ["links", "start", "end", "worth", "side", "known", "bits", "rest", "held", "name", "room"]) (sc := defScope sSides) (own := [("name", 9)]) (by decide +kernel)) (fun _ _ _ _ _ => (pg_name (i := 9) scSides.nd rfl (by first | exact Or.inl rfl | exact Or.inr rfl))) (fun _ _ _ _ _ => (pts_one (pt_cmpR op_notIn_seq (pv 9) (pv 8) rfl))) (fun _ _ _ _ _ => (pv 9))) pa_nil)) pe_int (nomark _)))))))) (pss_one (ps_ret pe_bl)) pss_nil))) pss_nil))))))
    (pss_one (ps_ret pe_bl)))), ?_⟩
    refine ⟨_, rfl, _, rfl, _, rfl, ll, ls, st, en, rfl, hls, hlen, fun H1 kn s1 hkn0 hkn => ?_⟩
    obtain ⟨r, er, hr'⟩ := known_tail hse ls
    have hkl := known_len st en ls
    rw [er] at hkn hkl
    refine ⟨_, rfl, _, _, rfl, SqL.of hkn, fun p hp => ?_⟩
    have ec : cutV ((st :: r).map V.str) (some 1) none = r.map V.str := cut_from _ 1
    rw [ec]
    have s2 : Same H1 (upd H1 p (.lst (r.map V.str))) := same_new hp
    have hp2 : upd H1 p (.lst (r.map V.str)) p = some (.lst (r.map V.str)) := upd_same
    generalize upd H1 p (.lst (r.map V.str)) = H2 at *
    have s3 := s1.trans s2
    refine ⟨_, rfl, by decide, by decide, for_range (lo := 0) (n := 64) (fun i σ' H' => ∃ v6 v7 v8 v9 v10 : Option V, σ' = [some (.ref ll), some (.str st), some (.str en), some (.int W), some (.ref sd), some (.ref p), v6, v7, v8, v9, v10] ∧ Same H2 H')
      ⟨none, none, none, none, none, rfl, Same.refl _⟩ ?_ ?_⟩
    · rintro i σ' H' hi ⟨v6, v7, v8, v9, v10, rfl, s4⟩
      refine ⟨_, rfl, _, rfl, sz (Nat.le_of_ble_eq_true rfl), fun hd hhd => ?_⟩
      have s5 : Same H' (upd H' hd (.lst [.str st])) := same_new hhd
      have hpH := s5 _ _ (s4 _ _ hp2)
      have hhp : hd ≠ p := fun z => by rw [z, s4 _ _ hp2] at hhd; cases hhd
      refine ⟨_, rfl, p, rfl, ⟨_, SqL.of hpH⟩, for_list (K := K) (a := p) (xs := r.map V.str) (fun j σ'' H'' => ∃ (v9 : Option V) (x : Int) (T : List Str), σ'' = [some (.ref ll), some (.str st), some (.str en), some (.int W), some (.ref sd), some (.ref p), some (.int (0 + (i : Int))), some (.int x), some (.ref hd), v9, v10] ∧ Same H' H'' ∧ H'' hd = some (.lst (T.map V.str)) ∧ st ∈ T ∧ (∀ x ∈ T, x = st ∨ x ∈ r) ∧ T.length ≤ 1 + j)
        ⟨v9, _, [st], rfl, s5, upd_same, by simp, fun x hx => .inl (List.mem_singleton.mp hx), Nat.le_refl _⟩ (fun j σ'' H'' _ ⟨_, _, _, _, e, _⟩ => SqL.of (e _ _ (s4 _ _ hp2))) ?_ ?_⟩
      · rintro j y σ'' H'' hy ⟨v9, x, T, rfl, s6, hT, t1, t2, t3⟩
        obtain ⟨z, hz, rfl⟩ := get_map hy
        have hjl := (List.getElem?_eq_some_iff.mp hz).1
        rw [List.length_cons] at hkl
        refine ⟨_, rfl, .inl ⟨_, rfl, _, _, rfl, rfl, (by show (0 : Int) < 2; decide), rfl, _, rfl, if_d (fun c => ?_) (fun c => ?_)⟩⟩
        · refine ⟨_, rfl, .inl ⟨rfl, _, SqL.of hT⟩, _, rfl, hd, _, _, rfl, rfl, hT, szl (by rw [List.length_map]; omega), ?_⟩
          refine ⟨_, rfl, _, _, rfl, rfl, ⟨by decide, by decide⟩, ?_⟩
          refine ⟨_, _, T ++ [z], rfl, same_put s6 hhd, ?_, by simp [t1], fun x hx => ?_, by rw [List.length_append]; show T.length + 1 ≤ _; omega⟩
          · rw [upd_same, List.map_append]; rfl
          · rcases List.mem_append.mp hx with q | q
            · exact t2 x q
            · rw [List.mem_singleton.mp q]; exact .inr (List.mem_of_getElem? hz)
        · refine ⟨_, rfl, _, _, rfl, rfl, ⟨by decide, by decide⟩, ?_⟩
          exact ⟨_, _, T, rfl, s6, hT, t1, t2, by omega⟩
      · rintro σ'' H'' ⟨v9, x, T, rfl, s6, hT, t1, t2, t3⟩
        have s7 := (s3.trans s4).trans s6
        refine ⟨_, rfl, rfl, _, rfl, if_d (fun c => ?_) (fun c => ?_)⟩
        · refine ⟨_, rfl, _, rfl, ll, hd, ls, T, rfl, hls.same s7, hlen, SqL.of hT, fun H3 s8 => ?_⟩
          have hen : en ∉ T := fun z => by
            rcases t2 en z with q | q
            · exact hse q.symm
            · exact (hr' en q).2.2 rfl
          obtain ⟨l1, l2⟩ := B.least T t1 hen
          refine ⟨_, rfl, _, rfl, _, _, rfl, rfl, _, rfl, if_d (fun c2 => absurd c2 (by omega)) (fun _ => ?_)⟩
          refine ⟨_, rfl, _, rfl, rfl, _, rfl, if_d (fun c2 => ?_) (fun c2 => ?_)⟩
          · have sub := l2 (V.int.inj c2)
            have sS : ∀ H4, Same H3 H4 → SqL K H4 sd (S.map V.str) := fun H4 e => (s7.trans (s8.trans e)).seq hsd
            refine ⟨_, rfl, sd, rfl, ⟨_, sS _ (Same.refl _)⟩, fun D hD => ?_⟩
            refine lc_list (K := K) (a := sd) (xs := S.map V.str) (fun j H4 => Same H3 H4 ∧ H4 D = some (.lst [])) ⟨same_new hD, upd_same⟩ (fun j H4 _ ⟨e, _⟩ => sS _ e) ?_ ?_
            · rintro j y H4 hy ⟨e4, hD4⟩
              obtain ⟨z, hz, rfl⟩ := get_map hy
              refine ⟨rfl, _, rfl, _, rfl, hd, _, rfl, .inl (SqL.of ((s8.trans e4) _ _ hT)), rfl, flat_strs _, _, rfl, ?_⟩
              have e3 : (if true = true then !inV (V.str z) (T.map V.str) else inV (V.str z) (T.map V.str)) = false := by rw [if_pos rfl, inV_str, decide_eq_true (sub z (List.mem_of_getElem? hz))]; rfl
              rw [e3]
              exact ⟨e4, hD4⟩
            · rintro H4 ⟨e4, hD4⟩
              refine ⟨D, _, rfl, .inl (SqL.of hD4), _, _, rfl, rfl, _, rfl, if_d (fun c3 => absurd c3 (by simp)) (fun _ => ?_)⟩
              exact ⟨_, _, _, _, _, rfl, (s4.trans s6).trans (s8.trans e4)⟩
          · exact ⟨_, _, _, _, _, rfl, (s4.trans s6).trans s8⟩
        · exact ⟨_, _, _, _, _, rfl, s4.trans s6⟩
    · rintro σ' H' ⟨v6, v7, v8, v9, v10, rfl, s4⟩
      exact k _ (s3.trans s4)
end
end Kx
namespace Kx
open PySem PySem.Spec PyProof.Rows L2
/-! ### the ladder, plainly -/
theorem sm_front (g : Nat → Int) : ∀ n : Nat, Fl.sm (n + 1) g = g 0 + Fl.sm n (fun k => g (k + 1))
  | 0 => by show (0 : Int) + g 0 = g 0 + 0; omega
  | n + 1 => by
    have ih := sm_front g n
    show Fl.sm (n + 1) g + g (n + 1) = g 0 + (Fl.sm n (fun k => g (k + 1)) + g (n + 1))
    rw [ih]; omega
theorem sm_turn (g : Nat → Int) {n : Nat} (hn : 0 < n) : Fl.sm n (fun k => g ((k + 1) % n)) = Fl.sm n g := by
  obtain ⟨m, rfl⟩ : ∃ m, n = m + 1 := ⟨n - 1, by omega⟩
  show Fl.sm m (fun k => g ((k + 1) % (m + 1))) + g ((m + 1) % (m + 1)) = _
  rw [sm_front g m, Nat.mod_self, Fl.sm_congr (m := m) (h := fun k => g (k + 1)) fun i hi => by rw [Nat.mod_eq_of_lt (by omega)]]
  omega
theorem sm_list {α : Type} (d : α) (g : α → Int) : ∀ l : List α, Fl.sm l.length (fun k => g (l.getD k d)) = (l.map g).sum
  | [] => rfl
  | x :: r => by
    have ih := sm_list d g r
    rw [List.length_cons, sm_front, List.map_cons, List.sum_cons, ← ih]
    rfl
def cost (S : List Str) (l : Lk) : Int := if l.1 ∈ S ∧ l.2.1 ∉ S then l.2.2 else 0
theorem room_sum (ls : List Lk) (S : List Str) : roomS ls S = (ls.map (cost S)).sum := by
  rw [← sm_list dL]
  refine Fl.sm_congr fun i _ => ?_
  unfold outS rOf cost
  by_cases c1 : (ls.getD i dL).1 ∈ S <;> by_cases c2 : (ls.getD i dL).2.1 ∈ S <;> simp [c1, c2]
theorem perm_sum {a b : List Int} (h : a.Perm b) : a.sum = b.sum := by
  induction h with
  | nil => rfl
  | cons x _ ih => rw [List.sum_cons, List.sum_cons, ih]
  | swap x y l => rw [List.sum_cons, List.sum_cons, List.sum_cons, List.sum_cons]; omega
  | trans _ _ h1 h2 => exact h1.trans h2
theorem room_perm {a b : List Lk} (h : a.Perm b) (S : List Str) : roomS a S = roomS b S := by
  rw [room_sum, room_sum]
  exact perm_sum (h.map _)
theorem subset_len : ∀ {a b : List Str}, a.Nodup → (∀ x ∈ a, x ∈ b) → a.length ≤ b.length
  | [], _, _, _ => Nat.zero_le _
  | x :: r, b, nd, h => by
    obtain ⟨n1, n2⟩ := List.nodup_cons.mp nd
    have hx := h x List.mem_cons_self
    have h1 := subset_len (a := r) (b := b.erase x) n2 fun y hy => (List.mem_erase_of_ne (fun (z : y = x) => n1 (by rw [← z]; exact hy))).mpr (h y (List.mem_cons_of_mem _ hy))
    rw [List.length_erase_of_mem hx] at h1
    have := List.length_pos_of_mem hx
    rw [List.length_cons]; omega
def pN (k : Nat) : Str := Str.ofString "p" ++ Str.ofString (toString (k : Int))
def qN (k : Nat) : Str := Str.ofString "q" ++ Str.ofString (toString (k : Int))
def sN : Str := Str.ofString "s"
def tN : Str := Str.ofString "t"
def allN : List Str := sN :: tN :: ((List.range 19).map pN ++ (List.range 19).map qN)
theorem allN_nd : allN.Nodup := by decide +kernel
theorem pN_inj {i j : Nat} (hi : i < 19) (hj : j < 19) (h : pN i = pN j) : i = j := by
  have e : ∀ k, k < 19 → allN[2 + k]? = some (pN k) := fun k hk => by
    unfold allN
    rw [show 2 + k = (k + 1) + 1 by omega, List.getElem?_cons_succ, List.getElem?_cons_succ, List.getElem?_append_left (by rw [List.length_map, List.length_range]; exact hk), List.getElem?_map, List.getElem?_range hk]
    rfl
  obtain ⟨h1, e1⟩ := List.getElem?_eq_some_iff.mp (e i hi)
  obtain ⟨h2, e2⟩ := List.getElem?_eq_some_iff.mp (e j hj)
  have := (List.getElem_inj allN_nd).mp (e1.trans (h.trans e2.symm))
  omega
theorem qN_at {k : Nat} (hk : k < 19) : allN[21 + k]? = some (qN k) := by
  unfold allN
  rw [show 21 + k = (19 + k + 1) + 1 by omega, List.getElem?_cons_succ, List.getElem?_cons_succ, List.getElem?_append_right (by rw [List.length_map, List.length_range]; omega), List.length_map, List.length_range, show 19 + k - 19 = k by omega, List.getElem?_map, List.getElem?_range hk]
  rfl
theorem pN_at {k : Nat} (hk : k < 19) : allN[2 + k]? = some (pN k) := by
  unfold allN
  rw [show 2 + k = (k + 1) + 1 by omega, List.getElem?_cons_succ, List.getElem?_cons_succ, List.getElem?_append_left (by rw [List.length_map, List.length_range]; exact hk), List.getElem?_map, List.getElem?_range hk]
  rfl
theorem nd_at' {i j : Nat} {x y : Str} (h1 : allN[i]? = some x) (h2 : allN[j]? = some y) (h : x = y) : i = j := by
  obtain ⟨a1, e1⟩ := List.getElem?_eq_some_iff.mp h1
  obtain ⟨a2, e2⟩ := List.getElem?_eq_some_iff.mp h2
  exact (List.getElem_inj allN_nd).mp (e1.trans (h.trans e2.symm))
theorem qN_inj {i j : Nat} (hi : i < 19) (hj : j < 19) (h : qN i = qN j) : i = j := by have := nd_at' (qN_at hi) (qN_at hj) h; omega
theorem pq {i j : Nat} (hi : i < 19) (hj : j < 19) : pN i ≠ qN j := fun h => by have := nd_at' (pN_at hi) (qN_at hj) h; omega
theorem sp {i : Nat} (hi : i < 19) : sN ≠ pN i := fun h => by have := nd_at' (i := 0) rfl (pN_at hi) h; omega
theorem sq {i : Nat} (hi : i < 19) : sN ≠ qN i := fun h => by have := nd_at' (i := 0) rfl (qN_at hi) h; omega
theorem tp {i : Nat} (hi : i < 19) : tN ≠ pN i := fun h => by have := nd_at' (i := 1) rfl (pN_at hi) h; omega
theorem tq {i : Nat} (hi : i < 19) : tN ≠ qN i := fun h => by have := nd_at' (i := 1) rfl (qN_at hi) h; omega
theorem sNtN : sN ≠ tN := fun h => by have := nd_at' (i := 0) (j := 1) rfl rfl h; omega
def tri (n : Nat) (R : Nat → Int) (k : Nat) : List Lk := [(sN, pN k, R k), (pN k, qN ((k + 1) % n), 1000000000), (qN k, tN, 500)]
def lad (n : Nat) (R : Nat → Int) : Nat → List Lk
  | 0 => []
  | i + 1 => lad n R i ++ tri n R i
theorem lad_len (n : Nat) (R : Nat → Int) : ∀ i : Nat, (lad n R i).length = 3 * i
  | 0 => rfl
  | i + 1 => by
    show (lad n R i ++ tri n R i).length = _
    rw [List.length_append, lad_len n R i]
    show 3 * i + 3 = _; omega
theorem lad_fair (n : Nat) (R : Nat → Int) : ∀ i : Nat, (∀ k, k < i → 0 ≤ R k ∧ R k ≤ 1000000000) → Fair (lad n R i)
  | 0, _ => fun l hl => by cases hl
  | i + 1, h => fun l hl => by
    rcases List.mem_append.mp hl with z | z
    · exact lad_fair n R i (fun k hk => h k (by omega)) l z
    · unfold tri at z
      simp only [List.mem_cons, List.mem_nil_iff, or_false] at z
      rcases z with z | z | z <;> rw [z]
      · exact h i (by omega)
      · exact ⟨by show (0 : Int) ≤ 1000000000; decide, by show (1000000000 : Int) ≤ 1000000000; decide⟩
      · exact ⟨by show (0 : Int) ≤ 500; decide, by show (500 : Int) ≤ 1000000000; decide⟩
theorem lad_room (n : Nat) (R : Nat → Int) (S : List Str) : ∀ i : Nat, roomS (lad n R i) S = Fl.sm i (fun k => cost S (sN, pN k, R k) + cost S (pN k, qN ((k + 1) % n), 1000000000) + cost S (qN k, tN, 500))
  | 0 => rfl
  | i + 1 => by
    have ih := lad_room n R S i
    rw [room_sum] at ih ⊢
    show ((lad n R i ++ tri n R i).map (cost S)).sum = Fl.sm i _ + _
    rw [List.map_append, List.sum_append, ih]
    unfold tri
    simp only [List.map_cons, List.map_nil, List.sum_cons, List.sum_nil]
    omega
def term (n : Nat) (R : Nat → Int) (S : List Str) (k : Nat) : Int := (if pN k ∈ S then 0 else R k) + (if pN k ∈ S ∧ qN ((k + 1) % n) ∉ S then 1000000000 else 0) + (if qN ((k + 1) % n) ∈ S then 500 else 0)
theorem lad_term {n : Nat} (hn : 0 < n) (R : Nat → Int) {S : List Str} (hs : sN ∈ S) (ht : tN ∉ S) : roomS (lad n R n) S = Fl.sm n (term n R S) := by
  have h : Fl.sm n (fun k => if qN ((k + 1) % n) ∈ S then (500 : Int) else 0) = Fl.sm n (fun k => if qN k ∈ S then (500 : Int) else 0) := sm_turn (fun k => if qN k ∈ S then (500 : Int) else 0) hn
  have e1 : Fl.sm n (term n R S) = (Fl.sm n (fun k => if pN k ∈ S then 0 else R k) + Fl.sm n (fun k => if pN k ∈ S ∧ qN ((k + 1) % n) ∉ S then (1000000000 : Int) else 0)) + Fl.sm n (fun k => if qN ((k + 1) % n) ∈ S then (500 : Int) else 0) := by
    rw [← Fl.sm_add, ← Fl.sm_add]
    rfl
  have e2 : roomS (lad n R n) S = (Fl.sm n (fun k => cost S (sN, pN k, R k)) + Fl.sm n (fun k => cost S (pN k, qN ((k + 1) % n), 1000000000))) + Fl.sm n (fun k => cost S (qN k, tN, 500)) := by
    rw [← Fl.sm_add, ← Fl.sm_add, lad_room]
  rw [e1, e2, h]
  congr 1
  · congr 1
    · refine Fl.sm_congr fun k _ => ?_
      unfold cost
      by_cases c : pN k ∈ S <;> simp [c, hs]
  · refine Fl.sm_congr fun k _ => ?_
    unfold cost
    simp [ht]
def due (n : Nat) (R : Nat → Int) : Int := Fl.sm n fun k => if 500 < R k then 500 else R k
theorem term_ge (n : Nat) {R : Nat → Int} (S : List Str) {k : Nat} (h : 1 ≤ R k ∧ R k ≤ 999) : (if 500 < R k then 500 else R k) ≤ term n R S k := by
  unfold term
  by_cases c1 : pN k ∈ S <;> by_cases c2 : qN ((k + 1) % n) ∈ S <;> by_cases c3 : 500 < R k <;> simp [c1, c2, c3] <;> omega
def cutL (n : Nat) (R : Nat → Int) : Nat → List Str
  | 0 => [sN]
  | i + 1 => cutL n R i ++ if 500 < R i then [pN i, qN ((i + 1) % n)] else []
theorem cut_mem {n : Nat} {R : Nat → Int} : ∀ {i : Nat} {x : Str}, x ∈ cutL n R i ↔ x = sN ∨ ∃ k, k < i ∧ 500 < R k ∧ (x = pN k ∨ x = qN ((k + 1) % n))
  | 0, x => by
    refine ⟨fun h => .inl (List.mem_singleton.mp h), fun h => ?_⟩
    rcases h with h | ⟨k, hk, _⟩
    · rw [h]; exact List.mem_singleton.mpr rfl
    · omega
  | i + 1, x => by
    have ih := cut_mem (n := n) (R := R) (i := i) (x := x)
    show x ∈ cutL n R i ++ _ ↔ _
    rw [List.mem_append, ih]
    constructor
    · rintro ((h | ⟨k, hk, h⟩) | h)
      · exact .inl h
      · exact .inr ⟨k, by omega, h⟩
      · by_cases c : 500 < R i
        · rw [if_pos c] at h
          simp only [List.mem_cons, List.mem_nil_iff, or_false] at h
          exact .inr ⟨i, by omega, c, h⟩
        · rw [if_neg c] at h; cases h
    · rintro (h | ⟨k, hk, c, h⟩)
      · exact .inl (.inl h)
      · by_cases e : k = i
        · subst e
          rw [if_pos c]
          exact .inr (by simpa using h)
        · exact .inl (.inr ⟨k, by omega, c, h⟩)
theorem mod_inj {n i j : Nat} (hi : i < n) (hj : j < n) (h : (i + 1) % n = (j + 1) % n) : i = j := by
  by_cases c1 : i + 1 = n
  · by_cases c2 : j + 1 = n
    · omega
    · rw [c1, Nat.mod_self, Nat.mod_eq_of_lt (by omega)] at h; omega
  · by_cases c2 : j + 1 = n
    · rw [c2, Nat.mod_self, Nat.mod_eq_of_lt (by omega)] at h; omega
    · rw [Nat.mod_eq_of_lt (by omega), Nat.mod_eq_of_lt (by omega)] at h; omega
def many (R : Nat → Int) : Nat → Nat
  | 0 => 0
  | i + 1 => many R i + if 500 < R i then 1 else 0
theorem cut_len (n : Nat) (R : Nat → Int) : ∀ i : Nat, (cutL n R i).length = 1 + 2 * many R i
  | 0 => rfl
  | i + 1 => by
    show (cutL n R i ++ _).length = 1 + 2 * (many R i + _)
    rw [List.length_append, cut_len n R i]
    by_cases c : 500 < R i <;> simp [c] <;> omega
theorem cut_nd {n : Nat} {R : Nat → Int} (hn : n ≤ 19) (h0 : 0 < n) : ∀ {i : Nat}, i ≤ n → (cutL n R i).Nodup
  | 0, _ => by show [sN].Nodup; simp
  | i + 1, hi => by
    have ih := cut_nd (R := R) hn h0 (i := i) (by omega)
    have hm : (i + 1) % n < 19 := by have := Nat.mod_lt (i + 1) h0; omega
    show (cutL n R i ++ _).Nodup
    by_cases c : 500 < R i
    · rw [if_pos c]
      refine List.nodup_append.mpr ⟨ih, by simp [pq (show i < 19 by omega) hm], fun a ha b hb e => ?_⟩
      subst e
      simp only [List.mem_cons, List.mem_nil_iff, or_false] at hb
      rcases cut_mem.mp ha with z | ⟨k, hk, _, z⟩
      · rcases hb with q | q
        · exact sp (show i < 19 by omega) (z.symm.trans q)
        · exact sq hm (z.symm.trans q)
      · have hmk : (k + 1) % n < 19 := by have := Nat.mod_lt (k + 1) h0; omega
        rcases z with z | z <;> rcases hb with q | q
        · have := pN_inj (by omega) (by omega) (z.symm.trans q); omega
        · exact pq (by omega) hm (z.symm.trans q)
        · exact pq (by omega) hmk (q.symm.trans z)
        · have := mod_inj (show k < n by omega) (by omega) (qN_inj hmk hm (z.symm.trans q)); omega
    · rw [if_neg c, List.append_nil]; exact ih
theorem ladder {n : Nat} {R : Nat → Int} {ls : List Lk} {W : Int} {S : List Str} (hn : n ≤ 19) (h0 : 0 < n) (hR : ∀ k, k < n → 1 ≤ R k ∧ R k ≤ 999) (hp : ls.Perm (lad n R n)) (B : Best ls sN tN W S) : W = due n R ∧ S.length = 1 + 2 * many R n := by
  have cs : sN ∈ cutL n R n := cut_mem.mpr (.inl rfl)
  have ct : tN ∉ cutL n R n := fun z => by
    rcases cut_mem.mp z with q | ⟨k, hk, _, q⟩
    · exact sNtN q.symm
    · rcases q with q | q
      · exact tp (by omega) q
      · exact tq (by have := Nat.mod_lt (k + 1) h0; omega) q
  have cp : ∀ k, k < n → (pN k ∈ cutL n R n ↔ 500 < R k) := fun k hk => by
    rw [cut_mem]
    refine ⟨fun z => ?_, fun z => .inr ⟨k, hk, z, .inl rfl⟩⟩
    rcases z with z | ⟨j, hj, c, z⟩
    · exact absurd z.symm (sp (by omega))
    · rcases z with z | z
      · rw [pN_inj (by omega) (by omega) z]; exact c
      · exact absurd z (pq (by omega) (by have := Nat.mod_lt (j + 1) h0; omega))
  have cq : ∀ k, k < n → (qN ((k + 1) % n) ∈ cutL n R n ↔ 500 < R k) := fun k hk => by
    have hm : (k + 1) % n < 19 := by have := Nat.mod_lt (k + 1) h0; omega
    rw [cut_mem]
    refine ⟨fun z => ?_, fun z => .inr ⟨k, hk, z, .inr rfl⟩⟩
    rcases z with z | ⟨j, hj, c, z⟩
    · exact absurd z.symm (sq hm)
    · rcases z with z | z
      · exact absurd z.symm (pq (by omega) hm)
      · rw [mod_inj hk hj (qN_inj hm (by have := Nat.mod_lt (j + 1) h0; omega) z)]; exact c
  have eC : roomS ls (cutL n R n) = due n R := by
    rw [room_perm hp, lad_term h0 R cs ct]
    refine Fl.sm_congr fun k hk => ?_
    unfold term
    by_cases c : 500 < R k
    · simp [cp k hk, cq k hk, c]
    · simp [cp k hk, cq k hk, c]
  have eS : roomS ls S = Fl.sm n (term n R S) := by rw [room_perm hp, lad_term h0 R B.s0 B.e0]
  obtain ⟨l1, l2⟩ := B.least _ cs ct
  have ge : due n R ≤ Fl.sm n (term n R S) := Fl.sm_le fun k hk => term_ge n S (hR k hk)
  have hW : W = due n R := by
    have := B.room
    omega
  refine ⟨hW, ?_⟩
  have sub1 := l2 (by rw [eC, hW])
  have tight : ∀ k, k < n → (if 500 < R k then 500 else R k) = term n R S k := Fl.sm_eq_of_le (fun k hk => term_ge n S (hR k hk)) (by
    show due n R = _
    rw [← eS, B.room, hW])
  have sub2 : ∀ x ∈ cutL n R n, x ∈ S := fun x hx => by
    rcases cut_mem.mp hx with z | ⟨k, hk, c, z⟩
    · rw [z]; exact B.s0
    · have t := tight k hk
      obtain ⟨r1, r2⟩ := hR k hk
      unfold term at t
      rw [if_pos c] at t
      by_cases c1 : pN k ∈ S
      · by_cases c2 : qN ((k + 1) % n) ∈ S
        · rcases z with z | z <;> rw [z] <;> assumption
        · simp [c1, c2] at t
      · by_cases c2 : qN ((k + 1) % n) ∈ S <;> simp [c1, c2] at t <;> omega
  rw [← cut_len n R n]
  exact Nat.le_antisymm (subset_len B.nd sub1) (subset_len (cut_nd hn h0 (Nat.le_refl _)) sub2)
end Kx
namespace Kx
open PySem PySem.Spec PyProof.Rows L2
abbrev sLaw : Stmt := top 27
theorem LlAt.keep {K : PySem.W.Frag} {p L : Addr} {H H' : Hp} {ys : List V} {ls : List Lk} (h : LlAt K H L ls) (k : Keep p H H') (hp : H p = some (.lst ys)) (hne : L ≠ p) : LlAt K H' L ls := by
  obtain ⟨xs, h1, h2⟩ := h
  refine ⟨xs, ?_, h2.keep k hp⟩
  rcases h1 with (h | ⟨o, h⟩) | h
  · exact .inl (.inl (k _ _ hne h))
  · exact .inl (.inr ⟨o, k _ _ hne h⟩)
  · exact .inr h
theorem str_len : ∀ k : Nat, k < 20 → (Str.ofString (toString (k : Int))).length ≤ 10 := by decide +kernel
theorem log_small : ∀ k : Nat, k < 20 → (k : Int).natAbs.log2 < 1920 := by decide +kernel
theorem sm_range (g : Nat → Int) : ∀ n : Nat, ((List.range n).map g).sum = Fl.sm n g
  | 0 => rfl
  | n + 1 => by
    rw [List.range_succ, List.map_append, List.sum_append, sm_range g n]
    show _ + (g n + 0) = Fl.sm n g + g n
    omega
def rAt (rs : List Int) (k : Nat) : Int := rs.getD k 0
theorem rAt_of {rs : List Int} {k : Nat} (h : k < rs.length) : rs[k]? = some (rAt rs k) := by
  unfold rAt
  rw [List.getD_eq_getElem?_getD, List.getElem?_eq_getElem h]; rfl
theorem rAt_le {rs : List Int} (h : ∀ r ∈ rs, 1 ≤ r ∧ r ≤ 999) {k : Nat} (hk : k < rs.length) : 1 ≤ rAt rs k ∧ rAt rs k ≤ 999 := h _ (List.mem_of_getElem? (rAt_of hk))
theorem many_cnt (rs : List Int) : ∀ i : Nat, i ≤ rs.length → ((rs.take i).filter fun r => decide (500 < r)).length = many (rAt rs) i
  | 0, _ => rfl
  | i + 1, h => by
    have ih := many_cnt rs i (by omega)
    rw [take_snoc (rAt_of (show i < rs.length by omega)), List.filter_append, List.length_append, ih]
    show _ = many (rAt rs) i + _
    congr 1
    by_cases c : 500 < rAt rs i <;> simp [c]
/-- links put into another order -/
theorem perm_lks {K : PySem.W.Frag} {H : Hp} {xs : List V} {ls : List Lk} {pm : List Nat} (h : LksAt K H xs ls) (hp : pm.Perm (List.range ls.length)) : LksAt K H (pm.map fun j => xs.getD j .non) (pm.map fun j => ls.getD j dL) ∧ (pm.map fun j => ls.getD j dL).Perm ls := by
  refine ⟨⟨by rw [List.length_map, List.length_map], fun i l hl => ?_⟩, ?_⟩
  · rw [List.getElem?_map] at hl
    cases e : pm[i]? with
    | none => rw [e] at hl; cases hl
    | some j =>
      rw [e] at hl
      have hj : j < ls.length := List.mem_range.mp (hp.mem_iff.mp (List.mem_of_getElem? e))
      have el : ls.getD j dL = l := Option.some.inj hl
      obtain ⟨t, h1, h2⟩ := h.2 j _ (List.getElem?_eq_getElem hj)
      rw [getD_of (List.getElem?_eq_getElem hj)] at el
      rw [el] at h2
      refine ⟨t, ?_, h2⟩
      rw [List.getElem?_map, e]
      show some (xs.getD j .non) = _
      rw [List.getD_eq_getElem?_getD, h1]; rfl
  · refine (hp.map _).trans ?_
    have e : (List.range ls.length).map (fun j => ls.getD j dL) = ls := by
      refine List.ext_getElem? fun i => ?_
      rw [List.getElem?_map]
      by_cases c : i < ls.length
      · rw [List.getElem?_range c, List.getElem?_eq_getElem c]
        show some (ls.getD i dL) = _
        rw [getD_of (List.getElem?_eq_getElem c)]
      · rw [List.getElem?_eq_none (by rw [List.length_range]; omega), List.getElem?_eq_none (by omega)]; rfl
    rw [e]
theorem firstBad_mid {ls : List Lk} (h : Fair ls) (l : Lk) (r : List Lk) (hb : bad1 l = true) : firstBad (ls ++ l :: r) = some l.2.2 := by
  refine firstBad_at (i := ls.length) (l := l) (fun j l' hj hl' => ?_) (by simp) hb
  rw [List.getElem?_append_left hj] at hl'
  obtain ⟨h1, h2⟩ := h l' (List.mem_of_getElem? hl')
  unfold bad1
  rw [decide_eq_true h1, decide_eq_true h2]; rfl
theorem nodes_rep : ∀ n : Nat, nodes (List.replicate n (sN, tN, (1 : Int))) sN tN = [sN, tN] := by
  have one : ∀ x, x ∈ [sN, tN] → addN [sN, tN] x = [sN, tN] := fun x h => by unfold addN; rw [if_pos h]
  have h : ∀ n : Nat, (List.replicate n (sN, tN, (1 : Int))).foldl (fun ns l => addN (addN ns l.1) l.2.1) [sN, tN] = [sN, tN] := by
    intro n
    induction n with
    | zero => rfl
    | succ n ih =>
      rw [List.replicate_succ, List.foldl_cons]
      show List.foldl _ (addN (addN [sN, tN] sN) tN) _ = _
      rw [one sN (by simp), one tN (by simp)]
      exact ih
  exact h
theorem full_ones {n : Nat} {rooms : List Int} {found : List Nat} (F : Fl.Full (List.replicate n (sN, tN, (1 : Int))).length (nodes (List.replicate n (sN, tN, (1 : Int))) sN tN).length (aOf (nodes (List.replicate n (sN, tN, (1 : Int))) sN tN) (List.replicate n (sN, tN, (1 : Int)))) (bOf (nodes (List.replicate n (sN, tN, (1 : Int))) sN tN) (List.replicate n (sN, tN, (1 : Int)))) (rOf (List.replicate n (sN, tN, (1 : Int)))) (rmf rooms) found) :
    ((List.range (List.replicate n (sN, tN, (1 : Int))).length).map fun i => V.int (rmf rooms (2 * i + 1))) = (List.replicate n (1 : Int)).map V.int := by
  rw [List.length_replicate, List.map_replicate]
  refine List.ext_getElem? fun i => ?_
  by_cases c : i < n
  · rw [List.getElem?_map, List.getElem?_range c, List.getElem?_replicate, if_pos c]
    have hi : i < (List.replicate n (sN, tN, (1 : Int))).length := by rw [List.length_replicate]; exact c
    have e : (List.replicate n (sN, tN, (1 : Int))).getD i dL = (sN, tN, 1) := getD_of (by rw [List.getElem?_replicate, if_pos c])
    have ea : aOf (nodes (List.replicate n (sN, tN, (1 : Int))) sN tN) (List.replicate n (sN, tN, (1 : Int))) i = 0 := by unfold aOf; rw [e]; exact idx_s _ _ _
    have eb : bOf (nodes (List.replicate n (sN, tN, (1 : Int))) sN tN) (List.replicate n (sN, tN, (1 : Int))) i = 1 := by unfold bOf; rw [e]; exact idx_e sNtN _
    have er : rOf (List.replicate n (sN, tN, (1 : Int))) i = 1 := by unfold rOf; rw [e]
    have q := (F.sat hi).1 (by rw [ea]; exact F.h0) (by rw [eb]; exact F.h1)
    rw [er] at q
    show some (V.int (rmf rooms (2 * i + 1))) = _
    rw [q]
  · rw [List.getElem?_eq_none (by rw [List.length_map, List.length_range]; omega), List.getElem?_eq_none (by rw [List.length_replicate]; omega)]
theorem alloc4 {H : Hp} {t1 t2 t3 l : Addr} {o1 o2 o3 o4 : HO} (h1 : H t1 = none) (h2 : upd H t1 o1 t2 = none) (h3 : upd (upd H t1 o1) t2 o2 t3 = none) (h4 : upd (upd (upd H t1 o1) t2 o2) t3 o3 l = none) :
    Same H (upd (upd (upd (upd H t1 o1) t2 o2) t3 o3) l o4) ∧ upd (upd (upd (upd H t1 o1) t2 o2) t3 o3) l o4 t1 = some o1 ∧ upd (upd (upd (upd H t1 o1) t2 o2) t3 o3) l o4 t2 = some o2 ∧ upd (upd (upd (upd H t1 o1) t2 o2) t3 o3) l o4 t3 = some o3 ∧ upd (upd (upd (upd H t1 o1) t2 o2) t3 o3) l o4 l = some o4 := by
  have e1 := same_new (o := o1) h1
  have e2 := same_new (o := o2) h2
  have e3 := same_new (o := o3) h3
  have e4 := same_new (o := o4) h4
  exact ⟨((e1.trans e2).trans e3).trans e4, ((e2.trans e3).trans e4) _ _ upd_same, (e3.trans e4) _ _ upd_same, e4 _ _ upd_same, upd_same⟩
theorem alloc2 {H : Hp} {t1 l : Addr} {o1 o4 : HO} (h1 : H t1 = none) (h4 : upd H t1 o1 l = none) : Same H (upd (upd H t1 o1) l o4) ∧ upd (upd H t1 o1) l o4 t1 = some o1 ∧ upd (upd H t1 o1) l o4 l = some o4 := by
  have e1 := same_new (o := o1) h1
  have e4 := same_new (o := o4) h4
  exact ⟨e1.trans e4, e4 _ _ upd_same, upd_same⟩
theorem getD_some {xs : List V} {j : Nat} (h : j < xs.length) : xs[j]? = some (xs.getD j .non) := by
  rw [List.getD_eq_getElem?_getD, List.getElem?_eq_getElem h]; rfl
end Kx
namespace Kx
open PySem PySem.Spec PyProof.Rows L2
def spLaw (K : PySem.W.Frag) : Sp := fun vs H Q _ => ∃ (a : Addr) (ns : List Int), vs = [.ref a] ∧ SqL K H a (ns.map V.int) ∧ ns.length ≤ 63 ∧ ∀ H', Q (.bl true) H'
section
variable {P : Program} {w : World} {K : PySem.W.Frag} {mg : Str → Option Value} {base : Heap}
theorem scLaw : FnScope ["script", "pool", "links", "ends", "told", "many", "rooms", "k", "ladder", "due", "room", "bad", "at", "wrong", "full", "form"] ["script"] (defScope sLaw) := ⟨rfl, rfl, rfl, by decide +kernel, rfl, by decide +kernel, by decide +kernel⟩
structure LawGs (P : Program) (w : World) (K : PySem.W.Frag) (mg : Str → Option Value) (base : Heap) (f1 f2 f3 f4 f5 f6 f7 f8 : Addr) (d1 d2 d3 d4 d5 d6 d7 d8 : FuncData) : Prop where
  D1 : DefAt K mg "_law_pool" sPool ["script"] f1 d1
  G1 : FnOk P w K mg base CX0 1 f1 d1 ["script"] (spPool K)
  D2 : DefAt K mg "_law_draw" sDraw ["pool", "bound"] f2 d2
  G2 : FnOk P w K mg base CX0 1 f2 d2 ["pool", "bound"] spDraw
  D3 : DefAt K mg "_law_mixed_places" sMix ["pool", "count"] f3 d3
  G3 : FnOk P w K mg base CX0 2 f3 d3 ["pool", "count"] spMix
  D4 : DefAt K mg "_law_same" sSame ["actual", "due"] f4 d4
  G4 : FnOk P w K mg base CX0 3 f4 d4 ["actual", "due"] (spSame K 3)
  D5 : DefAt K mg "_law_tried" sTried ["form", "links", "start", "end"] f5 d5
  G5 : FnOk P w K mg base CX0 7 f5 d5 ["form", "links", "start", "end"] (spTried K)
  D6 : DefAt K mg "_law_right" sRight ["links", "start", "end"] f6 d6
  G6 : FnOk P w K mg base CX0 8 f6 d6 ["links", "start", "end"] (spRight K)
  D7 : DefAt K mg "_law_drawn" sDrawn ["pool"] f7 d7
  G7 : FnOk P w K mg base CX0 2 f7 d7 ["pool"] (spDrawn K)
  D8 : DefAt K mg "_law_sides" sSides ["links", "start", "end", "worth", "side"] f8 d8
  G8 : FnOk P w K mg base CX0 2 f8 d8 ["links", "start", "end", "worth", "side"] (spSides K)
  b_str : mg "str" = none
theorem ok_law {f f1 f2 f3 f4 f5 f6 f7 f8 : Addr} {fd d1 d2 d3 d4 d5 d6 d7 d8 : FuncData} (F : Fun K "law" "law" sLaw f fd) (T : TxtS mg) (A : LawGs P w K mg base f1 f2 f3 f4 f5 f6 f7 f8 d1 d2 d3 d4 d5 d6 d7 d8) : FnOk P w K mg base CX0 9 f fd ["script"] (spLaw K) := by
  refine F.ok scLaw (fun vs H Q E h => ?_) (fun cdv Ar outer s H vs Q E hr h => ?_)
  · obtain ⟨a, ns, rfl, _⟩ := h
    rfl
  · obtain ⟨a0, ns0, rfl, hS, hn, k⟩ := h
    refine ⟨_, (pss_cons (ps_set (i := 1) scLaw.nd rfl (by first | exact Or.inl rfl | exact Or.inr rfl) (pe_call A.G1 (hr.mono (by decide)) rfl A.D1.m A.D1.F.kp A.D1.b .nil pass0 (pa_cons (pv 0) pa_nil)))
    (pss_cons (ps_set (i := 2) scLaw.nd rfl (by first | exact Or.inl rfl | exact Or.inr rfl) (pe_call A.G7 (hr.mono (by decide)) rfl A.D7.m A.D7.F.kp A.D7.b .nil pass0 (pa_cons (pv 1) pa_nil)))
    (pss_cons (ps_for PassesOwn.never rfl (pi_list (pe_lst (pa_cons (pe_tup (pa_cons pe_str (pa_cons pe_str pa_nil))) (pa_cons (pe_tup (pa_cons pe_str (pa_cons pe_str pa_nil))) (pa_cons (pe_tup (pa_cons pe_str (pa_cons pe_str pa_nil))) (pa_cons (pe_tup (pa_cons pe_str (pa_cons pe_str pa_nil))) (pa_cons (pe_tup (pa_cons pe_str (pa_cons pe_str pa_nil))) pa_nil))))))) (pg_name (i := 3) scLaw.nd rfl (by first | exact Or.inl rfl | exact Or.inr rfl))
      (pss_cons (ps_set (i := 4) scLaw.nd rfl (by first | exact Or.inl rfl | exact Or.inr rfl) (pe_call A.G6 (hr.mono (by decide)) rfl A.D6.m A.D6.F.kp A.D6.b .nil pass0 (pa_cons (pv 2) (pa_cons (pe_ix ix_seq (pv 3) pe_int (fun _ _ => rfl)) (pa_cons (pe_ix ix_seq (pv 3) pe_int (fun _ _ => rfl)) pa_nil)))))
      (pss_one (ps_if (PW.pt (pw_or (pt_cmpR op_eq (pe_callB c_len (by rfl) T.b_len (by decide +kernel) (pa_cons (pv 4) pa_nil)) pe_int (nomark _)) (pw_or1 (pt_not (pt_val (pe_call A.G8 (hr.mono (by decide)) rfl A.D8.m A.D8.F.kp A.D8.b .nil pass0 (pa_cons (pv 2) (pa_cons (pe_ix ix_seq (pv 3) pe_int (fun _ _ => rfl)) (pa_cons (pe_ix ix_seq (pv 3) pe_int (fun _ _ => rfl)) (pa_cons (pe_ix ix_seq (pv 4) pe_int (fun _ _ => rfl)) (pa_cons (pe_ix ix_seq (pv 4) pe_int (fun _ _ => rfl)) pa_nil))))))))))) (pss_one (ps_ret pe_bl)) pss_nil))))
    (pss_cons (ps_set (i := 5) scLaw.nd rfl (by first | exact Or.inl rfl | exact Or.inr rfl) (pe_op op_add pe_int (pe_call A.G2 (hr.mono (by decide)) rfl A.D2.m A.D2.F.kp A.D2.b .nil pass0 (pa_cons (pv 1) (pa_cons pe_int pa_nil)))))
    (pss_cons (ps_set (i := 6) scLaw.nd rfl (by first | exact Or.inl rfl | exact Or.inr rfl) (pe_lc (g := gName 7) (tt := tYes) (te := (tOp (rI0 fun i j => .int (i + j)) (tC (.int 1)) (tCall spDraw [] E0 (tCons (tVar 1) (tCons (tC (.int 999)) tNil))))) (own := [("k", 7)]) rfl scLaw.nd (pi_range1 rfl T.b_range (pa_cons (pv 5) pa_nil)) (blkOk_by (N := ["script", "pool", "links", "ends", "told", "many", "rooms", "k", "ladder", "due", "room", "bad", "at", "wrong", "full", "form"]) (sc := defScope sLaw) (own := [("k", 7)]) (by decide +kernel)) (fun _ _ _ _ _ => (pg_name (i := 7) scLaw.nd rfl (by first | exact Or.inl rfl | exact Or.inr rfl))) (fun _ _ _ _ _ => pts_nil) (fun _ _ _ _ _ => (pe_op op_add pe_int (pe_call A.G2 (hr.mono (by decide)) rfl A.D2.m A.D2.F.kp A.D2.b .nil pass0 (pa_cons (pv 1) (pa_cons pe_int pa_nil)))))))
    (pss_cons (ps_set (i := 8) scLaw.nd rfl (by first | exact Or.inl rfl | exact Or.inr rfl) (pe_lst pa_nil))
    (pss_cons (ps_for PassesOwn.never rfl (pi_range1 rfl T.b_range (pa_cons (pv 5) pa_nil)) (pg_name (i := 7) scLaw.nd rfl (by first | exact Or.inl rfl | exact Or.inr rfl))
      (pss_one (ps_set (i := 8) scLaw.nd rfl (by first | exact Or.inl rfl | exact Or.inr rfl) (pe_op op_cat (pv 8) (pe_lst (pa_cons (pe_tup (pa_cons pe_str (pa_cons (pe_op o_catS pe_str (pe_callTy c_str (by rfl) A.b_str (by decide +kernel) (pa_cons (pv 7) pa_nil))) (pa_cons (pe_ix ix_seq (pv 6) (pv 7) (fun _ _ => rfl)) pa_nil)))) (pa_cons (pe_tup (pa_cons (pe_op o_catS pe_str (pe_callTy c_str (by rfl) A.b_str (by decide +kernel) (pa_cons (pv 7) pa_nil))) (pa_cons (pe_op o_catS pe_str (pe_callTy c_str (by rfl) A.b_str (by decide +kernel) (pa_cons (pe_op op_mod (pe_callTy c_int (by rfl) T.b_int (by decide +kernel) (pa_cons (pe_op op_add (pv 7) pe_int) pa_nil)) (pv 5)) pa_nil))) (pa_cons (pe_op op_pow pe_int pe_int) pa_nil)))) (pa_cons (pe_tup (pa_cons (pe_op o_catS pe_str (pe_callTy c_str (by rfl) A.b_str (by decide +kernel) (pa_cons (pv 7) pa_nil))) (pa_cons pe_str (pa_cons pe_int pa_nil)))) pa_nil))))))))
    (pss_cons (ps_set (i := 9) scLaw.nd rfl (by first | exact Or.inl rfl | exact Or.inr rfl) (pe_callB (cr_sum rfl) (by rfl) T.b_sum (by decide +kernel) (pa_cons (pe_lc (g := gName 7) (tt := tYes) (te := (tOp (rIxQ K) (tLst (tCons (tOp (rIxQ K) (tVar 6) (tVar 7)) (tCons (tC (.int 500)) tNil))) (tCB rInt1 (tCons (tOp (rI0 fun i j => .bl (decide (j < i))) (tOp (rIxQ K) (tVar 6) (tVar 7)) (tC (.int 500))) tNil)))) (own := [("k", 7)]) rfl scLaw.nd (pi_range1 rfl T.b_range (pa_cons (pv 5) pa_nil)) (blkOk_by (N := ["script", "pool", "links", "ends", "told", "many", "rooms", "k", "ladder", "due", "room", "bad", "at", "wrong", "full", "form"]) (sc := defScope sLaw) (own := [("k", 7)]) (by decide +kernel)) (fun _ _ _ _ _ => (pg_name (i := 7) scLaw.nd rfl (by first | exact Or.inl rfl | exact Or.inr rfl))) (fun _ _ _ _ _ => pts_nil) (fun _ _ _ _ _ => (pe_ix ix_seq (pe_lst (pa_cons (pe_ix ix_seq (pv 6) (pv 7) (fun _ _ => rfl)) (pa_cons pe_int pa_nil))) (pe_callTy c_int (by rfl) T.b_int (by decide +kernel) (pa_cons (pe_cmpR op_gt (pe_ix ix_seq (pv 6) (pv 7) (fun _ _ => rfl)) pe_int (nomark _)) pa_nil)) (fun _ _ => rfl)))) pa_nil)))
    (pss_cons (ps_set (i := 4) scLaw.nd rfl (by first | exact Or.inl rfl | exact Or.inr rfl) (pe_call A.G6 (hr.mono (by decide)) rfl A.D6.m A.D6.F.kp A.D6.b .nil pass0 (pa_cons (pe_lc (g := gName 7) (tt := tYes) (te := (tOp (rIxQ K) (tVar 8) (tVar 7))) (own := [("k", 7)]) rfl scLaw.nd (pi_list (pe_call A.G3 (hr.mono (by decide)) rfl A.D3.m A.D3.F.kp A.D3.b .nil pass0 (pa_cons (pv 1) (pa_cons (pe_callB c_len (by rfl) T.b_len (by decide +kernel) (pa_cons (pv 8) pa_nil)) pa_nil)))) (blkOk_by (N := ["script", "pool", "links", "ends", "told", "many", "rooms", "k", "ladder", "due", "room", "bad", "at", "wrong", "full", "form"]) (sc := defScope sLaw) (own := [("k", 7)]) (by decide +kernel)) (fun _ _ _ _ _ => (pg_name (i := 7) scLaw.nd rfl (by first | exact Or.inl rfl | exact Or.inr rfl))) (fun _ _ _ _ _ => pts_nil) (fun _ _ _ _ _ => (pe_ix ix_seq (pv 8) (pv 7) (fun _ _ => rfl)))) (pa_cons pe_str (pa_cons pe_str pa_nil)))))
    (pss_cons (ps_if (PW.pt (pw_or (pt_cmpR op_eq (pe_callB c_len (by rfl) T.b_len (by decide +kernel) (pa_cons (pv 4) pa_nil)) pe_int (nomark _)) (pw_or (pt_cmpR op_ne (pe_ix ix_seq (pv 4) pe_int (fun _ _ => rfl)) (pv 9) (nomark _)) (pw_or1 (pt_cmpR op_ne (pe_callB c_len (by rfl) T.b_len (by decide +kernel) (pa_cons (pe_ix ix_seq (pv 4) pe_int (fun _ _ => rfl)) pa_nil)) (pe_op op_add pe_int (pe_op op_mul pe_int (pe_callB c_len (by rfl) T.b_len (by decide +kernel) (pa_cons (pe_lc (g := gName 10) (tt := (tTest (tOp (rI0 fun i j => .bl (decide (j < i))) (tVar 10) (tC (.int 500))))) (te := (tVar 10)) (own := [("room", 10)]) rfl scLaw.nd (pi_list (pv 6)) (blkOk_by (N := ["script", "pool", "links", "ends", "told", "many", "rooms", "k", "ladder", "due", "room", "bad", "at", "wrong", "full", "form"]) (sc := defScope sLaw) (own := [("room", 10)]) (by decide +kernel)) (fun _ _ _ _ _ => (pg_name (i := 10) scLaw.nd rfl (by first | exact Or.inl rfl | exact Or.inr rfl))) (fun _ _ _ _ _ => (pts_one (pt_cmpR op_gt (pv 10) pe_int (nomark _)))) (fun _ _ _ _ _ => (pv 10))) pa_nil)))) (nomark _)))))) (pss_one (ps_ret pe_bl)) pss_nil)
    (pss_cons (ps_set (i := 11) scLaw.nd rfl (by first | exact Or.inl rfl | exact Or.inr rfl) (pe_lst (pa_cons (pe_tup (pa_cons pe_str (pa_cons pe_str (pa_cons (pe_ix ix_seq (pe_lst (pa_cons (pe_op op_add (pe_op op_pow pe_int pe_int) pe_int) (pa_cons (pe_op op_sub pe_int pe_int) pa_nil))) (pe_call A.G2 (hr.mono (by decide)) rfl A.D2.m A.D2.F.kp A.D2.b .nil pass0 (pa_cons (pv 1) (pa_cons pe_int pa_nil))) (fun _ _ => rfl)) pa_nil)))) pa_nil)))
    (pss_cons (ps_set (i := 12) scLaw.nd rfl (by first | exact Or.inl rfl | exact Or.inr rfl) (pe_call A.G2 (hr.mono (by decide)) rfl A.D2.m A.D2.F.kp A.D2.b .nil pass0 (pa_cons (pv 1) (pa_cons (pe_op op_add (pe_callB c_len (by rfl) T.b_len (by decide +kernel) (pa_cons (pv 2) pa_nil)) pe_int) pa_nil))))
    (pss_cons (ps_set (i := 13) scLaw.nd rfl (by first | exact Or.inl rfl | exact Or.inr rfl) (pe_op op_cat (pe_op op_cat (pe_op op_cat (pe_slice sl_list (pv 2) po_none (po_some (pv 12))) (pv 11)) (pe_lst (pa_cons (pe_tup (pa_cons pe_str (pa_cons pe_str (pa_cons (pe_op op_sub pe_int pe_int) pa_nil)))) pa_nil))) (pe_slice sl_list (pv 2) (po_some (pv 12)) po_none)))
    (pss_cons (ps_setLc (i := 14) (g := gName 7) (tt := tYes) (te := (tTup (tCons (tC (.str "s")) (tCons (tC (.str "t")) (tCons (tC (.int 1)) tNil))))) (own := [("k", 7)]) rfl scLaw.nd rfl rfl (sw_true rfl rfl rfl (by decide +kernel)) (pi_range1 rfl T.b_range (pa_cons pe_int pa_nil)) (blkOk_by (N := ["script", "pool", "links", "ends", "told", "many", "rooms", "k", "ladder", "due", "room", "bad", "at", "wrong", "full", "form"]) (sc := defScope sLaw) (own := [("k", 7)]) (by decide +kernel)) (fun _ _ _ _ _ => (pg_name (i := 7) scLaw.nd rfl (by first | exact Or.inl rfl | exact Or.inr rfl))) (fun _ _ _ _ _ => pts_nil) (fun _ _ _ _ _ => (pe_tup (pa_cons pe_str (pa_cons pe_str (pa_cons pe_int pa_nil))))))
    (pss_cons (ps_if (pt_not (pt_val (pe_call A.G4 (hr.mono (by decide)) rfl A.D4.m A.D4.F.kp A.D4.b .nil pass0 (pa_cons (pe_call A.G5 (hr.mono (by decide)) rfl A.D5.m A.D5.F.kp A.D5.b .nil pass0 (pa_cons pe_int (pa_cons (pv 14) (pa_cons pe_str (pa_cons pe_str pa_nil))))) (pa_cons (pe_lst (pa_cons pe_str (pa_cons (pe_lc (g := gName 7) (tt := tYes) (te := (tC (.int 1))) (own := [("k", 7)]) rfl scLaw.nd (pi_range1 rfl T.b_range (pa_cons pe_int pa_nil)) (blkOk_by (N := ["script", "pool", "links", "ends", "told", "many", "rooms", "k", "ladder", "due", "room", "bad", "at", "wrong", "full", "form"]) (sc := defScope sLaw) (own := [("k", 7)]) (by decide +kernel)) (fun _ _ _ _ _ => (pg_name (i := 7) scLaw.nd rfl (by first | exact Or.inl rfl | exact Or.inr rfl))) (fun _ _ _ _ _ => pts_nil) (fun _ _ _ _ _ => pe_int)) pa_nil))) pa_nil))))) (pss_one (ps_ret pe_bl)) pss_nil)
    (pss_cons (ps_for PassesOwn.never rfl (pi_range1 rfl T.b_range (pa_cons pe_int pa_nil)) (pg_name (i := 15) scLaw.nd rfl (by first | exact Or.inl rfl | exact Or.inr rfl))
      (pss_cons (ps_if (PW.pt (pw_or (pt_not (pt_val (pe_call A.G4 (hr.mono (by decide)) rfl A.D4.m A.D4.F.kp A.D4.b .nil pass0 (pa_cons (pe_call A.G5 (hr.mono (by decide)) rfl A.D5.m A.D5.F.kp A.D5.b .nil pass0 (pa_cons (pv 15) (pa_cons (pv 13) (pa_cons pe_str (pa_cons pe_str pa_nil))))) (pa_cons (pe_lst (pa_cons pe_str (pa_cons (pe_ix ix_seq (pe_ix ix_seq (pv 11) pe_int (fun _ _ => rfl)) pe_int (fun _ _ => rfl)) pa_nil))) pa_nil))))) (pw_or1 (pt_not (pt_val (pe_call A.G4 (hr.mono (by decide)) rfl A.D4.m A.D4.F.kp A.D4.b .nil pass0 (pa_cons (pe_call A.G5 (hr.mono (by decide)) rfl A.D5.m A.D5.F.kp A.D5.b .nil pass0 (pa_cons (pv 15) (pa_cons (pv 2) (pa_cons pe_str (pa_cons pe_str pa_nil))))) (pa_cons (pe_lst (pa_cons pe_str (pa_cons pe_str pa_nil))) pa_nil)))))))) (pss_one (ps_ret pe_bl)) pss_nil)
      (pss_one (ps_if (pt_not (pt_val (pe_call A.G4 (hr.mono (by decide)) rfl A.D4.m A.D4.F.kp A.D4.b .nil pass0 (pa_cons (pe_call A.G5 (hr.mono (by decide)) rfl A.D5.m A.D5.F.kp A.D5.b .nil pass0 (pa_cons (pv 15) (pa_cons (pe_op op_cat (pv 14) (pe_lst (pa_cons (pe_tup (pa_cons pe_str (pa_cons pe_str (pa_cons (pe_op op_sub pe_int pe_int) pa_nil)))) pa_nil))) (pa_cons pe_str (pa_cons pe_str pa_nil))))) (pa_cons (pe_lst (pa_cons pe_str (pa_cons pe_int pa_nil))) pa_nil))))) (pss_one (ps_ret pe_bl)) pss_nil))))
    (pss_one (ps_ret pe_bl)))))))))))))))))), ?_⟩
    refine ⟨_, rfl, a0, ns0, rfl, hS, hn, fun H1 p s1 hp0 hPA => ?_⟩
    obtain ⟨a, ns, hP1⟩ := hPA
    refine ⟨_, rfl, p, a, ns, rfl, hP1, fun H2 L ls hP2 k2 hL0 hls2 hLp hlen fair => ?_⟩
    refine ⟨sz (Nat.le_of_ble_eq_true rfl), fun t1 ht1 => ?_⟩
    refine ⟨sz (Nat.le_of_ble_eq_true rfl), fun t2 ht2 => ?_⟩
    refine ⟨sz (Nat.le_of_ble_eq_true rfl), fun t3 ht3 => ?_⟩
    refine ⟨sz (Nat.le_of_ble_eq_true rfl), fun t4 ht4 => ?_⟩
    refine ⟨sz (Nat.le_of_ble_eq_true rfl), fun t5 ht5 => ?_⟩
    refine ⟨sz (Nat.le_of_ble_eq_true rfl), fun le hle => ?_⟩
    have e1 := same_new (o := .tup [V.str "s", .str "t"]) ht1
    have g1 : upd H2 t1 (.tup [V.str "s", .str "t"]) t1 = some (.tup [V.str "s", .str "t"]) := upd_same
    generalize upd H2 t1 (.tup [V.str "s", .str "t"]) = I1 at *
    have e2 := same_new (o := .tup [V.str "t", .str "s"]) ht2
    have g2 : upd I1 t2 (.tup [V.str "t", .str "s"]) t2 = some (.tup [V.str "t", .str "s"]) := upd_same
    generalize upd I1 t2 (.tup [V.str "t", .str "s"]) = I2 at *
    have e3 := same_new (o := .tup [V.str "u", .str "w"]) ht3
    have g3 : upd I2 t3 (.tup [V.str "u", .str "w"]) t3 = some (.tup [V.str "u", .str "w"]) := upd_same
    generalize upd I2 t3 (.tup [V.str "u", .str "w"]) = I3 at *
    have e4 := same_new (o := .tup [V.str "", .str "zz"]) ht4
    have g4 : upd I3 t4 (.tup [V.str "", .str "zz"]) t4 = some (.tup [V.str "", .str "zz"]) := upd_same
    generalize upd I3 t4 (.tup [V.str "", .str "zz"]) = I4 at *
    have e5 := same_new (o := .tup [V.str "a b", .str "s"]) ht5
    have g5 : upd I4 t5 (.tup [V.str "a b", .str "s"]) t5 = some (.tup [V.str "a b", .str "s"]) := upd_same
    generalize upd I4 t5 (.tup [V.str "a b", .str "s"]) = I5 at *
    have e6 := same_new (o := .lst [V.ref t1, .ref t2, .ref t3, .ref t4, .ref t5]) hle
    have g6 : upd I5 le (.lst [V.ref t1, .ref t2, .ref t3, .ref t4, .ref t5]) le = some (.lst [V.ref t1, .ref t2, .ref t3, .ref t4, .ref t5]) := upd_same
    generalize upd I5 le (.lst [V.ref t1, .ref t2, .ref t3, .ref t4, .ref t5]) = H3 at *
    have s3 : Same H2 H3 := ((((e1.trans e2).trans e3).trans e4).trans e5).trans e6
    have ends : ∀ (i : Nat) (x : V), [V.ref t1, .ref t2, .ref t3, .ref t4, .ref t5][i]? = some x → ∃ t s e, x = .ref t ∧ H3 t = some (.tup [V.str s, .str e]) ∧ s ≠ e := by
      intro i x h
      match i, h with
      | 0, h => exact ⟨t1, _, _, (Option.some.inj h).symm, ((((e2.trans e3).trans e4).trans e5).trans e6) _ _ g1, by decide +kernel⟩
      | 1, h => exact ⟨t2, _, _, (Option.some.inj h).symm, (((e3.trans e4).trans e5).trans e6) _ _ g2, by decide +kernel⟩
      | 2, h => exact ⟨t3, _, _, (Option.some.inj h).symm, ((e4.trans e5).trans e6) _ _ g3, by decide +kernel⟩
      | 3, h => exact ⟨t4, _, _, (Option.some.inj h).symm, (e5.trans e6) _ _ g4, by decide +kernel⟩
      | 4, h => exact ⟨t5, _, _, (Option.some.inj h).symm, e6 _ _ g5, by decide +kernel⟩
      | n + 5, h => simp at h
    clear e1 e2 e3 e4 e5 e6 g1 g2 g3 g4 g5 ht1 ht2 ht3 ht4 ht5 hle
    have bad := fair.bad
    have hP3 := hP2.same s3
    have hls3 := hls2.same s3
    refine ⟨le, rfl, ⟨_, SqL.of g6⟩, for_list (K := K) (a := le) (xs := [V.ref t1, .ref t2, .ref t3, .ref t4, .ref t5]) (fun i σ' H' => ∃ v3 v4 : Option V, σ' = [some (.ref a0), some (.ref p), some (.ref L), v3, v4, none, none, none, none, none, none, none, none, none, none, none] ∧ Same H3 H')
      ⟨none, none, rfl, Same.refl _⟩ (fun i σ' H' _ ⟨_, _, _, e⟩ => SqL.of (e _ _ g6)) ?_ ?_⟩
    · rintro i x σ' H' hx ⟨v3, v4, rfl, s4⟩
      obtain ⟨t, s, e, rfl, ht, hse⟩ := ends i x hx
      have tt : ∀ H'', Same H' H'' → SqT K H'' t [V.str s, .str e] := fun H'' z => .inl (.inl (z _ _ (s4 _ _ ht)))
      refine ⟨_, rfl, _, rfl, _, _, _, _, rfl, rfl, .inr (tt _ (Same.refl _)), rfl, _, rfl, _, _, _, _, rfl, rfl, .inr (tt _ (Same.refl _)), rfl, L, ls, s, e, rfl, hls3.same s4, by omega, bad, hse, fun H4 q sd W S s5 hq0 hq hsd B => ?_⟩
      refine ⟨_, rfl, _, _, rfl, .inl (SqL.of hq), rfl, _, rfl, if_d (fun c => by simp at c) (fun _ => ?_)⟩
      refine ⟨_, rfl, _, rfl, _, _, _, _, rfl, rfl, .inr (tt _ s5), rfl, _, rfl, _, _, _, _, rfl, rfl, .inr (tt _ s5), rfl, _, rfl, _, _, _, _, rfl, rfl, .inl (SqL.of hq), rfl, _, rfl, _, _, _, _, rfl, rfl, .inl (SqL.of hq), rfl, L, sd, ls, s, e, W, S, rfl, hls3.same (s4.trans s5), by omega, hse, SqL.of hsd, B, fun H5 s6 => ?_⟩
      exact ⟨_, rfl, _, _, rfl, (s4.trans s5).trans s6⟩
    · rintro σ' H4 ⟨v3, v4, rfl, s4⟩
      have hP4 := hP3.same s4
      have hls4 := hls3.same s4
      refine ⟨_, rfl, p, 18, a, ns, rfl, hP4, by decide, fun H5 d hP5 k5 d0 d1 => ⟨_, _, rfl, rfl, ?_⟩⟩
      obtain ⟨n, hn2⟩ : ∃ n : Nat, 2 + d = (n : Int) := ⟨(2 + d).toNat, by omega⟩
      have e2d : (fun (i j : Int) => V.int (i + j)) 2 d = V.int (n : Int) := congrArg V.int hn2
      rw [e2d]
      have hn19 : n ≤ 19 := by omega
      have hn0 : 0 < n := by omega
      obtain ⟨y4, hy4⟩ := hP4.lst
      have hls5 := hls4.keep k5 hy4 hLp
      -- the rooms
      refine ⟨_, rfl, _, rfl, by omega, by omega, fun D hD => ?_⟩
      obtain ⟨Dp, Da⟩ := hP5.ne hD
      rw [Int.toNat_natCast]
      refine lc_range (lo := 0) (n := n) (fun i H' => ∃ rs : List Int, PoolA H' p a ns ∧ Keep p H5 H' ∧ H' D = some (.lst (rs.map V.int)) ∧ rs.length = i ∧ ∀ r ∈ rs, 1 ≤ r ∧ r ≤ 999)
        ⟨[], hP5.same (same_new hD), same_keep (same_new hD), upd_same, rfl, fun r hr => by cases hr⟩ ?_ ?_
      · rintro i H' hi ⟨rs, hP', k', hD', hl', hr'⟩
        refine ⟨rfl, _, rfl, p, 999, a, ns, rfl, hP', by decide, fun H6 d2 hP6 k6 d20 d21 => ?_⟩
        refine ⟨_, _, rfl, rfl, _, k6 _ _ Dp hD', szl (by rw [List.length_map]; omega), rs ++ [1 + d2], hP6.keep Keep.refl.upd Dp Da, (k'.trans k6).put hD, ?_, by rw [List.length_append, hl']; rfl, fun r hr => ?_⟩
        · rw [upd_same, List.map_append]; rfl
        · rcases List.mem_append.mp hr with z | z
          · exact hr' r z
          · rw [List.mem_singleton.mp z]; omega
      · rintro H6 ⟨rs, hP6, k6, hD6, hl6, hr6⟩
        obtain ⟨y5, hy5⟩ := hP5.lst
        have hls6 := hls5.keep k6 hy5 hLp
        have rat : ∀ k : Nat, k < n → (rs.map V.int)[k]? = some (.int (rAt rs k)) := fun k hk => by rw [List.getElem?_map, rAt_of (by omega)]; rfl
        refine ⟨sz (Nat.le_of_ble_eq_true rfl), fun l0 hl0 => ?_⟩
        have sl0 : Same H6 (upd H6 l0 (.lst [])) := same_new hl0
        have gl0 : upd H6 l0 (.lst []) l0 = some (.lst []) := upd_same
        have hP7 := hP6.same sl0
        generalize upd H6 l0 (.lst []) = H7 at *
        refine ⟨_, rfl, _, rfl, by omega, by omega, ?_⟩
        rw [Int.toNat_natCast]
        refine for_range (lo := 0) (n := n) (fun i σ' H' => ∃ (v7 : Option V) (Ld : Addr) (xs : List V), σ' = [some (.ref a0), some (.ref p), some (.ref L), v3, v4, some (.int (n : Int)), some (.ref D), v7, some (.ref Ld), none, none, none, none, none, none, none] ∧ Same H7 H' ∧ H' Ld = some (.lst xs) ∧ Ld ≠ p ∧ LksAt K H' xs (lad n (rAt rs) i))
          ⟨none, l0, [], rfl, Same.refl _, gl0, (hP6.ne hl0).1, .nil⟩ ?_ ?_
        · rintro i σ' H' hi ⟨v7, Ld, xs, rfl, s8, hLd, hLdp, hlx⟩
          have hD8 : ∀ H'', Same H' H'' → SqL K H'' D (rs.map V.int) := fun H'' z => SqL.of (z _ _ (s8 _ _ (sl0 _ _ hD6)))
          have hm : (i + 1) % n < 20 := by have := Nat.mod_lt (i + 1) hn0; omega
          have eQ : ((0 + (i : Int)) + 1) % (n : Int) = (((i + 1) % n : Nat) : Int) := by rw [Int.zero_add]; rfl
          have hP : V.str (Str.ofString (toString (0 + (i : Int)))) = .str (Str.ofString (toString (i : Int))) := by rw [Int.zero_add]
          have hQ : V.str (Str.ofString (toString (((0 + (i : Int)) + 1) % (n : Int)))) = .str (Str.ofString (toString (((i + 1) % n : Nat) : Int))) := by rw [eQ]
          have lg : (0 + (i : Int)).natAbs.log2 < 1920 := by rw [Int.zero_add]; exact log_small i (by omega)
          have lgQ : (((0 + (i : Int)) + 1) % (n : Int)).natAbs.log2 < 1920 := by rw [eQ]; exact log_small _ hm
          have ln1 : ∀ z : Str, z.length = 1 → z.length + (Str.ofString (toString (i : Int))).length ≤ sizeLine := fun z hz => sz (by have := str_len i (by omega); omega)
          have lnQ : (Str.ofString "q").length + (Str.ofString (toString (((i + 1) % n : Nat) : Int))).length ≤ sizeLine := sz (by have := str_len _ hm; have : (Str.ofString "q").length = 1 := rfl; omega)
          refine ⟨_, rfl, _, rfl, _, rfl, lg, _, _, rfl, hP, ln1 _ rfl, _, rfl, _, rfl, _, _, _, _, rfl, rfl, .inl (hD8 _ (Same.refl _)), at_of (by omega) (rat i hi), sz (Nat.le_of_ble_eq_true rfl), fun t1 ht1 => ?_⟩
          refine ⟨_, rfl, _, rfl, lg, _, _, rfl, hP, ln1 _ rfl, _, rfl, _, _, rfl, rfl, .inl ⟨_, rfl, _, rfl, _, _, rfl, rfl, (by show (0 : Int) < (n : Int); omega), _, rfl, lgQ, _, _, rfl, hQ, lnQ, _, _, rfl, rfl, ⟨by decide, by decide, by decide⟩, sz (Nat.le_of_ble_eq_true rfl), fun t2 ht2 => ?_⟩⟩
          refine ⟨_, rfl, _, rfl, lg, _, _, rfl, hP, ln1 _ rfl, sz (Nat.le_of_ble_eq_true rfl), fun t3 ht3 => ?_⟩
          refine ⟨sz (Nat.le_of_ble_eq_true rfl), fun l4 hl4 => ?_⟩
          obtain ⟨f, g1, g2, g3, g4⟩ := alloc4 (o4 := .lst [.ref t1, .ref t2, .ref t3]) ht1 ht2 ht3 hl4
          have hxl := hlx.1
          rw [lad_len] at hxl
          refine ⟨_, _, _, _, rfl, rfl, f _ _ hLd, g4, sz (by show xs.length + 3 ≤ 100000; omega), fun q hq => ?_⟩
          have fq := same_new (o := .lst (xs ++ [.ref t1, .ref t2, .ref t3])) hq
          refine ⟨_, _, _, rfl, (s8.trans f).trans fq, upd_same, (((hP7.same s8).same f).ne hq).1, ?_⟩
          exact (hlx.same (f.trans fq)).app (((LksAt.nil.snoc (l := (sN, pN i, rAt rs i)) (.inl (.inl (fq _ _ g1)))).snoc (l := (pN i, qN ((i + 1) % n), 1000000000)) (.inl (.inl (fq _ _ g2)))).snoc (l := (qN i, tN, 500)) (.inl (.inl (fq _ _ g3))))
        · rintro σ' H8 ⟨v7, Ld, xs, rfl, s8, hLd, hLdp, hlx⟩
          have hxl := hlx.1
          rw [lad_len] at hxl
          have hP8 := hP7.same s8
          have hD8 : H8 D = some (.lst (rs.map V.int)) := s8 _ _ (sl0 _ _ hD6)
          have hls8 := (hls6.same sl0).same s8
          -- due
          refine ⟨_, rfl, _, rfl, by omega, by omega, fun D2 hD2 => ?_⟩
          rw [Int.toNat_natCast]
          refine lc_range (lo := 0) (n := n) (fun i H' => Same H8 H' ∧ H' D2 = some (.lst (((List.range i).map fun k => if 500 < rAt rs k then (500 : Int) else rAt rs k).map V.int))) ⟨same_new hD2, upd_same⟩ ?_ ?_
          · rintro i H' hi ⟨s9, hD9⟩
            have hr1 := rat i hi
            refine ⟨rfl, _, rfl, _, rfl, _, _, _, _, rfl, rfl, .inl (SqL.of (s9 _ _ hD8)), at_of (by omega) hr1, sz (Nat.le_of_ble_eq_true rfl), fun u hu => ?_⟩
            have su := same_new (o := .lst [.int (rAt rs i), .int 500]) hu
            have eAt : atI [V.int (rAt rs i), .int 500] (if decide (500 < rAt rs i) = true then 1 else 0) = some (.int (if 500 < rAt rs i then 500 else rAt rs i)) := by
              by_cases c : 500 < rAt rs i
              · rw [if_pos (decide_eq_true c), if_pos c]; rfl
              · rw [if_neg (by simpa using c), if_neg c]; rfl
            refine ⟨_, rfl, _, rfl, _, _, _, _, rfl, rfl, .inl (SqL.of ((s9.trans su) _ _ hD8)), at_of (by omega) hr1, _, _, rfl, rfl, .inr ⟨_, rfl, u, _, _, _, rfl, rfl, .inl (SqL.of upd_same), eAt, _, su _ _ hD9, szl (by rw [List.length_map, List.length_map, List.length_range]; omega), same_put (s9.trans su) hD2, ?_⟩⟩
            rw [upd_same, List.range_succ, List.map_append, List.map_append]; rfl
          · rintro H9 ⟨s9, hD9⟩
            refine ⟨D2, _, rfl, SqL.of hD9, ?_⟩
            rw [sm_range]
            have hP9 := hP8.same s9
            have hLd9 := s9 _ _ hLd
            have hls9 := hls8.same s9
            refine ⟨_, rfl, _, rfl, _, _, rfl, .inl (SqL.of hLd9), p, xs.length, a, ns, rfl, hP9, by omega, fun H10 q pm hP10 k10 hq0 hq hperm => ?_⟩
            obtain ⟨y9, hy9⟩ := hP9.lst
            have hLd10 := k10 _ _ hLdp hLd9
            have hls10 := hls9.keep k10 hy9 hLp
            have hlx10 := (hlx.same s9).keep k10 hy9
            have Dp10 := k10 _ _ Dp (s9 _ _ hD8)
            have hpl : pm.length = xs.length := by rw [hperm.length_eq, List.length_range]
            refine ⟨q, rfl, ⟨_, SqL.of hq⟩, fun D3 hD3 => ?_⟩
            refine lc_list (K := K) (a := q) (xs := pm.map fun (j : Nat) => V.int (j : Int)) (fun i H' => Same H10 H' ∧ H' D3 = some (.lst ((pm.take i).map fun j => xs.getD j .non)) ∧ i ≤ 57) ⟨same_new hD3, upd_same, Nat.zero_le _⟩ (fun i H' _ ⟨z, _⟩ => SqL.of (z _ _ hq)) ?_ ?_
            · rintro i x H' hx ⟨s11, hD11, hi57⟩
              rw [List.getElem?_map] at hx
              cases ej : pm[i]? with
              | none => rw [ej] at hx; cases hx
              | some j =>
                rw [ej] at hx
                have ex : V.int (j : Int) = x := Option.some.inj hx
                subst ex
                have hj : j < xs.length := List.mem_range.mp (hperm.mem_iff.mp (List.mem_of_getElem? ej))
                have hil := (List.getElem?_eq_some_iff.mp ej).1
                refine ⟨rfl, _, rfl, _, rfl, _, _, _, _, rfl, rfl, .inl (SqL.of (s11 _ _ hLd10)), at_of rfl (getD_some hj), _, hD11, szl (by rw [List.length_map, List.length_take]; omega), same_put s11 hD3, ?_, by omega⟩
                rw [upd_same, take_snoc ej, List.map_append]; rfl
            · rintro H11 ⟨s11, hD11, _⟩
              rw [List.length_map, List.take_length] at hD11
              have hperm' : pm.Perm (List.range (lad n (rAt rs) n).length) := by rw [lad_len, ← hxl]; exact hperm
              obtain ⟨lk, lp⟩ := perm_lks (hlx10.same s11) hperm'
              have llen : (pm.map fun j => (lad n (rAt rs) n).getD j dL).length ≤ 400 := by rw [List.length_map]; omega
              have lfair : Fair (pm.map fun j => (lad n (rAt rs) n).getD j dL) := fun l hl => lad_fair n (rAt rs) n (fun k hk => by have := rAt_le hr6 (show k < rs.length by omega); omega) l (lp.mem_iff.mp hl)
              refine ⟨D3, _, sN, tN, rfl, ⟨_, SqL.of hD11, lk⟩, llen, lfair.bad, sNtN, fun H12 q2 sd W S s12 hq20 hq2 hsd B => ?_⟩
              obtain ⟨eW, eS⟩ := ladder hn19 hn0 (fun k hk => rAt_le hr6 (by omega)) lp B
              refine ⟨_, rfl, _, _, rfl, .inl (SqL.of hq2), rfl, _, rfl, if_d (fun c => by simp at c) (fun _ => ?_)⟩
              refine ⟨_, rfl, _, _, _, _, rfl, rfl, .inl (SqL.of hq2), rfl, _, rfl, rfl, _, rfl, if_nd (fun c => absurd (congrArg V.int eW) c) (fun _ => ?_)⟩
              have hD12 : ∀ H', Same H12 H' → SqL K H' D (rs.map V.int) := fun H' z => SqL.of (z _ _ (s12 _ _ (s11 _ _ Dp10)))
              refine ⟨_, rfl, _, _, _, _, rfl, rfl, .inl (SqL.of hq2), rfl, _, _, rfl, .inl (SqL.of hsd), _, rfl, D, rfl, ⟨_, hD12 _ (Same.refl _)⟩, fun D4 hD4 => ?_⟩
              refine lc_list (K := K) (a := D) (xs := rs.map V.int) (fun i H' => Same H12 H' ∧ H' D4 = some (.lst (((rs.take i).filter fun r => decide (500 < r)).map V.int)) ∧ i ≤ 19) ⟨same_new hD4, upd_same, Nat.zero_le _⟩ (fun i H' _ ⟨z, _⟩ => hD12 _ z) ?_ ?_
              · rintro i x H' hx ⟨s13, hD13, hi19⟩
                rw [List.getElem?_map] at hx
                cases er : rs[i]? with
                | none => rw [er] at hx; cases hx
                | some r =>
                  rw [er] at hx
                  have ex : V.int r = x := Option.some.inj hx
                  subst ex
                  have hil := (List.getElem?_eq_some_iff.mp er).1
                  have e4 : (rs.take (i + 1)).filter (fun r => decide (500 < r)) = (rs.take i).filter (fun r => decide (500 < r)) ++ if 500 < r then [r] else [] := by
                    rw [take_snoc er, List.filter_append]
                    congr 1
                    by_cases c : 500 < r <;> simp [c]
                  refine ⟨rfl, _, rfl, _, _, rfl, rfl, _, rfl, if_d (fun c => ?_) (fun c => ?_)⟩
                  · have hfl : ((rs.take i).filter fun r => decide (500 < r)).length ≤ 19 := by
                      refine Nat.le_trans (List.length_filter_le _ _) ?_
                      rw [List.length_take]; omega
                    refine ⟨_, rfl, _, hD13, szl (by rw [List.length_map]; omega), same_put s13 hD4, ?_, by omega⟩
                    rw [upd_same, e4, if_pos c, List.map_append]; rfl
                  · refine ⟨s13, ?_, by omega⟩
                    rw [e4, if_neg c, List.append_nil]; exact hD13
              · rintro H13 ⟨s13, hD13, _⟩
                rw [List.length_map, List.take_length] at hD13
                have ecnt : (rs.filter fun r => decide (500 < r)).length = many (rAt rs) n := by
                  have := many_cnt rs rs.length (Nat.le_refl _)
                  rw [List.take_length, hl6] at this; exact this
                refine ⟨D4, _, rfl, .inl (SqL.of hD13), _, _, rfl, rfl, .inl ⟨by decide, by decide⟩, _, _, rfl, rfl, rfl, _, rfl, if_nd (fun c => absurd ?_ c) (fun _ => ?_)⟩
                · show V.int ((S.map V.str).length : Int) = V.int (1 + 2 * (((rs.filter fun r => decide (500 < r)).map V.int).length : Int))
                  rw [List.length_map, List.length_map, eS, ecnt]
                  congr 1
                have hP13 := ((hP10.same s11).same s12).same s13
                have hls13 := ((hls10.same s11).same s12).same s13
                -- bad
                refine ⟨_, _, rfl, rfl, ⟨by decide, by decide, by decide⟩, _, _, rfl, rfl, _, _, rfl, rfl, sz (Nat.le_of_ble_eq_true rfl), fun u1 hu1 => ?_⟩
                have su1 := same_new (o := .lst [V.int (1000000000 + 1), .int (0 - 1)]) hu1
                have gu1 : upd H13 u1 (.lst [V.int (1000000000 + 1), .int (0 - 1)]) u1 = some (.lst [V.int (1000000000 + 1), .int (0 - 1)]) := upd_same
                have hP14 := hP13.same su1
                obtain ⟨u1p, u1a⟩ := hP13.ne hu1
                refine ⟨_, rfl, p, 2, a, ns, rfl, hP14, by decide, fun H15 d3 hP15 k15 d30 d31 => ?_⟩
                obtain ⟨r, er, hrb⟩ : ∃ r : Int, atI [V.int (1000000000 + 1), .int (0 - 1)] d3 = some (.int r) ∧ bad1 (Str.ofString "u", Str.ofString "v", r) = true := by
                  rcases (show d3 = 0 ∨ d3 = 1 by omega) with z | z <;> rw [z]
                  · exact ⟨_, rfl, by decide +kernel⟩
                  · exact ⟨_, rfl, by decide +kernel⟩
                refine ⟨_, _, _, _, rfl, rfl, .inl (SqL.of (k15 _ _ u1p gu1)), er, sz (Nat.le_of_ble_eq_true rfl), fun tb htb => ?_⟩
                refine ⟨sz (Nat.le_of_ble_eq_true rfl), fun bl hbl => ?_⟩
                obtain ⟨y14, hy14⟩ := hP14.lst
                have hls15 := (hls13.same su1).keep k15 hy14 hLp
                obtain ⟨f15, gtb, gbl⟩ := alloc2 (o4 := .lst [.ref tb]) htb hbl
                have hP16 := hP15.same f15
                have hls16 := hls15.same f15
                have blp := ((hP15.same (same_new htb)).ne hbl).1
                have tbp := (hP15.ne htb).1
                generalize upd (upd H15 tb (.tup [V.str "u", .str "v", .int r])) bl (.lst [.ref tb]) = H16 at *
                obtain ⟨xL, hxL, hkL⟩ := id hls16
                have hLl := hkL.1
                refine ⟨_, rfl, _, rfl, _, _, rfl, .inl hxL, _, _, rfl, rfl, p, _, a, ns, rfl, hP16, by omega, fun H17 ad hP17 k17 ad0 ad1 => ?_⟩
                obtain ⟨m, rfl⟩ : ∃ m : Nat, ad = (m : Int) := ⟨ad.toNat, by omega⟩
                obtain ⟨y16, hy16⟩ := hP16.lst
                have hls17 := hls16.keep k17 hy16 hLp
                have gtb17 := k17 _ _ tbp gtb
                have gbl17 := k17 _ _ blp gbl
                obtain ⟨xM, hxM, hkM⟩ := id hls17
                have hMl := hkM.1
                have ec1 : cutV xM none (some (m : Int)) = xM.take m := cut_to _ m
                have ec2 : cutV xM (some (m : Int)) none = xM.drop m := cut_from _ m
                -- wrong
                refine ⟨_, rfl, _, rfl, _, rfl, _, _, rfl, hxM, fun w1 hw1 => ?_⟩
                rw [ec1]
                have q1 := same_new (o := .lst (xM.take m)) hw1
                have c1 : upd H17 w1 (.lst (xM.take m)) w1 = some (.lst (xM.take m)) := upd_same
                generalize upd H17 w1 (.lst (xM.take m)) = J1 at *
                have hz : (xM.take m).length + [V.ref tb].length ≤ sizeLine := sz (by rw [List.length_take]; show _ + 1 ≤ 100000; omega)
                refine ⟨_, rfl, _, _, _, _, rfl, rfl, c1, q1 _ _ gbl17, hz, fun w2 hw2 => ?_⟩
                have q2' := same_new (o := .lst (xM.take m ++ [V.ref tb])) hw2
                have c2 : upd J1 w2 (.lst (xM.take m ++ [V.ref tb])) w2 = some (.lst (xM.take m ++ [V.ref tb])) := upd_same
                generalize upd J1 w2 (.lst (xM.take m ++ [V.ref tb])) = J2 at *
                refine ⟨_, _, rfl, rfl, sz (Nat.le_of_ble_eq_true rfl), fun tv htv => ?_⟩
                refine ⟨sz (Nat.le_of_ble_eq_true rfl), fun w3 hw3 => ?_⟩
                obtain ⟨q3, gtv, c3⟩ := alloc2 (o4 := .lst [.ref tv]) htv hw3
                generalize upd (upd J2 tv (.tup [V.str "v", .str "u", (fun (i j : Int) => V.int (i - j)) 0 5])) w3 (.lst [.ref tv]) = J3 at *
                refine ⟨_, _, _, _, rfl, rfl, q3 _ _ c2, c3, sz (by rw [List.length_append, List.length_take]; show _ + 1 + 1 ≤ 100000; omega), fun w4 hw4 => ?_⟩
                have q4 := same_new (o := .lst (xM.take m ++ [V.ref tb] ++ [V.ref tv])) hw4
                have gtv4 := q4 _ _ gtv
                have c4 : upd J3 w4 (.lst (xM.take m ++ [V.ref tb] ++ [V.ref tv])) w4 = some (.lst (xM.take m ++ [V.ref tb] ++ [V.ref tv])) := upd_same
                have q14 : Same H17 (upd J3 w4 (.lst (xM.take m ++ [V.ref tb] ++ [V.ref tv]))) := ((q1.trans q2').trans q3).trans q4
                generalize upd J3 w4 (.lst (xM.take m ++ [V.ref tb] ++ [V.ref tv])) = J4 at *
                refine ⟨_, rfl, _, rfl, _, rfl, _, _, rfl, q14.seq hxM, fun w5 hw5 => ?_⟩
                rw [ec2]
                have q5 := same_new (o := .lst (xM.drop m)) hw5
                have c5 : upd J4 w5 (.lst (xM.drop m)) w5 = some (.lst (xM.drop m)) := upd_same
                generalize upd J4 w5 (.lst (xM.drop m)) = J5 at *
                refine ⟨_, _, _, _, rfl, rfl, q5 _ _ c4, c5, sz (by rw [List.length_append, List.length_append, List.length_take, List.length_drop]; show _ + 1 + 1 + _ ≤ 100000; omega), fun w6 hw6 => ?_⟩
                have q6 := same_new (o := .lst (xM.take m ++ [V.ref tb] ++ [V.ref tv] ++ xM.drop m)) hw6
                have c6 : upd J5 w6 (.lst (xM.take m ++ [V.ref tb] ++ [V.ref tv] ++ xM.drop m)) w6 = some (.lst (xM.take m ++ [V.ref tb] ++ [V.ref tv] ++ xM.drop m)) := upd_same
                generalize upd J5 w6 (.lst (xM.take m ++ [V.ref tb] ++ [V.ref tv] ++ xM.drop m)) = J6 at *
                have q17 : Same H17 J6 := (q14.trans q5).trans q6
                have wl : LlAt K J6 w6 (ls.take m ++ [(Str.ofString "u", Str.ofString "v", r)] ++ [(Str.ofString "v", Str.ofString "u", 0 - 5)] ++ ls.drop m) :=
                  ⟨_, SqL.of c6, ((((hkM.take m).same q17).snoc (.inl (.inl (q17 _ _ gtb17)))).snoc (.inl (.inl ((q5.trans q6) _ _ gtv4)))).app ((hkM.drop m).same q17)⟩
                have wlen : (ls.take m ++ [(Str.ofString "u", Str.ofString "v", r)] ++ [(Str.ofString "v", Str.ofString "u", 0 - 5)] ++ ls.drop m).length ≤ 400 := by
                  rw [List.length_append, List.length_append, List.length_append, List.length_take, List.length_drop]
                  show _ + 1 + 1 + _ ≤ 400
                  omega
                have wbad : firstBad (ls.take m ++ [(Str.ofString "u", Str.ofString "v", r)] ++ [(Str.ofString "v", Str.ofString "u", 0 - 5)] ++ ls.drop m) = some r := by
                  have e : ls.take m ++ [(Str.ofString "u", Str.ofString "v", r)] ++ [(Str.ofString "v", Str.ofString "u", 0 - 5)] ++ ls.drop m = ls.take m ++ (Str.ofString "u", Str.ofString "v", r) :: ((Str.ofString "v", Str.ofString "u", 0 - 5) :: ls.drop m) := by simp
                  rw [e]
                  exact firstBad_mid (fun l hl => fair l (List.mem_of_mem_take hl)) _ _ hrb
                generalize ls.take m ++ [(Str.ofString "u", Str.ofString "v", r)] ++ [(Str.ofString "v", Str.ofString "u", 0 - 5)] ++ ls.drop m = wr at *
                have hls6' := hls17.same q17
                have gbl6 := q17 _ _ gbl17
                have gtb6 := q17 _ _ gtb17
                -- full
                refine ⟨_, rfl, by decide, by decide, fun D5 hD5 => ?_⟩
                refine lc_range (lo := 0) (n := 400) (fun i H' => ∃ xs : List V, Same J6 H' ∧ H' D5 = some (.lst xs) ∧ LksAt K H' xs (List.replicate i (sN, tN, (1 : Int)))) ⟨[], same_new hD5, upd_same, .nil⟩ ?_ ?_
                · rintro i H' hi ⟨xf, s18, hf, lf⟩
                  have hfl := lf.1
                  rw [List.length_replicate] at hfl
                  refine ⟨rfl, sz (Nat.le_of_ble_eq_true rfl), fun t ht => ?_⟩
                  have st := same_new (o := .tup [V.str "s", .str "t", .int 1]) ht
                  have tD : t ≠ D5 := fun z => by rw [z, hf] at ht; cases ht
                  have kD : Keep D5 (upd H' t (.tup [V.str "s", .str "t", .int 1])) (upd (upd H' t (.tup [V.str "s", .str "t", .int 1])) D5 (.lst (xf ++ [.ref t]))) := Keep.refl.upd
                  refine ⟨_, st _ _ hf, szl (by omega), xf ++ [.ref t], same_put (s18.trans st) hD5, upd_same, ?_⟩
                  rw [List.replicate_succ']
                  exact ((lf.same st).keep kD (st _ _ hf)).snoc (.inl (.inl (by rw [upd_ne tD, upd_same]; rfl)))
                · rintro H18 ⟨xf, s18, hf, lf⟩
                  have hfl := lf.1
                  rw [List.length_replicate] at hfl
                  have ffair : Fair (List.replicate 400 (sN, tN, (1 : Int))) := fun l hl => by
                    rw [List.eq_of_mem_replicate hl]
                    exact ⟨by show (0 : Int) ≤ 1; decide, by show (1 : Int) ≤ 1000000000; decide⟩
                  have flen : (List.replicate 400 (sN, tN, (1 : Int))).length = 400 := List.length_replicate
                  have fones : ∀ (rooms : List Int) (found : List Nat), Fl.Full (List.replicate 400 (sN, tN, (1 : Int))).length (nodes (List.replicate 400 (sN, tN, (1 : Int))) sN tN).length (aOf (nodes (List.replicate 400 (sN, tN, (1 : Int))) sN tN) (List.replicate 400 (sN, tN, (1 : Int)))) (bOf (nodes (List.replicate 400 (sN, tN, (1 : Int))) sN tN) (List.replicate 400 (sN, tN, (1 : Int)))) (rOf (List.replicate 400 (sN, tN, (1 : Int)))) (rmf rooms) found →
                    ((List.range (List.replicate 400 (sN, tN, (1 : Int))).length).map fun i => V.int (rmf rooms (2 * i + 1))) = (List.replicate 400 (1 : Int)).map V.int := fun rooms found F => full_ones F
                  generalize List.replicate 400 (sN, tN, (1 : Int)) = fl at *
                  refine ⟨_, rfl, 0, D5, fl, sN, tN, rfl, ⟨xf, .inl (SqL.of hf), lf⟩, fun z => absurd z (by omega), fun _ r' hr' => (by rw [ffair.bad] at hr'; cases hr'), fun _ _ z => absurd z sNtN, fun _ _ _ H19 q3 l3 rm3 f3 s19 hq30 hq3 hl30 hl3 FF3 => ?_⟩
                  rw [if_pos rfl, fones _ _ FF3] at hl3
                  refine ⟨_, rfl, by decide, by decide, fun D6 hD6' => ?_⟩
                  refine lc_range (lo := 0) (n := 400) (fun i H' => Same H19 H' ∧ H' D6 = some (.lst ((List.replicate i (1 : Int)).map V.int))) ⟨same_new hD6', upd_same⟩ ?_ ?_
                  · rintro i H' hi ⟨s20, hd⟩
                    refine ⟨rfl, _, hd, szl (by rw [List.length_map, List.length_replicate]; omega), same_put s20 hD6', ?_⟩
                    rw [upd_same, List.replicate_succ', List.map_append]; rfl
                  · rintro H20 ⟨s20, hd20⟩
                    refine ⟨sz (Nat.le_of_ble_eq_true rfl), fun u3 hu3 => ?_⟩
                    have su3 := same_new (o := .lst [V.str "made", .ref D6]) hu3
                    have cu3 : upd H20 u3 (.lst [V.str "made", .ref D6]) u3 = some (.lst [V.str "made", .ref D6]) := upd_same
                    generalize upd H20 u3 (.lst [V.str "made", .ref D6]) = J7 at *
                    refine ⟨2, _, _, rfl, rfl, .lst (SqL.of (su3 _ _ (s20 _ _ hq3))) (SqL.of cu3) (Nat.le_of_ble_eq_true rfl) (.cons (.str _) (.cons (.lst (SqL.of (su3 _ _ (s20 _ _ hl3))) (SqL.of (su3 _ _ hd20)) (by rw [List.length_map, List.length_replicate]; decide) (alike_ints _)) .nil)), _, rfl, ?_⟩
                    have sB : Same J6 J7 := ((s18.trans s19).trans s20).trans su3
                    have wl7 := wl.same sB
                    have ls7 := hls6'.same sB
                    have gb7 := sB _ _ gbl6
                    have gt7 := sB _ _ gtb6
                    have hf7 := ((s19.trans s20).trans su3) _ _ hf
                    have lf7 := lf.same ((s19.trans s20).trans su3)
                    refine ⟨_, rfl, by decide, by decide, for_range (lo := 0) (n := 2) (fun i σ' H' => ∃ v15 : Option V, σ' = [some (.ref a0), some (.ref p), some (.ref L), v3, some (.ref q2), some (.int (n : Int)), some (.ref D), v7, some (.ref Ld), some (.int (Fl.sm n fun k => if 500 < rAt rs k then (500 : Int) else rAt rs k)), none, some (.ref bl), some (.int (m : Int)), some (.ref w6), some (.ref D5), v15] ∧ Same J7 H')
                      ⟨none, rfl, Same.refl _⟩ ?_ ?_⟩
                    · rintro i σ' H' hi ⟨v15, rfl, t0⟩
                      refine ⟨_, rfl, _, rfl, _, w6, wr, sN, sN, rfl, (wl7.same t0).ls, fun z => absurd z (by omega), fun _ r' hr' => ?_, fun _ z => (by rw [wbad] at z; cases z), fun _ z => (by rw [wbad] at z; cases z)⟩
                      rw [wbad] at hr'
                      cases hr'
                      intro H21 q21 t1 hq210 hq21
                      have t01 := t0.trans t1
                      refine ⟨_, rfl, _, _, _, _, rfl, rfl, .inl (SqL.of (t01 _ _ gb7)), rfl, _, _, _, _, rfl, rfl, .inr (.inl (.inl (t01 _ _ gt7))), rfl, sz (Nat.le_of_ble_eq_true rfl), fun u4 hu4 => ?_⟩
                      have t2 := same_new (o := .lst [V.str "BadCount", .int r]) hu4
                      refine ⟨2, _, _, rfl, rfl, .lst (SqL.of (t2 _ _ hq21)) (SqL.of upd_same) (Nat.le_of_ble_eq_true rfl) (.cons (.str _) (.cons (.int _) .nil)), _, rfl, ?_⟩
                      have t02 := t01.trans t2
                      generalize upd H21 u4 (.lst [V.str "BadCount", .int r]) = J8 at *
                      refine ⟨_, rfl, _, rfl, _, L, ls, sN, sN, rfl, (ls7.same t02).ls, fun z => absurd z (by omega), fun _ r' hr' => (by rw [bad] at hr'; cases hr'), fun _ _ _ H22 q22 t3 hq220 hq22 => ?_, fun _ _ z => absurd rfl z⟩
                      refine ⟨sz (Nat.le_of_ble_eq_true rfl), fun u5 hu5 => ?_⟩
                      have t4 := same_new (o := .lst [V.str "Duplicate", .str "s"]) hu5
                      refine ⟨2, _, _, rfl, rfl, .lst (SqL.of (t4 _ _ hq22)) (SqL.of upd_same) (Nat.le_of_ble_eq_true rfl) (.cons (.str _) (.cons (.str _) .nil)), _, rfl, ?_⟩
                      have t04 := (t02.trans t3).trans t4
                      generalize upd H22 u5 (.lst [V.str "Duplicate", .str "s"]) = J9 at *
                      refine ⟨_, rfl, _, rfl, _, _, rfl, rfl, sz (Nat.le_of_ble_eq_true rfl), fun u6 hu6 => ?_⟩
                      refine ⟨sz (Nat.le_of_ble_eq_true rfl), fun u7 hu7 => ?_⟩
                      obtain ⟨t5, cu6, cu7⟩ := alloc2 (o4 := .lst [.ref u6]) hu6 hu7
                      have hf9 := t04 _ _ hf7
                      refine ⟨_, _, _, _, rfl, rfl, t5 _ _ hf9, cu7, sz (by show xf.length + 1 ≤ 100000; omega), fun u8 hu8 => ?_⟩
                      have t6 := same_new (o := .lst (xf ++ [.ref u6])) hu8
                      have lm : LksAt K (upd _ u8 (.lst (xf ++ [.ref u6]))) (xf ++ [.ref u6]) (fl ++ [(sN, tN, 0 - 1)]) := (lf7.same ((t04.trans t5).trans t6)).snoc (.inl (.inl (t6 _ _ cu6)))
                      have flen2 : (fl ++ [(sN, tN, (0 : Int) - 1)]).length = 401 := by rw [List.length_append, flen]; rfl
                      refine ⟨_, u8, fl ++ [(sN, tN, 0 - 1)], sN, sN, rfl, ⟨_, .inl (SqL.of upd_same), lm⟩, fun _ H23 q23 t7 hq230 hq23 => ?_, fun z => absurd z (by omega), fun z => absurd z (by omega), fun z => absurd z (by omega)⟩
                      refine ⟨sz (Nat.le_of_ble_eq_true rfl), fun u9 hu9 => ?_⟩
                      have t8 := same_new (o := .lst [V.str "TooMany", .int 400]) hu9
                      refine ⟨2, _, _, rfl, rfl, .lst (SqL.of (t8 _ _ hq23)) (SqL.of upd_same) (Nat.le_of_ble_eq_true rfl) (.cons (.str _) (.cons (.int _) .nil)), _, rfl, ?_⟩
                      exact ⟨_, rfl, (((t04.trans t5).trans t6).trans t7).trans t8⟩
                    · rintro σ' H' ⟨v15, rfl, t0⟩
                      exact k _
end
end Kx
namespace Kx
open PySem PySem.Spec PyProof.Rows L2
section
variable {P : Program} {w : World} {K : PySem.W.Frag} {mg : Str → Option Value} {h base : Heap}
theorem def_at {x : Str} {st : Stmt} {ps : List Str} {f : Addr} {oc : Value} {od an : Option Addr} {sl : Array (Option Value)} {kV dc pm cd ct : Value} (X : K.In h) (G : h.Ns mainGlobals mg) (a : PySem.W.nsIn K mainGlobals x = some (some (.ref f)))
    (l : K.lookup f = some ⟨oc, od, .func (PySem.W.fnOf x x (defArgs st) (defBody st) (defScope st) .none kV dc pm an cd ct), sl⟩) (c : PySem.W.codeIn K cd x = true) (k : PySem.W.keepIn K (.ref f) = true)
    (hb : ∀ (kV doc pm : Value) (an : Option Addr) (cdv ct : Value) (us : List Value), us.length = ps.length → bindArgs (PySem.W.fnOf x x (defArgs st) (defBody st) (defScope st) .none kV doc pm an cdv ct) ⟨us, []⟩ = pure (ps.zip us)) :
    DefAt K mg x st ps f (PySem.W.fnOf x x (defArgs st) (defBody st) (defScope st) .none kV dc pm an cd ct) := ⟨fun_mk l c k, PySem.W.mg_of X G a, (fun_mk l c k).binds hb⟩
theorem meth_at {x qual : Str} {st : Stmt} {ps : List Str} {C f : Addr} {oc : Value} {od an : Option Addr} {sl : Array (Option Value)} {kV dc pm cd ct : Value} (X : K.In h) (a : PySem.W.findIn K (.ref C) x = some (some (.ref f))) (i : PySem.W.isFn K (.ref f) = true)
    (l : K.lookup f = some ⟨oc, od, .func (PySem.W.fnOf x qual (defArgs st) (defBody st) (defScope st) .none kV dc pm an cd ct), sl⟩) (c : PySem.W.codeIn K cd qual = true) (k : PySem.W.keepIn K (.ref f) = true)
    (hb : ∀ (kV doc pm : Value) (an : Option Addr) (cdv ct : Value) (us : List Value), us.length = ps.length → bindArgs (PySem.W.fnOf x qual (defArgs st) (defBody st) (defScope st) .none kV doc pm an cdv ct) ⟨us, []⟩ = pure (ps.zip us)) :
    MethAt K C x qual st ps f (PySem.W.fnOf x qual (defArgs st) (defBody st) (defScope st) .none kV dc pm an cd ct) := ⟨fun_mk l c k, ⟨a, i, k⟩, (fun_mk l c k).binds hb⟩
abbrev baseM : List Value := [.type "ValueError", .type "Exception", .type "BaseException", .type "object"]
theorem kit_ref {C D : Addr} {b : Bool} (X : K.In h) (i : PySem.W.isClsIn K D = true) (t : PySem.W.typeIn K (.ref D) = some (.type "type")) (g : PySem.W.subIn K (.ref C) (.ref D) = some b) (r : PySem.W.subIn K (.ref D) (.ref D) = some true) : PySem.W.kitOne K (.ref C) (.ref D) = some b := by
  unfold PySem.W.kitOne
  by_cases c : C = D
  · subst c
    rw [r] at g
    cases g
    rw [if_pos (by simp)]
  · rw [if_neg (by simpa using c)]
    unfold PySem.W.kitCls
    have i' : (PySem.W.clsIn K D).isSome = true := i
    have e2 : ((PySem.W.clsIn K D).isSome && PySem.W.typeIn K (.ref D) == some (.type "type")) = true := by rw [i', t] <;> rfl
    show (if ((PySem.W.clsIn K D).isSome && PySem.W.typeIn K (.ref D) == some (.type "type")) = true then PySem.W.subIn K (.ref C) (.ref D) else none) = some b
    rw [if_pos e2]
    exact g
theorem kit_ve {C : Addr} (X : K.In h) (g : PySem.W.subIn K (.ref C) (.type "ValueError") = some true) : PySem.W.kitOne K (.ref C) (.type "ValueError") = some true := by
  unfold PySem.W.kitOne
  rw [if_neg (by simp)]
  unfold PySem.W.kitCls
  show (if PySem.W.kitMeta "ValueError" = true then PySem.W.subIn K (.ref C) (.type "ValueError") else none) = some true
  rw [if_pos (by decide +kernel)]
  exact g
theorem exm_at {C D : Addr} {b : Bool} (X : K.In h) (h1 : PySem.W.subIn K (.ref D) (.type "BaseException") = some true) (i : PySem.W.isClsIn K D = true) (t : PySem.W.typeIn K (.ref D) = some (.type "type")) (g : PySem.W.subIn K (.ref C) (.ref D) = some b) : PySem.W.exmOne K (.ref C) (.ref D) = some b := by
  have i' : (PySem.W.clsIn K D).isSome = true := i
  have e1 : (PySem.W.subIn K (.ref D) (.type "BaseException") == some true) = true := by rw [h1] <;> rfl
  have e2 : ((PySem.W.clsIn K D).isSome && PySem.W.typeIn K (.ref D) == some (.type "type")) = true := by rw [i', t] <;> rfl
  show (if (PySem.W.subIn K (.ref D) (.type "BaseException") == some true) = true then (if ((PySem.W.clsIn K D).isSome && PySem.W.typeIn K (.ref D) == some (.type "type")) = true then PySem.W.subIn K (.ref C) (.ref D) else none) else none) = some b
  rw [if_pos e1, if_pos e2]
  exact g
theorem super_at {C CE : Addr} {nm q nm' q' : Str} {N N' : Addr} {bs bs' : List Value} {hd hd' : Bool} {sn sn' : List Str} {sub sub' : List Value} {ab ab' : Bool} {col col' : Option Bool} {dd dd' : Option Addr} {k0 k1 k2 k3 k5 k0' k1' k2' k3' k5' : Option Value} {id id' : String} {v : Option Value}
    (xL : K.lookup C = some (excClassObj nm q C N bs (.ref CE :: baseM) hd sn sub ab col dd k0 k1 k2 k3 k5 id)) (xE : K.lookup CE = some (excClassObj nm' q' CE N' bs' baseM hd' sn' sub' ab' col' dd' k0' k1' k2' k3' k5' id'))
    (hf : PySem.W.findIn K (.ref CE) "__init__" = some v) : PySem.W.ks_superIn K C C "__init__" = some v := by
  unfold PySem.W.ks_superIn PySem.W.clsIn
  rw [xL]
  unfold PySem.W.findIn at hf
  simp only [xE] at hf
  simp only [Option.bind_some, List.dropWhile_cons, bne_self_eq_false, List.drop_one, List.tail_cons]
  exact hf
theorem err_is {C : Addr} (X : K.In h) (cl : PySem.W.isClsIn K C = true) (ga : PySem.W.findIn K (.ref C) "__getattribute__" = some (some (.builtin "BaseException.__getattribute__"))) (gg : PySem.W.findIn K (.ref C) "__getattr__" = some none) (sb : PySem.W.subIn K (.ref C) (.type "BaseException") = some true)
    (ca : PySem.W.findIn K (.ref C) "__class__" = some (some (.builtin "object.__class__"))) (cg : PySem.W.specialIn K (.builtin "object.__class__") "__get__" = some (some (.builtin "getset_descriptor.__get__"))) (ct : PySem.W.takesIn K (.builtin "object.__class__") = some true) (mo : PySem.W.mroIn K C (.type "object") = some true) : ErrIs K C := ⟨cl, ga, gg, sb, ca, cg, ct, mo⟩
theorem xf_mk {C : Addr} (X : K.In h) (ga : PySem.W.findIn K (.ref C) "__getattribute__" = some (some (.builtin "BaseException.__getattribute__"))) (gg : PySem.W.findIn K (.ref C) "__getattr__" = some none) (sb : PySem.W.subIn K (.ref C) (.type "BaseException") = some true) (hd : PySem.W.hasDictIn K C = true) : XfC K C := ⟨ga, gg, sb, hd⟩
theorem no_at {C : Addr} {f : Str} (X : K.In h) (g : PySem.W.findIn K (.ref C) f = some none) : PySem.W.findIn K (.ref C) f = some none := g
theorem cls_mk {C : Addr} (X : K.In h) (pg : PySem.W.plainGet K C Str.empty = true) (hd : PySem.W.hasDictIn K C = true) (po : PySem.W.plainOver K C = true) (sa : PySem.W.findIn K (.ref C) "__setattr__" = some (some (.builtin "object.__setattr__"))) : Cls K C := ⟨pg, hd, po, sa⟩
theorem mk_mk {C f : Addr} (X : K.In h) (m : PySem.W.makesIn K C = true) (i : PySem.W.findIn K (.ref C) "__init__" = some (some (.ref f))) (n : PySem.W.isFn K (.ref f) = true) (k : PySem.W.keepIn K (.ref C) = true) : Mk K C f := ⟨m, i, n, k⟩
theorem txtN_mk {C : Addr} (X : K.In h) (c : Cls K C) (h1 : PySem.W.findIn K (.ref C) "ends" = some none) (h2 : PySem.W.findIn K (.ref C) "room" = some none) (h3 : PySem.W.findIn K (.ref C) "outs" = some none) (h4 : mg "range" = none) : TxtN K mg C := ⟨c, h1, h2, h3, h4⟩
theorem txtL_mk (X : K.In h) (h1 : mg "list" = none) (h2 : mg "int" = none) (h3 : mg "abs" = none) (h4 : mg "len" = none) : TxtL K mg := ⟨h1, h2, h3, h4⟩
theorem txtP_mk (X : K.In h) (h1 : mg "min" = none) : TxtP K mg := ⟨h1⟩
theorem err_txt {x f qual t : Str} {Z : EPos} {C CE fI cda cc : Addr} {nm q nm' q' : Str} {N N' : Addr} {bs bs' : List Value} {hd' : Bool} {sn sn' : List Str} {sub sub' : List Value} {ab ab' : Bool} {col col' : Option Bool} {dd dd' : Option Addr} {k0 k1 k2 k3 k5 k0' k1' k2' k3' k5' : Option Value} {id' : String}
    {oc doc pm ct cl ccl : Value} {od an cld cdd : Option Addr} {osl csl ccs : Array (Option Value)} {vs : Array Value} {file : Str} {tf : Tok} (X : K.In h) (G : h.Ns mainGlobals mg)
    (aC : PySem.W.nsIn K mainGlobals x = some (some (.ref C)))
    (xL : K.lookup C = some (excClassObj nm q C N bs (.ref CE :: baseM) true sn sub ab col dd k0 k1 k2 k3 k5 "ValueError.__new__")) (xE : K.lookup CE = some (excClassObj nm' q' CE N' bs' baseM hd' sn' sub' ab' col' dd' k0' k1' k2' k3' k5' id'))
    (hf : PySem.W.findIn K (.ref CE) "__init__" = some (some (.builtin "ValueError.__init__")))
    (sa : PySem.W.findIn K (.ref C) "__setattr__" = some (some (.builtin "object.__setattr__"))) (noF : PySem.W.findIn K (.ref C) f = some none) (iC : PySem.W.findIn K (.ref C) "__init__" = some (some (.ref fI))) (tI : PySem.W.typeIn K (.ref fI) = some (.type "function")) (kC : PySem.W.keepIn K (.ref C) = true)
    (exC : PySem.W.subIn K (.ref C) (.type "BaseException") = some true) (veC : PySem.W.subIn K (.ref C) (.type "ValueError") = some true) (tyC : PySem.W.typeIn K (.ref C) = some (.type "type")) (msub : PySem.W.mroIn K C (.ref C) = some true)
    (opq : PySem.W.nsIn K cStatics "thirdparty.any" = some none) (msup : PySem.W.nsIn K mainGlobals "super" = some none) (top : (P.main.scope.names.lookup ("super" : Str)).isSome = false)
    (l1 : K.lookup fI = some ⟨oc, od, .func (PySem.W.fnX "__init__" qual (eArgs f Z) (eBody t f Z) (eScope f) [("__class__", cc)] .none .none doc pm an (.ref cda) ct), osl⟩) (c1 : PySem.W.codeIn K (.ref cda) qual = true) (l2 : K.lookup cda = some ⟨ccl, cdd, .fields vs, ccs⟩)
    (hv : vs[2]? = some (.str file tf)) (hfile : ((P.main.file : Str) == file) = true) (l3 : K.lookup cc = some ⟨cl, cld, .cell (some (.ref C)), csl⟩)
    (hb : ∀ (doc pm : Value) (an : Option Addr) (cda cc : Addr) (ct : Value) (e : Addr) (v : Value), bindArgs (PySem.W.fnX "__init__" qual (eArgs f Z) (eBody t f Z) (eScope f) [("__class__", cc)] .none .none doc pm an (.ref cda) ct) ⟨[.ref e, v], []⟩ = pure [(("self" : Str), Value.ref e), (f, v)])
    (hm : ∀ (cda cc fI L : Addr), ∃ pl : Sem Bool, eval (eCall t Z) (PySem.W.envX qual (eScope f) L fI (.ref cda) [("__class__", cc)]) = (do
      let ov ← attributeBase (.Call (.Name "super" Z.q0) [] [] Z.q1) "__init__" (PySem.W.envX qual (eScope f) L fI (.ref cda) [("__class__", cc)]) (eval (.Call (.Name "super" Z.q0) [] [] Z.q1) (PySem.W.envX qual (eScope f) L fI (.ref cda) [("__class__", cc)]))
      standAt Z.q2.atName
      let (g, first) ← holding [ov] (getMethod ov "__init__" pl)
      callWith Z.q4 g first (backTo Z.q4 (starEach [.Constant (.str t) Z.j Z.q3] (PySem.W.envX qual (eScope f) L fI (.ref cda) [("__class__", cc)]))) []))
    (n1 : ¬ f = "self") (n2 : ¬ f = "super") (n3 : ¬ f = "__class__") (n4 : (f == ("__debug__" : Str)) = false) : ErrTxt P K mg x f C fI :=
  { gC := PySem.W.mg_of X G aC, cls := ⟨nm, q, N, bs, _, sn, sub, ab, col, dd, k0, k1, k2, k3, k5, xL, rfl⟩, sa := sa, noF := noF, iC := iC, tI := tI, kC := kC, exC := exC, veC := veC, tyC := tyC, sup := super_at xL xE hf, msub := msub, opq := opq, msup := PySem.W.mg_none_of X G msup, top := top,
    fn := ⟨qual, t, Z, oc, doc, pm, ct, cl, ccl, od, an, cld, cdd, osl, csl, ccs, cda, cc, vs, file, tf, l1, c1, l2, hv, hfile, l3, hb doc pm an cda cc ct, hm cda cc fI⟩, nself := n1, nsup := n2, ncls := n3, ndbg := n4 }

theorem fin {C CE CT CB CD fT fB fD f0 f1 f2 f3 f4 f5 f6 f7 f8 f9 f10 f11 f12 f13 f14 f15 f16 g0 g1 g2 g3 g4 g5 g6 : Addr} {d0 d1 d2 d3 d4 d5 d6 d7 d8 d9 d10 d11 d12 d13 d14 d15 d16 e0 e1 e2 e3 e4 e5 e6 : FuncData}
    (D0 : DefAt K mg "twin" sTwin ["arc"] f0 d0)
    (D1 : DefAt K mg "check_links" sCheck ["links", "start", "end"] f1 d1)
    (D2 : DefAt K mg "filled_network" sFilled ["links", "start", "end"] f2 d2)
    (D3 : DefAt K mg "greatest_flow" sGreat ["links", "start", "end"] f3 d3)
    (D4 : DefAt K mg "least_side" sLeast ["links", "start", "end"] f4 d4)
    (D5 : DefAt K mg "_law_pool" sPool ["script"] f5 d5)
    (D6 : DefAt K mg "_law_draw" sDraw ["pool", "bound"] f6 d6)
    (D7 : DefAt K mg "_law_mixed_places" sMix ["pool", "count"] f7 d7)
    (D8 : DefAt K mg "_law_same" sSame ["actual", "due"] f8 d8)
    (D9 : DefAt K mg "_law_tried" sTried ["form", "links", "start", "end"] f9 d9)
    (D10 : DefAt K mg "_law_worth" sWorth ["links", "flow", "name"] f10 d10)
    (D11 : DefAt K mg "_law_room" sRoom ["links", "side"] f11 d11)
    (D12 : DefAt K mg "_law_known" sKnown ["links", "start", "end"] f12 d12)
    (D13 : DefAt K mg "_law_right" sRight ["links", "start", "end"] f13 d13)
    (D14 : DefAt K mg "_law_drawn" sDrawn ["pool"] f14 d14)
    (D15 : DefAt K mg "_law_sides" sSides ["links", "start", "end", "worth", "side"] f15 d15)
    (D16 : DefAt K mg "law" sLaw ["script"] f16 d16)
    (M0 : MethAt K C "__init__" "Network.__init__" sNInit ["self", "many"] g0 e0)
    (M1 : MethAt K C "link" "Network.link" sLink ["self", "one", "two", "room"] g1 e1)
    (M2 : MethAt K C "is_open" "Network.is_open" sOpen ["self", "arc"] g2 e2)
    (M3 : MethAt K C "reached" "Network.reached" sReached ["self", "start"] g3 e3)
    (M4 : MethAt K C "push" "Network.push" sPush ["self", "start", "end"] g4 e4)
    (M5 : MethAt K C "fill" "Network.fill" sFill ["self", "start", "end"] g5 e5)
    (M6 : MethAt K C "flow" "Network.flow" sFlow ["self", "arc"] g6 e6)
    (TN : TxtN K mg C) (TL : TxtL K mg) (TP : TxtP K mg) (TS : TxtS mg) (TE : TxtE P K mg CT CB CD fT fB fD) (TR : TxtR K mg CE CT CB CD) (MN : Mk K C g0) (mgC : mg "Network" = some (.ref C)) (bE : mg "enumerate" = none) (bS : mg "str" = none) : FnOk P w K mg base CX0 9 f16 d16 ["script"] (spLaw K) := by
  have gPush : FnOk P w K mg base CX0 3 g4 e4 ["self", "start", "end"] (spPush C) := ok_push M4.F TN TL TP M2 M3 D0
  have gFill : FnOk P w K mg base CX0 4 g5 e5 ["self", "start", "end"] (spFill C) := ok_fill M5.F TN M4 gPush
  have gInit : FnOk P w K mg base CX0 1 g0 e0 ["self", "many"] (spNInit C) := ok_ninit M0.F TN
  have gFilled : FnOk P w K mg base CX0 5 f2 d2 ["links", "start", "end"] (spFilled K C) := ok_filled D2.F TN TL mgC MN M0.b gInit M1 M5 gFill
  have gCheck : FnOk P w K mg base (L2N.CX P w) 3 f1 d1 ["links", "start", "end"] (spCheck K CT CB CD) := ok_check D1.F TL TE
  have gGreat : FnOk P w K mg base (L2N.CX P w) 6 f3 d3 ["links", "start", "end"] (spGreat K CT CB CD) := ok_great D3.F TN TL D1 gCheck D2 gFilled M6
  have gReached : FnOk P w K mg base CX0 2 g3 e3 ["self", "start"] (spReached C) := ok_reached M3.F TN TL M2
  have gLeast : FnOk P w K mg base (L2N.CX P w) 6 f4 d4 ["links", "start", "end"] (spLeast K CT CB CD) := ok_least D4.F TN bE D1 gCheck D2 gFilled M3 gReached
  have gDraw : FnOk P w K mg base CX0 1 f6 d6 ["pool", "bound"] spDraw := ok_draw D6.F TL
  have gTried : FnOk P w K mg base CX0 7 f9 d9 ["form", "links", "start", "end"] (spTried K) := ok_tried D9.F TS TR D3 gGreat D4 gLeast
  have gSame := ok_same (P := P) (w := w) (base := base) D8.F TS D8
  have gWorth : FnOk P w K mg base CX0 1 f10 d10 ["links", "flow", "name"] (spWorth K) := ok_worth D10.F TS
  have gRoom : FnOk P w K mg base CX0 1 f11 d11 ["links", "side"] (spRoom K) := ok_room D11.F TS
  have gKnown : FnOk P w K mg base CX0 1 f12 d12 ["links", "start", "end"] (spKnown K) := ok_known D12.F TS
  have gRight : FnOk P w K mg base CX0 8 f13 d13 ["links", "start", "end"] (spRight K) := ok_right D13.F TS D9 gTried D8 (gSame 2) D10 gWorth D11 gRoom D12 gKnown
  exact ok_law D16.F TS ⟨D5, ok_pool D5.F TL, D6, gDraw, D7, ok_mix D7.F TS D6 gDraw, D8, gSame 3, D9, gTried, D13, gRight, D14, ok_drawn D14.F TS D6 gDraw, D15, ok_sides D15.F TS D11 gRoom D12 gKnown, bS⟩
end
end Kx
namespace Kx
open PySem PySem.Spec PyProof.Rows L2
theorem walk {l : PySem.W.OpenLaw} {q : Program} {loose : List Str} {XP : (Str → Option Value) → Heap → Prop} {YP : World → Heap → Prop} {d : DefRec} {K : Params → PySem.W.Frag} (hn : l.most = some 63) (hdf : d.params.defaults = [])
    (hY : ∀ (w : World) (h : Heap), YP w h → (K w.params).In h)
    (F : ∀ (w : World) (mg : Str → Option Value) (fa : Addr) (h : Heap), (K w.params).In h → h.Ns mainGlobals mg → mg d.name = some (.ref fa) →
      ∃ fd : FuncData, (∀ (s : Shared) (u : Value), BindsTo s fd ⟨[u], []⟩ [("script", u)]) ∧ ∀ base : Heap, (K w.params).In base → base.Ns mainGlobals mg → FnOk l.prog w (K w.params) mg base CX0 9 fa fd ["script"] (spLaw (K w.params))) :
    PySem.W.WalkO q loose XP YP l.row.toRowW d [] (fun f vs => PySem.call f vs) :=
  L2.walk_of (n := 63) (k := 9) (x := "script") (CX := fun _ => CX0) (sp := fun w => spLaw (K w.params)) hn (by decide) hdf ⟨rfl, by decide, by decide⟩ hY F (fun _ _ a ns hl _ hS => ⟨a, ns, rfl, hS, hl, fun _ => rfl⟩) fun _ _ _ _ _ z => z
end Kx
open PySem PySem.W PyProof.Rows in
set_option maxRecDepth 100000 in
set_option maxHeartbeats 0 in
theorem PySem.Challenge.cw_kindsofarrows_k86_whole_greatest_flow_holds : PySem.Challenge.rw_kindsofarrows_k86_whole_greatest_flow.Holds := by
  w_on; o_law; k_head; (case hw => w_witness2)
  k_fill
  refine Kx.walk (l := PySem.Challenge.rw_kindsofarrows_k86_whole_greatest_flow) rfl rfl (fun w h Y => PySem.W.kIn_of Y) ?F
  case F =>
    intro w mg fa h KX G hmg
    have D0 := Kx.def_at (x := "twin") (st := Kx.sTwin) (ps := ["arc"]) KX G (by k_is) (by k_is) (by k_is) (by k_is) (fun _ _ _ _ _ _ us hl => match us, hl with | [_], _ => rfl)
    have D1 := Kx.def_at (x := "check_links") (st := Kx.sCheck) (ps := ["links", "start", "end"]) KX G (by k_is) (by k_is) (by k_is) (by k_is) (fun _ _ _ _ _ _ us hl => match us, hl with | [_, _, _], _ => rfl)
    have D2 := Kx.def_at (x := "filled_network") (st := Kx.sFilled) (ps := ["links", "start", "end"]) KX G (by k_is) (by k_is) (by k_is) (by k_is) (fun _ _ _ _ _ _ us hl => match us, hl with | [_, _, _], _ => rfl)
    have D3 := Kx.def_at (x := "greatest_flow") (st := Kx.sGreat) (ps := ["links", "start", "end"]) KX G (by k_is) (by k_is) (by k_is) (by k_is) (fun _ _ _ _ _ _ us hl => match us, hl with | [_, _, _], _ => rfl)
    have D4 := Kx.def_at (x := "least_side") (st := Kx.sLeast) (ps := ["links", "start", "end"]) KX G (by k_is) (by k_is) (by k_is) (by k_is) (fun _ _ _ _ _ _ us hl => match us, hl with | [_, _, _], _ => rfl)
    have D5 := Kx.def_at (x := "_law_pool") (st := Kx.sPool) (ps := ["script"]) KX G (by k_is) (by k_is) (by k_is) (by k_is) (fun _ _ _ _ _ _ us hl => match us, hl with | [_], _ => rfl)
    have D6 := Kx.def_at (x := "_law_draw") (st := Kx.sDraw) (ps := ["pool", "bound"]) KX G (by k_is) (by k_is) (by k_is) (by k_is) (fun _ _ _ _ _ _ us hl => match us, hl with | [_, _], _ => rfl)
    have D7 := Kx.def_at (x := "_law_mixed_places") (st := Kx.sMix) (ps := ["pool", "count"]) KX G (by k_is) (by k_is) (by k_is) (by k_is) (fun _ _ _ _ _ _ us hl => match us, hl with | [_, _], _ => rfl)
    have D8 := Kx.def_at (x := "_law_same") (st := Kx.sSame) (ps := ["actual", "due"]) KX G (by k_is) (by k_is) (by k_is) (by k_is) (fun _ _ _ _ _ _ us hl => match us, hl with | [_, _], _ => rfl)
    have D9 := Kx.def_at (x := "_law_tried") (st := Kx.sTried) (ps := ["form", "links", "start", "end"]) KX G (by k_is) (by k_is) (by k_is) (by k_is) (fun _ _ _ _ _ _ us hl => match us, hl with | [_, _, _, _], _ => rfl)
    have D10 := Kx.def_at (x := "_law_worth") (st := Kx.sWorth) (ps := ["links", "flow", "name"]) KX G (by k_is) (by k_is) (by k_is) (by k_is) (fun _ _ _ _ _ _ us hl => match us, hl with | [_, _, _], _ => rfl)
    have D11 := Kx.def_at (x := "_law_room") (st := Kx.sRoom) (ps := ["links", "side"]) KX G (by k_is) (by k_is) (by k_is) (by k_is) (fun _ _ _ _ _ _ us hl => match us, hl with | [_, _], _ => rfl)
    have D12 := Kx.def_at (x := "_law_known") (st := Kx.sKnown) (ps := ["links", "start", "end"]) KX G (by k_is) (by k_is) (by k_is) (by k_is) (fun _ _ _ _ _ _ us hl => match us, hl with | [_, _, _], _ => rfl)
    have D13 := Kx.def_at (x := "_law_right") (st := Kx.sRight) (ps := ["links", "start", "end"]) KX G (by k_is) (by k_is) (by k_is) (by k_is) (fun _ _ _ _ _ _ us hl => match us, hl with | [_, _, _], _ => rfl)
    have D14 := Kx.def_at (x := "_law_drawn") (st := Kx.sDrawn) (ps := ["pool"]) KX G (by k_is) (by k_is) (by k_is) (by k_is) (fun _ _ _ _ _ _ us hl => match us, hl with | [_], _ => rfl)
    have D15 := Kx.def_at (x := "_law_sides") (st := Kx.sSides) (ps := ["links", "start", "end", "worth", "side"]) KX G (by k_is) (by k_is) (by k_is) (by k_is) (fun _ _ _ _ _ _ us hl => match us, hl with | [_, _, _, _, _], _ => rfl)
    have D16 := Kx.def_at (x := "law") (st := Kx.sLaw) (ps := ["script"]) KX G (by k_is) (by k_is) (by k_is) (by k_is) (fun _ _ _ _ _ _ us hl => match us, hl with | [_], _ => rfl)
    have mgC := PySem.W.mg_of (n := "Network") (v := .ref _) KX G (by k_is)
    have M0 := Kx.meth_at (x := "__init__") (qual := "Network.__init__") (st := Kx.sNInit) (ps := ["self", "many"]) (C := 166) KX (by k_is) (by k_is) (by k_is) (by k_is) (by k_is) (fun _ _ _ _ _ _ us hl => match us, hl with | [_, _], _ => rfl)
    have M1 := Kx.meth_at (x := "link") (qual := "Network.link") (st := Kx.sLink) (ps := ["self", "one", "two", "room"]) (C := 166) KX (by k_is) (by k_is) (by k_is) (by k_is) (by k_is) (fun _ _ _ _ _ _ us hl => match us, hl with | [_, _, _, _], _ => rfl)
    have M2 := Kx.meth_at (x := "is_open") (qual := "Network.is_open") (st := Kx.sOpen) (ps := ["self", "arc"]) (C := 166) KX (by k_is) (by k_is) (by k_is) (by k_is) (by k_is) (fun _ _ _ _ _ _ us hl => match us, hl with | [_, _], _ => rfl)
    have M3 := Kx.meth_at (x := "reached") (qual := "Network.reached") (st := Kx.sReached) (ps := ["self", "start"]) (C := 166) KX (by k_is) (by k_is) (by k_is) (by k_is) (by k_is) (fun _ _ _ _ _ _ us hl => match us, hl with | [_, _], _ => rfl)
    have M4 := Kx.meth_at (x := "push") (qual := "Network.push") (st := Kx.sPush) (ps := ["self", "start", "end"]) (C := 166) KX (by k_is) (by k_is) (by k_is) (by k_is) (by k_is) (fun _ _ _ _ _ _ us hl => match us, hl with | [_, _, _], _ => rfl)
    have M5 := Kx.meth_at (x := "fill") (qual := "Network.fill") (st := Kx.sFill) (ps := ["self", "start", "end"]) (C := 166) KX (by k_is) (by k_is) (by k_is) (by k_is) (by k_is) (fun _ _ _ _ _ _ us hl => match us, hl with | [_, _, _], _ => rfl)
    have M6 := Kx.meth_at (x := "flow") (qual := "Network.flow") (st := Kx.sFlow) (ps := ["self", "arc"]) (C := 166) KX (by k_is) (by k_is) (by k_is) (by k_is) (by k_is) (fun _ _ _ _ _ _ us hl => match us, hl with | [_, _], _ => rfl)
    have E0 := Kx.err_txt (P := PySem.Challenge.rw_kindsofarrows_k86_whole_greatest_flow.prog) (x := "TooMany") (f := "limit") (qual := "TooMany.__init__") (t := "the limit is exceeded") (Z := ⟨⟨19, 17, 19, 21⟩, ⟨19, 23, 19, 28⟩, ⟨20, 8, 20, 13⟩, ⟨20, 8, 20, 15⟩, ⟨20, 8, 20, 24⟩, ⟨20, 25, 20, 48⟩, ⟨20, 8, 20, 49⟩, ⟨20, 8, 20, 49⟩, ⟨21, 8, 21, 12⟩, ⟨21, 8, 21, 18⟩, ⟨21, 21, 21, 26⟩, ⟨21, 8, 21, 26⟩, 0⟩) KX G (by k_is) (by k_is) (by k_is) (by k_is) (by k_is) (by k_is) (by k_is) (by k_is) (by k_is) (by k_is) (by k_is) (by k_is) (by k_is) (by k_is) (by k_is) (by rfl) (by k_is) (by k_is) (by k_is) (by rfl) (by rfl) (by k_is) (fun _ _ _ _ _ _ _ _ => rfl) (fun _ _ _ _ => ⟨_, rfl⟩) (by decide) (by decide) (by decide) (by decide)
    have E1 := Kx.err_txt (P := PySem.Challenge.rw_kindsofarrows_k86_whole_greatest_flow.prog) (x := "BadCount") (f := "number") (qual := "BadCount.__init__") (t := "the number is out of range") (Z := ⟨⟨14, 17, 14, 21⟩, ⟨14, 23, 14, 29⟩, ⟨15, 8, 15, 13⟩, ⟨15, 8, 15, 15⟩, ⟨15, 8, 15, 24⟩, ⟨15, 25, 15, 53⟩, ⟨15, 8, 15, 54⟩, ⟨15, 8, 15, 54⟩, ⟨16, 8, 16, 12⟩, ⟨16, 8, 16, 19⟩, ⟨16, 22, 16, 28⟩, ⟨16, 8, 16, 28⟩, 0⟩) KX G (by k_is) (by k_is) (by k_is) (by k_is) (by k_is) (by k_is) (by k_is) (by k_is) (by k_is) (by k_is) (by k_is) (by k_is) (by k_is) (by k_is) (by k_is) (by rfl) (by k_is) (by k_is) (by k_is) (by rfl) (by rfl) (by k_is) (fun _ _ _ _ _ _ _ _ => rfl) (fun _ _ _ _ => ⟨_, rfl⟩) (by decide) (by decide) (by decide) (by decide)
    have E2 := Kx.err_txt (P := PySem.Challenge.rw_kindsofarrows_k86_whole_greatest_flow.prog) (x := "Duplicate") (f := "name") (qual := "Duplicate.__init__") (t := "the name is given twice") (Z := ⟨⟨9, 17, 9, 21⟩, ⟨9, 23, 9, 27⟩, ⟨10, 8, 10, 13⟩, ⟨10, 8, 10, 15⟩, ⟨10, 8, 10, 24⟩, ⟨10, 25, 10, 50⟩, ⟨10, 8, 10, 51⟩, ⟨10, 8, 10, 51⟩, ⟨11, 8, 11, 12⟩, ⟨11, 8, 11, 17⟩, ⟨11, 20, 11, 24⟩, ⟨11, 8, 11, 24⟩, 0⟩) KX G (by k_is) (by k_is) (by k_is) (by k_is) (by k_is) (by k_is) (by k_is) (by k_is) (by k_is) (by k_is) (by k_is) (by k_is) (by k_is) (by k_is) (by k_is) (by rfl) (by k_is) (by k_is) (by k_is) (by rfl) (by rfl) (by k_is) (fun _ _ _ _ _ _ _ _ => rfl) (fun _ _ _ _ => ⟨_, rfl⟩) (by decide) (by decide) (by decide) (by decide)
    have TN := Kx.txtN_mk KX (Kx.cls_mk (C := 166) KX (by k_is) (by k_is) (by k_is) (by k_is)) (by k_is) (by k_is) (by k_is) (PySem.W.mg_none_of (n := "range") KX G (by k_is))
    have TL := Kx.txtL_mk KX (PySem.W.mg_none_of (n := "list") KX G (by k_is)) (PySem.W.mg_none_of (n := "int") KX G (by k_is)) (PySem.W.mg_none_of (n := "abs") KX G (by k_is)) (PySem.W.mg_none_of (n := "len") KX G (by k_is))
    have TP := Kx.txtP_mk KX (PySem.W.mg_none_of (n := "min") KX G (by k_is))
    have TS : Kx.TxtS mg := ⟨PySem.W.mg_none_of (n := "range") KX G (by k_is), PySem.W.mg_none_of (n := "isinstance") KX G (by k_is), PySem.W.mg_none_of (n := "bool") KX G (by k_is), PySem.W.mg_none_of (n := "int") KX G (by k_is), PySem.W.mg_none_of (n := "str") KX G (by k_is), PySem.W.mg_none_of (n := "tuple") KX G (by k_is), PySem.W.mg_none_of (n := "list") KX G (by k_is), PySem.W.mg_none_of (n := "len") KX G (by k_is), PySem.W.mg_none_of (n := "sum") KX G (by k_is)⟩
    have TE : Kx.TxtE _ _ mg _ _ _ _ _ _ := ⟨E0, E1, E2, ⟨_, PySem.W.mg_of (n := "MOST_LINKS") (v := .int 400 _) KX G (by k_is)⟩, ⟨_, PySem.W.mg_of (n := "MOST_ROOM") (v := .int 1000000000 _) KX G (by k_is)⟩⟩
    have TR : Kx.TxtR _ mg 31 95 74 53 := ⟨PySem.W.mg_of KX G (by k_is), PySem.W.mg_of KX G (by k_is), PySem.W.mg_of KX G (by k_is), PySem.W.mg_of KX G (by k_is), PySem.W.mg_none_of (n := "ValueError") KX G (by k_is), ⟨(Kx.err_is (C := 95) KX (by k_is) (by k_is) (by k_is) (by k_is) (by k_is) (by k_is) (by k_is) (by k_is)), Kx.xf_mk KX (by k_is) (by k_is) (by k_is) (by k_is), Kx.no_at KX (by k_is), Kx.exm_at (D := 31) KX (by k_is) (by k_is) (by k_is) (by k_is), Kx.kit_ve KX (by k_is)⟩, ⟨(Kx.err_is (C := 74) KX (by k_is) (by k_is) (by k_is) (by k_is) (by k_is) (by k_is) (by k_is) (by k_is)), Kx.xf_mk KX (by k_is) (by k_is) (by k_is) (by k_is), Kx.no_at KX (by k_is), Kx.exm_at (D := 31) KX (by k_is) (by k_is) (by k_is) (by k_is), Kx.kit_ve KX (by k_is)⟩, ⟨(Kx.err_is (C := 53) KX (by k_is) (by k_is) (by k_is) (by k_is) (by k_is) (by k_is) (by k_is) (by k_is)), Kx.xf_mk KX (by k_is) (by k_is) (by k_is) (by k_is), Kx.no_at KX (by k_is), Kx.exm_at (D := 31) KX (by k_is) (by k_is) (by k_is) (by k_is), Kx.kit_ve KX (by k_is)⟩, Kx.kit_ref (C := 95) (D := 95) KX (by k_is) (by k_is) (by k_is) (by k_is), Kx.kit_ref (C := 95) (D := 74) KX (by k_is) (by k_is) (by k_is) (by k_is), Kx.kit_ref (C := 95) (D := 53) KX (by k_is) (by k_is) (by k_is) (by k_is), Kx.kit_ref (C := 74) (D := 95) KX (by k_is) (by k_is) (by k_is) (by k_is), Kx.kit_ref (C := 74) (D := 74) KX (by k_is) (by k_is) (by k_is) (by k_is), Kx.kit_ref (C := 74) (D := 53) KX (by k_is) (by k_is) (by k_is) (by k_is), Kx.kit_ref (C := 53) (D := 95) KX (by k_is) (by k_is) (by k_is) (by k_is), Kx.kit_ref (C := 53) (D := 74) KX (by k_is) (by k_is) (by k_is) (by k_is), Kx.kit_ref (C := 53) (D := 53) KX (by k_is) (by k_is) (by k_is) (by k_is)⟩
    have MN := Kx.mk_mk (C := 166) KX (by k_is) (by k_is) (by k_is) (by k_is)
    have bE := PySem.W.mg_none_of (n := "enumerate") KX G (by k_is)
    have bS := PySem.W.mg_none_of (n := "str") KX G (by k_is)
    have e := hmg.symm.trans D16.m
    cases e
    exact ⟨_, fun s v => .of_eq rfl, fun base _ _ => Kx.fin D0 D1 D2 D3 D4 D5 D6 D7 D8 D9 D10 D11 D12 D13 D14 D15 D16 M0 M1 M2 M3 M4 M5 M6 TN TL TP TS TE TR MN mgC bE bS⟩
