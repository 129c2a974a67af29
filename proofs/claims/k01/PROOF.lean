import PyProof.Rows.All
import Wide.All
import OpenK.AllK
import Wide.FinOn
import KE.KExcSuper
import HandS.Base
import HandS.Call
import HandS.List
import HandS.Exc
import HandS.ExcInit
import HandS.ExcIs
import HandS.ExcField
import HandS.Words
import HandS.IsInst
import HandS.ExcOwn
import HandS.ExcValue
import HandS.ForMost
import HandS.WordsExc
import HandS.Walk
import HandS.Lambda
import HandS.Zip
import HandS.More
import HandS.Defaults
import HandS.HeadHook4
import HandS.HeadWalk
import HandS.Head2
import PySem.Challenge.RW_tallytold_k01_errors_made
set_option Elab.async false
set_option linter.all false
set_option maxRecDepth 100000
set_option maxHeartbeats 4000000
namespace ER
open PySem PySem.Spec PySem.Calls PyProof.Rows L2

/-- the statements of an error's __init__ -/
abbrev stSuper (msg : Str) (p0 p1 p2 p3 p4 p5 : Pos) (j : Nat) : Stmt :=
  .Expr (.Call (.Attribute (.Call (.Name "super" p0) [] [] p1) "__init__" p2) [.Constant (.str msg) j p3] [] p4) p5
abbrev stKeep (f : Str) (p0 p1 p2 p3 : Pos) : Stmt := .Assign [.Attribute (.Name "self" p0) f p1] (.Name f p2) p3

/-- what the written part says of the __init__ at fI of the class C -/
structure ErrT (P : Program) (K : PySem.W.Frag) (mg : Str → Option Value) (C cc cda : Addr) : Prop where
  T : OexC K C
  code : ∃ ccl cdd vs ccs file tf, K.lookup cda = some ⟨ccl, cdd, .fields vs, ccs⟩ ∧ vs[2]? = some (.str file tf) ∧ ((P.main.file : Str) == file) = true
  cell : ∃ cl cld csl, K.lookup cc = some ⟨cl, cld, .cell (some (.ref C)), csl⟩
  noSuper : mg "super" = none
  sup : PySem.W.ks_superIn K C C "__init__" = some (some (.builtin "ValueError.__init__"))
  tp : PySem.W.nsIn K cStatics "thirdparty.any" = some none
  top : (P.main.scope.names.lookup ("super" : Str)).isSome = false

section
variable {P : Program} {w : World} {K : PySem.W.Frag} {mg : Str → Option Value} {base : Heap} {C cc cda fI : Addr}

/-- super().__init__('..') in a frame of such an __init__: nothing that is told of changes -/
theorem super_run {X : Cx} {pins : List (Addr × Obj)} {σ : L2.St} {H : Hp} {s : Shared} {a : Addr} {body : List Stmt} {msg : Str} {j : Nat} {p0 p1 p2 p3 p4 : Pos} {E : Value → Shared → Prop} {A : Around} {fd : FuncData} {oc : Value} {od : Option Addr} {osl : Array (Option Value)} {ar : Arg} {qual : Str} {scope : Scope} {L : Addr} {m : Str → Option Value}
    {Q : Value → Shared → Prop} (T : ErrT X.prog X.K X.mg C cc cda) (I : Inv X pins σ H s) (he : X.env = PySem.W.ksEnv qual scope L fI (.ref cda) cc) (hx : H a = some (exo a C none))
    (hf : X.K.lookup fI = some ⟨oc, od, .func fd, osl⟩) (hp : (fd.params.posonlyargs ++ fd.params.args).head? = some ar) (hs : s.heap.Ns L m) (hv : m ar.arg = some (.ref a))
    (hks : scope.names.lookup ("super" : Str) = some .globalImplicit) (hkc : scope.names.lookup ("__class__" : Str) = some .free) (hka : scope.names.lookup ar.arg = some .local) (hk : scope.kind = .function)
    (hpos : (p2.endLine == p4.line) = true) (h : ∀ s', Inv X pins σ H s' → Q .none s') :
    _root_.PySem.wpAt (model X.prog X.w) A (.func body X.env) (eval (.Call (.Attribute (.Call (.Name "super" p0) [] [] p1) "__init__" p2) [.Constant (.str msg) j p3] [] p4) X.env) Q E s := by
  obtain ⟨nm, q, N, bs, bm, sn, sub, ab, col, dd, k0, k1, k2, k3, k5, hC, hbm⟩ := T.T.cls
  obtain ⟨ccl, cdd, vs, ccs, file, tf, hcode, hvs, hfile⟩ := T.code
  obtain ⟨cl, cld, csl, hcell⟩ := T.cell
  have hcl : PySem.W.clsIn X.K C = some { name := nm, bases := bs, mro := .ref C :: bm, ns := N, qualname := q, hasDict := true, slotNames := sn, subclasses := sub, abstract := ab, collection := col, hasDel := false } := by unfold PySem.W.clsIn; rw [hC] <;> rfl
  have KX := I.kIn
  obtain ⟨t1, ho⟩ := exo_at I.hok hx
  obtain ⟨mb, hb1, hb2⟩ := I.mod.blt
  have hglob : s.heap.Ns mainGlobals X.mg := I.mod.glob.keeps I.bk
  have hblt : s.heap.Ns builtinsNs mb := hb1.keeps I.bk
  have hmro : PySem.W.mroIn X.K C (.ref C) = some true := by
    unfold PySem.W.mroIn
    rw [hcl]
    simp
  have hsubVE : PySem.W.mroIn X.K C (.type "ValueError") = some true := by
    have z : (Value.ref C :: bm).contains (.type "ValueError") = true := by
      rw [List.contains_cons, PySem.HandSPX.refsVE_contains "ValueError" bm hbm]
      rw [show PySem.HandSPX.veTail.contains (Value.type "ValueError") = true by decide +kernel, Bool.or_true]
    unfold PySem.W.mroIn
    rw [hcl, Option.bind_some, if_neg (show ¬ ((Value.ref C :: bm).isEmpty = true) from Bool.false_ne_true), z]
  rw [he]
  refine ks_wpAt_MethodCall (pl := (do return (← importBound (.Call (.Name "super" p0) [] [] p1) (PySem.W.ksEnv qual scope L fI (.ref cda) cc)).getD true)) ?_ (by
    show (do
      let ov ← attributeBase (.Call (.Name "super" p0) [] [] p1) "__init__" (PySem.W.ksEnv qual scope L fI (.ref cda) cc) (eval (.Call (.Name "super" p0) [] [] p1) (PySem.W.ksEnv qual scope L fI (.ref cda) cc))
      standAt p2.atName
      methodCall (.Call (.Name "super" p0) [] [] p1) "__init__" p2 p4 (PySem.W.ksEnv qual scope L fI (.ref cda) cc) ov 1 (backTo p4 (starEach [.Constant (.str msg) j p3] (PySem.W.ksEnv qual scope L fI (.ref cda) cc))) []) = _
    have e1 : methodCallPos true (.Call (.Name "super" p0) [] [] p1) (PySem.W.ksEnv qual scope L fI (.ref cda) cc) p2 p4 = pure p4 := by
      unfold methodCallPos
      rw [hpos]
      rfl
    have e2 : ∀ ov, methodCall (.Call (.Name "super" p0) [] [] p1) "__init__" p2 p4 (PySem.W.ksEnv qual scope L fI (.ref cda) cc) ov 1 (backTo p4 (starEach [.Constant (.str msg) j p3] (PySem.W.ksEnv qual scope L fI (.ref cda) cc))) [] = (do
      let (f, first) ← holding [ov] (getMethod ov "__init__" (do return (← importBound (.Call (.Name "super" p0) [] [] p1) (PySem.W.ksEnv qual scope L fI (.ref cda) cc)).getD true))
      callWith p4 f first (backTo p4 (starEach [.Constant (.str msg) j p3] (PySem.W.ksEnv qual scope L fI (.ref cda) cc))) []) := fun ov => by
      show (do
        let (f, first) ← holding [ov] (getMethod ov "__init__" (do return (← importBound (.Call (.Name "super" p0) [] [] p1) (PySem.W.ksEnv qual scope L fI (.ref cda) cc)).getD true))
        let callPos ← methodCallPos true (.Call (.Name "super" p0) [] [] p1) (PySem.W.ksEnv qual scope L fI (.ref cda) cc) p2 p4
        callWith callPos f first (backTo p4 (starEach [.Constant (.str msg) j p3] (PySem.W.ksEnv qual scope L fI (.ref cda) cc))) []) = _
      rw [e1]
      rfl
    simp only [e2])
  refine ks_wpAt_super_base (env := PySem.W.ksEnv qual scope L fI (.ref cda) cc) hks hkc (by decide) rfl (KX _ _ hf) rfl hp rfl (KX _ _ hcode) rfl hvs hfile T.top ?_
  refine PySem.W.ks_loadName_global hk hks (loadGlobal_builtin (env := PySem.W.ksEnv qual scope L fI (.ref cda) cc) hglob T.noSuper hblt ((hb2 _ (by decide +kernel)).trans (by decide +kernel)) ⟨rfl, ?_⟩)
  refine wpAny_loadName_free hk hkc rfl ⟨_, KX _ _ hcell, rfl⟩ ?_
  refine wpAny_loadName_local hk hka hs hv ?_
  obtain ⟨hh, g, d, t, os⟩ := s
  have hCo := KX _ _ hC
  refine ks_wpAny_isType_cls hCo rfl ⟨rfl, ?_⟩
  refine ks_wpAny_call_super hCo rfl ho rfl (fun c e => by cases e) (PySem.W.looks_mroIn KX hmro) (fun h1 e1 kp1 => ?_)
  have I1 : Inv X pins σ H ⟨h1, g, d, t, os⟩ := I.kept (t' := t) kp1
  have KX1 := I1.kIn
  have ho1 := kp1 _ _ ho
  have J1 : PySem.W.InstAt h1 a { cls := .ref C, dict := none, data := .fields #[.ref t1, .none, .none, .none, .bool false, .none] } C none := ⟨ho1, rfl, rfl, trivial⟩
  have hI : PySem.W.Looks (model X.prog X.w) h1 (isInstance (.ref a) (.type "ValueError")) true := J1.type.andThen (PySem.W.looks_mroIn KX1 hsubVE)
  have hsup := T.sup
  unfold PySem.W.ks_superIn at hsup
  rw [hcl] at hsup
  refine PySem.W.kxs_getMethod PySem.W.kxs_ValueError e1 (PySem.W.looks_opaque KX1 T.tp) (l₀ := .ref C :: bm) ?_ rfl KX1 hsup hI (PySem.W.ks_ne KX1 J1 hcl) (by decide) ?_
  · exact fun A Q E s k q => wpAny_bind ((PySem.W.looks_clsIn KX1 hcl) A _ E s k (wpAny_pure q))
  have kp2 : ∀ b o, h1.get? b = some o → (h1.push (PySem.W.kxs_mw "ValueError.__init__" a)).get? b = some o := fun b o e => Heap.get?_push_of_some _ e
  have hu : (h1.push (PySem.W.kxs_mw "ValueError.__init__" a)).get? h1.objs.size = some (PySem.W.kxs_mw "ValueError.__init__" a) := Heap.get?_push_at rfl rfl
  have I2 : Inv X pins σ H ⟨h1.push (PySem.W.kxs_mw "ValueError.__init__" a), g, d, t + 1, os⟩ := I1.kept (t' := t + 1) kp2
  refine PySem.W.kxs_callWith (i := "ValueError.__init__") (x := a) rfl ?_
  refine evalArgs_plain ?_
  refine Calls.spliced_cons ?_
  show wpAny _ _ (eval (.Constant (.str msg) j p3) (PySem.W.ksEnv qual scope L fI (.ref cda) cc)) _ _ _
  refine Calls.Constant_str (Calls.spliced_nil ⟨hu, ?_⟩)
  show wpAny _ _ (call (.ref h1.objs.size) [.str msg (t + 1)]) _ _ _
  have I3 : Inv X pins σ H ⟨h1.push (PySem.W.kxs_mw "ValueError.__init__" a), g, d, t + 1 + 1, os⟩ := I2.tok _
  refine wpAny_call (codeAny_of_tree ?_)
  show wpAny _ A.in1 (callAny (.ref h1.objs.size) ⟨[.str msg (t + 1)], []⟩) _ _ _
  simp only [callAny]
  refine wpAny_bind (wpAny_load hu ?_)
  simp only [PySem.W.kxs_mw, show (Value.type "method-wrapper" == Value.type "method" || Value.type "method-wrapper" == Value.type "builtin_function_or_method" || Value.type "method-wrapper" == Value.type "method-wrapper") = true by decide, if_true]
  refine PySem.W.KFB.if_so (by decide) ?_
  have hC2 := kp2 _ _ (kp1 _ _ hCo)
  have ho2 := kp2 _ _ ho1
  refine wpAny_bind (PySem.W.check_bound_init F.excBase_ValueError.toExcCallFacts hC2 ho2 rfl ?_)
  refine wpAny_bind (wpAny_pure (wpAny_pure ?_))
  refine ⟨plainId_quiet F.excBase_ValueError.init.plain _, codeAny_builtin F.excBase_ValueError.initEntry ?_⟩
  refine PySem.W.exc_init_tree (cls := .ref C) (t0 := t1) (dv := none) (c2 := .none) (c3 := .none) (b4 := .bool false) ho2 (by show 1 ≤ sizeLine; rw [sizeLine_eq]; omega) (fun h3 kp3 e3 _ => ?_)
  have J := I3.write (t' := t + 1 + 1) (x := a) (e := a) (o := exo a C none) (by rw [hx]; exact True.intro) (.inl rfl) kp3 ⟨_, e3⟩ (exo_ok e3)
  have eu : upd H a (exo a C none) = H := by
    funext b
    by_cases hb : b = a
    · rw [hb, upd_same, hx]
    · rw [upd_ne hb]
  rw [eu] at J
  exact h _ J

abbrev errEnv (qual : Str) (scope : Scope) (L fI cda cc : Addr) : Env := PySem.W.ksEnv qual scope L fI (.ref cda) cc
/-- the context of such an __init__'s body -/
def errCx (CX : CXT) (P : Program) (w : World) (K : PySem.W.Frag) (mg : Str → Option Value) (base : Heap) (N : List Str) (qual : Str) (scope : Scope) (fI cda cc : Addr) (A : Around) (outer : List Env) (s : Shared) (H : Hp) (E : XK) : Cx where
  prog := P
  w := w
  K := K
  mg := mg
  base := base
  A := A.deeper (errEnv qual scope s.heap.objs.size fI cda cc)
  N := N
  s_0 := s
  H_0 := H
  env := errEnv qual scope s.heap.objs.size fI cda cc
  outer := outer
  stack := errEnv qual scope s.heap.objs.size fI cda cc :: outer
  ex := []
  calm := true
  fn := fun _ => false
  pn := []
  xe := fun e s' => wpAny (model P w) (A.deeper (errEnv qual scope s.heap.objs.size fI cda cc)) (leaving (errEnv qual scope s.heap.objs.size fI cda cc) e) (fun _ s'' => CX outer H s E e s'') (fun e' s'' => CX outer H s E e' s'') s'

/-- the names of such an __init__ -/
structure ErrS (scope : Scope) : Prop where
  kind : scope.kind = .function
  co : scope.isCoroutine = false
  gen : scope.isGenerator = false
  cell : ∀ x ∈ scope.names, x.2 ≠ .cell
  free : ∀ x, scope.names.lookup x = some .free → x = "__class__"
  sup : scope.names.lookup ("super" : Str) = some .globalImplicit
  cls : scope.names.lookup ("__class__" : Str) = some .free
  self : scope.names.lookup ("self" : Str) = some .local

theorem err_inv {CX : CXT} {N : List Str} {qual : Str} {scope : Scope} {A : Around} {outer : List Env} {s : Shared} {H : Hp} {E : XK} {h₀ : Heap} {m : Str → Option Value} {σ : L2.St} {tk : Nat} (T : ErrT P K mg C cc cda) (S : ErrS scope) (hd : A.handled = none) (e0 : Env0 P w K mg base A outer s H)
    (hns : h₀.Ns s.heap.objs.size m) (hk : ∀ b o, s.heap.get? b = some o → h₀.get? b = some o) (hl : σ.length = N.length)
    (hv : ∀ (i : Nat) (x : Str) (v : V), N[i]? = some x → σ[i]? = some (some v) → ∃ u, RelV v u ∧ scope.names.lookup x = some .local ∧ m x = some u) :
    Inv (errCx CX P w K mg base N qual scope fI cda cc A outer s H E) [] σ H { s with heap := h₀, toks := tk } := by
  obtain ⟨cl, cld, csl, hcell⟩ := T.cell
  have hb := e0.mod.kin _ _ hcell
  have hccs := (e0.bs _ _ hb).1
  have lk : ∀ x c, (errEnv qual scope s.heap.objs.size fI cda cc).cells.lookup x = some c → x = "__class__" ∧ c = cc := fun x c e => by
    have e' : (match x == ("__class__" : Str) with | true => some cc | false => none) = some c := e
    cases q : (x == ("__class__" : Str)) with
    | true =>
      rw [q] at e'
      exact ⟨eq_of_beq q, (Option.some.inj e').symm⟩
    | false =>
      rw [q] at e'
      cases e'
  have noA : ∀ b : Addr, b ∉ (errCx CX P w K mg base N qual scope fI cda cc A outer s H E).ex := fun b z => absurd (show b ∈ ([] : List Addr) from z) (by simp)
  refine ⟨⟨e0.mod, S.kind, rfl, rfl, Nat.le_refl _, fun y z c h1 h2 => ?_, fun y hy => ?_, fun y c hf _ => ?_, fun _ => hd, Around.frames_deeper e0.frames, .inr ⟨rfl, rfl⟩, fun b z => absurd z (noA b), e0.bs, e0.bsz, fun b _ _ => noA b, fun b z => absurd z (noA b), e0.funs, e0.frf⟩,
    rfl, e0.bare, Un.kept hk, ⟨_, hns, fun i y v h1 h2 h3 => ?_⟩, fun y c h => ?_, e0.hok.fresh (Nat.le_refl _), fun y c h => ?_, fun p hp => absurd (show p ∈ ([] : List (Addr × Obj)) from hp) (by simp), e0.hok.kept hk, hl⟩
  · rw [(lk y c h1).1, (lk z c h2).1]
  · have hy : scope.names.lookup y = some .cell ∨ scope.names.lookup y = some .free := hy
    rcases hy with hy | hy
    · exact absurd rfl (S.cell _ (PySem.mem_of_lookup hy))
    · rw [S.free y hy]
      exact ⟨cc, rfl⟩
  · cases hf
  · obtain ⟨u, r, q1, q2⟩ := hv i y v h1 h2
    exact ⟨u, r, .inl ⟨q1, q2⟩⟩
  · rw [(lk y c h).2]
    exact ⟨_, _, hk _ _ hccs, rfl⟩
  · rw [(lk y c h).2]
    exact (e0.bs _ _ hb).2

/-- the promise of __init__(self, f) -/
def spErr1 (C : Addr) (f : Str) : Sp := fun vs H Q _ => ∃ (a : Addr) (v : V), vs = [.ref a, v] ∧ H a = some (exo a C none) ∧ ∀ dx, H dx = none → dx ≠ a → Q .non (upd (upd H dx (exd dx [(f, v)])) a (exo a C (some dx)))
/-- the promise of __init__(self) -/
def spErr0 (C : Addr) : Sp := fun vs H Q _ => ∃ (a : Addr), vs = [.ref a] ∧ H a = some (exo a C none) ∧ Q .non H

theorem err_init1 {CX : CXT} {qual f msg : Str} {params : Arguments} {scope : Scope} {dV kV doc pm ct oc : Value} {an od : Option Addr} {osl : Array (Option Value)} {p0 p1 p2 p3 p4 p5 q0 q1 q2 q3 : Pos} {j : Nat} {ar : Arg}
    (T : ErrT P K mg C cc cda) (S : ErrS scope) (lk : K.lookup fI = some ⟨oc, od, .func (PySem.W.ksFn "__init__" qual params [stSuper msg p0 p1 p2 p3 p4 p5 j, stKeep f q0 q1 q2 q3] scope dV kV doc pm an (.ref cda) ct cc), osl⟩)
    (hcd : PySem.W.codeIn K (.ref cda) qual = true) (hp : (params.posonlyargs ++ params.args).head? = some ar) (har : ar.arg = "self") (hf : scope.names.lookup f = some .local) (hfs : f ≠ "self") (hfd : (f == ("__debug__" : Str)) = false) (hfc : (f == ("__classdict__" : Str)) = false)
    (hno : PySem.W.findIn K (.ref C) f = some none) (hpos : (p2.endLine == p4.line) = true) (hsw1 : ∀ env, swapsWith (.Call (.Attribute (.Call (.Name "super" p0) [] [] p1) "__init__" p2) [.Constant (.str msg) j p3] [] p4) none p5.line env = pure false)
    (hsw2 : ∀ env, swapsWith (.Name f q2) (some (.Attribute (.Name "self" q0) f q1)) q3.line env = pure false) :
    FnOk P w K mg base CX 1 fI (PySem.W.ksFn "__init__" qual params [stSuper msg p0 p1 p2 p3 p4 p5 j, stKeep f q0 q1 q2 q3] scope dV kV doc pm an (.ref cda) ct cc) ["self", f] (spErr1 C f) := by
  refine ⟨fun vs H Q E h => ?_, fun A outer s H args us vs Q E hr e0 hb r hsp => ?_⟩
  · obtain ⟨a, v, rfl, _⟩ := h
    rfl
  obtain ⟨a, v, rfl, ha, k⟩ := hsp
  cases r with
  | @cons _ u0 _ ur ra rr =>
    obtain rfl : u0 = Value.ref a := ra
    cases rr with
    | @cons _ u _ ur2 ru rr2 =>
      cases rr2
      have KX : K.In s.heap := e0.mod.kin.keeps fun b o e => (e0.bs b o e).1
      have lim : s.heap.NoLimit := e0.mod.nolimit.keeps fun b o e => (e0.bs b o e).1
      refine ks_codeAny_call_defAt (fd := PySem.W.ksFn "__init__" qual params [stSuper msg p0 p1 p2 p3 p4 p5 j, stKeep f q0 q1 q2 q3] scope dV kV doc pm an (.ref cda) ct cc) (body := [stSuper msg p0 p1 p2 p3 p4 p5 j, stKeep f q0 q1 q2 q3]) (binds := (["self", f] : List Str).zip [.ref a, u]) hr.depth (KX _ _ lk) rfl lim (PySem.W.codeRec_of KX hcd) rfl hb S.cell (fun x hx => ?_) (fun h₀ hns hk => ?_) S.co S.gen S.kind
      · have hx' : x ∈ ([("self", .ref a), (f, u)] : List (Str × Value)) := hx
        rcases List.mem_cons.mp hx' with rfl | hx'
        · exact S.self
        · rcases List.mem_cons.mp hx' with rfl | hx'
          · exact hf
          · cases hx'
      have hm : ∀ x, ((["self", f] : List Str).zip [Value.ref a, u]).reverse.lookup x = (if x = f then some u else if x = "self" then some (.ref a) else none) := fun x => by
        show ([(f, u), ("self", .ref a)] : List (Str × Value)).lookup x = _
        by_cases h1 : x = f
        · subst h1
          simp [List.lookup]
        · have e1 : (x == f) = false := by simpa using h1
          by_cases h2 : x = "self"
          · subst h2
            simp [List.lookup, h1, e1]
          · have e2 : (x == ("self" : Str)) = false := by simpa using h2
            simp [List.lookup, h1, h2, e1, e2]
      have I : Inv (errCx CX P w K mg base ["self", f] qual scope fI cda cc A outer s H E) [] [some (.ref a), some v] H { s with heap := h₀, toks := s.toks + ((["self", f] : List Str).zip [Value.ref a, u]).length } := err_inv T S hr.hd e0 hns hk rfl (fun i x v' h1 h2 => by
        match i, h1, h2 with
        | 0, h1, h2 =>
          have e1 : ("self" : Str) = x := Option.some.inj h1
          have e2 : V.ref a = v' := Option.some.inj (Option.some.inj h2)
          subst e1 e2
          exact ⟨.ref a, rfl, S.self, by rw [hm, if_neg (Ne.symm hfs), if_pos rfl]⟩
        | 1, h1, h2 =>
          have e1 : f = x := Option.some.inj h1
          have e2 : v = v' := Option.some.inj (Option.some.inj h2)
          subst e1 e2
          exact ⟨u, ru, hf, by rw [hm, if_pos rfl]⟩
        | i + 2, h1, h2 => simp at h1)
      refine ks_wpAt_execs_cons (ks_wpAt_Expr_any ?_ (by show interactive (errEnv qual scope s.heap.objs.size fI cda cc) = false; unfold interactive; simp [S.kind]) (hsw1 _))
      refine super_run (X := errCx CX P w K mg base ["self", f] qual scope fI cda cc A outer s H E) (qual := qual) (scope := scope) (L := s.heap.objs.size) T I rfl ha lk hp hns (by rw [har, hm, if_neg (Ne.symm hfs), if_pos rfl]) S.sup S.cls (by rw [har]; exact S.self) S.kind hpos (fun s1 I1 => ?_)
      refine wpAt_of_wpAny ?_
      have hbody : PSs (errCx CX P w K mg base ["self", f] qual scope fI cda cc A outer s H E) [stKeep f q0 q1 q2 q3] (tOst K f (tVar 0) (tVar 1)) :=
        pss_one (ps_ost (pe_var (i := 0) rfl (.inl S.self)) (pe_var (i := 1) rfl (.inl hf) hfd hfc) (hsw2 _))
      refine wpAny_mono (hbody.run [] s1 _ H { nx := fun _ H' => Q .non H', rt := Q } I1 ⟨v, rfl, _, rfl, a, C, rfl, T.T, hno, .inl ⟨ha, k⟩⟩) (fun fl s' hs => ?_) fun e s' hs => hs
      have fin : ∀ {σ' : L2.St} {H' : Hp} {v : V} {u : Value}, Inv (errCx CX P w K mg base ["self", f] qual scope fI cda cc A outer s H E) [] σ' H' s' → RelV v u → Q v H' → CE outer P w H s Q u s' :=
        fun {σ' H' v u} J rv q => ⟨v, H', J.os, J.bare, J.base, J.hok, rv, q⟩
      cases fl with
      | ret u =>
        obtain ⟨v, σ', H', J, rv, q⟩ := hs
        exact fin J rv q
      | next =>
        obtain ⟨σ', H', J, q⟩ := hs
        exact fin (v := V.non) (u := Value.none) J rfl q
      | brk =>
        obtain ⟨_, _, _, q⟩ := hs
        exact False.elim q
      | cont =>
        obtain ⟨_, _, _, q⟩ := hs
        exact False.elim q

theorem err_init0 {CX : CXT} {qual msg : Str} {params : Arguments} {scope : Scope} {dV kV doc pm ct oc : Value} {an od : Option Addr} {osl : Array (Option Value)} {p0 p1 p2 p3 p4 p5 : Pos} {j : Nat} {ar : Arg}
    (T : ErrT P K mg C cc cda) (S : ErrS scope) (lk : K.lookup fI = some ⟨oc, od, .func (PySem.W.ksFn "__init__" qual params [stSuper msg p0 p1 p2 p3 p4 p5 j] scope dV kV doc pm an (.ref cda) ct cc), osl⟩)
    (hcd : PySem.W.codeIn K (.ref cda) qual = true) (hp : (params.posonlyargs ++ params.args).head? = some ar) (har : ar.arg = "self")
    (hpos : (p2.endLine == p4.line) = true) (hsw1 : ∀ env, swapsWith (.Call (.Attribute (.Call (.Name "super" p0) [] [] p1) "__init__" p2) [.Constant (.str msg) j p3] [] p4) none p5.line env = pure false) :
    FnOk P w K mg base CX 1 fI (PySem.W.ksFn "__init__" qual params [stSuper msg p0 p1 p2 p3 p4 p5 j] scope dV kV doc pm an (.ref cda) ct cc) ["self"] (spErr0 C) := by
  refine ⟨fun vs H Q E h => ?_, fun A outer s H args us vs Q E hr e0 hb r hsp => ?_⟩
  · obtain ⟨a, rfl, _⟩ := h
    rfl
  obtain ⟨a, rfl, ha, k⟩ := hsp
  cases r with
  | @cons _ u0 _ ur ra rr =>
    obtain rfl : u0 = Value.ref a := ra
    cases rr
    have KX : K.In s.heap := e0.mod.kin.keeps fun b o e => (e0.bs b o e).1
    have lim : s.heap.NoLimit := e0.mod.nolimit.keeps fun b o e => (e0.bs b o e).1
    refine ks_codeAny_call_defAt (fd := PySem.W.ksFn "__init__" qual params [stSuper msg p0 p1 p2 p3 p4 p5 j] scope dV kV doc pm an (.ref cda) ct cc) (body := [stSuper msg p0 p1 p2 p3 p4 p5 j]) (binds := (["self"] : List Str).zip [.ref a]) hr.depth (KX _ _ lk) rfl lim (PySem.W.codeRec_of KX hcd) rfl hb S.cell (fun x hx => ?_) (fun h₀ hns hk => ?_) S.co S.gen S.kind
    · have hx' : x ∈ ([("self", .ref a)] : List (Str × Value)) := hx
      rcases List.mem_cons.mp hx' with rfl | hx'
      · exact S.self
      · cases hx'
    have hm : ((["self"] : List Str).zip [Value.ref a]).reverse.lookup ("self" : Str) = some (Value.ref a) := by show ([(("self" : Str), Value.ref a)] : List (Str × Value)).lookup ("self" : Str) = some (Value.ref a); simp [List.lookup]
    have I : Inv (errCx CX P w K mg base ["self"] qual scope fI cda cc A outer s H E) [] [some (.ref a)] H { s with heap := h₀, toks := s.toks + ((["self"] : List Str).zip [Value.ref a]).length } := err_inv T S hr.hd e0 hns hk rfl (fun i x v' h1 h2 => by
      match i, h1, h2 with
      | 0, h1, h2 =>
        have e1 : ("self" : Str) = x := Option.some.inj h1
        have e2 : V.ref a = v' := Option.some.inj (Option.some.inj h2)
        subst e1 e2
        exact ⟨.ref a, rfl, S.self, hm⟩
      | i + 1, h1, h2 => simp at h1)
    refine ks_wpAt_execs_cons (ks_wpAt_Expr_any ?_ (by show interactive (errEnv qual scope s.heap.objs.size fI cda cc) = false; unfold interactive; simp [S.kind]) (hsw1 _))
    refine super_run (X := errCx CX P w K mg base ["self"] qual scope fI cda cc A outer s H E) (qual := qual) (scope := scope) (L := s.heap.objs.size) T I rfl ha lk hp hns (by rw [har]; exact hm) S.sup S.cls (by rw [har]; exact S.self) S.kind hpos (fun s1 I1 => ?_)
    refine wpAt_of_wpAny (wpAny_execs_nil ?_)
    exact ⟨.non, H, I1.os, I1.bare, I1.base, I1.hok, rfl, k⟩
end
end ER
set_option Elab.async false
set_option linter.all false
set_option maxRecDepth 100000
set_option maxHeartbeats 4000000
namespace PySem
namespace ER2
open HandSPX
section
variable {M : Model} {A : Around} {E : Value → Shared → Prop} {h : Heap} {g : Array GenState} {d : Drawn} {t : Nat} {os : OsState}
variable {nm q : Str} {C N : Addr} {bs bm bmB : List Value} {hdct : Bool} {sn : List Str} {sub : List Value} {ab : Bool} {col : Option Bool} {dd : Option Addr} {k0 k1 k2 k3 k5 : Option Value} {B newId initId : String}

theorem check_new_kw (F : ExcBaseFacts B newId initId bmB) (hT : ∀ X : String, bm.contains (.type X) = bmB.contains (.type X)) {kw : List (Str × Value)} {Q : Unit → Shared → Prop}
    (hC : h.get? C = some (excClassObj nm q C N bs bm hdct sn sub ab col dd k0 k1 k2 k3 k5 newId)) (hq : Q () ⟨h, g, d, t, os⟩) : wpAny M A (checkBuiltinCall newId ⟨[.ref C], kw⟩) Q E ⟨h, g, d, t, os⟩ := by
  have hcont : (Value.ref C :: bm).contains (.type B) = true := by rw [List.contains_cons, hT, F.hasB, Bool.or_true]
  have hstar := F.noStar
  simp only [checkBuiltinCall, F.newKind, F.newSplit, F.newRow]
  repeat (first | refine wpAny_loadPart_at hC ?_ | (refine wpAny_isSubtype_exc hC ?_; rw [hcont]) | refine wpAny_staticBase_exc hC ?_ | refine wpAny_madeBy_exc hC ?_ | simp only [bne_self_eq_false, Bool.false_eq_true, if_false] | wp_step)
  exact hq
end
section
variable {prog : Program} {w : World} {A : Around} {E : Value → Shared → Prop} {R : Result → Shared → Prop} {h : Heap} {g : Array GenState} {d : Drawn} {t : Nat} {os : OsState}
variable {nm q : Str} {C N : Addr} {bs bm bmB : List Value} {hdct : Bool} {sn : List Str} {sub : List Value} {ab : Bool} {col : Option Bool} {dd : Option Addr} {k0 k1 k2 k3 k5 : Option Value} {B newId initId : String}

theorem new_kw (F : ExcBaseFacts B newId initId bmB) (hT : ∀ X : String, bm.contains (.type X) = bmB.contains (.type X)) {kw : List (Str × Value)}
    (hC : h.get? C = some (excClassObj nm q C N bs bm hdct sn sub ab col dd k0 k1 k2 k3 k5 newId))
    (hq : R (.ok (.ret (.ref (h.objs.size + 1)))) ⟨(h.push { cls := .type "tuple", data := .seq ([] : List Value).toArray }).push
      { cls := .ref C, data := .fields #[.ref h.objs.size, .none, .none, .none, .bool false, .none] }, g, d, t, os⟩) :
    codeAny (model prog w) A (.builtin newId ⟨[.ref C], kw⟩) R ⟨h, g, d, t, os⟩ := by
  have hends := F.ends
  have hcB : (Value.ref C :: bm).contains (.type B) = true := by rw [List.contains_cons, hT, F.hasB, Bool.or_true]
  have hcA : (Value.ref C :: bm).contains (.type "AttributeError") = false := by rw [List.contains_cons, hT, F.noAttr]; rfl
  have hcN : (Value.ref C :: bm).contains (.type "NameError") = false := by rw [List.contains_cons, hT, F.noName]; rfl
  refine codeAny_builtinAt F.entry ?_
  unfold Builtin.«BaseException.__new__»
  refine wpAt_bind ?_
  show wpAt _ _ _ (stack >>= _) _ _ _
  refine wpAt_bind (wpAt_stack fun p below => wpAt_of_wpAny ?_)
  wp_walk
  refine wpAt_of_wpAny ?_
  rw [F.owner]
  repeat (first | with_reducible refine wpAny_madeHere_exc F.canon hC ?_ | with_reducible refine wpAny_loadPart_at hC ?_ | (with_reducible refine wpAny_isSubtype_exc hC ?_; first | rw [hcB] | rw [hcA] | rw [hcN]) | wp_step)
  show R _ _
  rw [Heap.size_push]
  exact hq

theorem type_call_kw (F : ExcBaseFacts B newId initId bmB) (hT : ∀ X : String, bm.contains (.type X) = bmB.contains (.type X)) {kw : List (Str × Value)} {fI : Addr} {Q : Fin → Shared → Prop}
    (hC : h.get? C = some (excClassObj nm q C N bs bm hdct sn sub ab col dd k0 k1 k2 k3 k5 newId))
    (hi : W.Looks (model prog w) h (typeLookup (.ref C) "__init__") (some (.ref fI))) (hb : ∀ self, W.Looks (model prog w) h (bindSpecial (.ref fI) self) (.ref fI, [self]))
    (hq : codeAny (model prog w) A (.call (.ref fI) ⟨[.ref (h.objs.size + 1)], kw⟩)
      (fun r s' => match r with | .ok (.ret v) => v = .none ∧ Q (.done (.ret (.ref (h.objs.size + 1)))) s' | .ok _ => False | .error e => E e s')
      ⟨(h.push (W.kdv_tup [])).push (excO C h.objs.size), g, d, t, os⟩) :
    wpAny (model prog w) A (Builtin.«type.__call__» ⟨[.ref C], kw⟩) Q E ⟨h, g, d, t, os⟩ := by
  repeat (first | with_reducible refine wpAny_loadPart_at hC ?_ | with_reducible refine wpAny_madeBy_exc hC ?_ | wp_step)
  refine codeAny_call_builtin_code (Code.quiet_builtin _ F.quiet) (check_new_kw F hT hC ?_)
  refine new_kw F hT hC ?_
  show wpAny _ _ _ _ _ _
  have k : ∀ b o, h.get? b = some o → ((h.push (W.kdv_tup [])).push (excO C h.objs.size)).get? b = some o := fun b o e => Heap.get?_push_of_some _ (Heap.get?_push_of_some _ e)
  have hC₁ := k _ _ hC
  have hget : ((h.push (W.kdv_tup [])).push (excO C h.objs.size)).get? (h.objs.size + 1) = some (excO C h.objs.size) := by heap_get
  have hcC : (Value.ref C :: bm).contains (.ref C) = true := by simp
  have i1 := hi.keeps k
  have b1 := (hb (.ref (h.objs.size + 1))).keeps k
  unfold isInstance
  repeat (first | with_reducible refine wpAny_loadPart_at hget ?_ | (with_reducible refine wpAny_isSubtype_exc hC₁ ?_; rw [hcC]) | wp_step)
  show wpAny _ _ (typeLookup (.ref C) _) _ _ _
  refine i1.at ?_
  refine wpAny_holding (wpAny_bind (b1.at ?_))
  refine wpAny_bind (wpAny_call (codeAny_mono hq fun r s' z => ?_))
  rcases r with e | (v | _ | _ | _) <;> first | exact z | exact z.elim | skip
  obtain ⟨rfl, z⟩ := z
  first
    | exact wpAny_pure (wpAny_pure z)
    | (wp_walk; exact z)

theorem call_kw (F : ExcBaseFacts B newId initId bmB) (hT : ∀ X : String, bm.contains (.type X) = bmB.contains (.type X)) {kw : List (Str × Value)} {fI : Addr}
    (hC : h.get? C = some (excClassObj nm q C N bs bm hdct sn sub ab col dd k0 k1 k2 k3 k5 newId))
    (hi : W.Looks (model prog w) h (typeLookup (.ref C) "__init__") (some (.ref fI))) (hb : ∀ self, W.Looks (model prog w) h (bindSpecial (.ref fI) self) (.ref fI, [self]))
    (hq : codeAny (model prog w) (A.under (.builtin "type.__call__" ⟨[.ref C], kw⟩)) (.call (.ref fI) ⟨[.ref (h.objs.size + 1)], kw⟩) (W.InitBack (h.objs.size + 1) R)
      ⟨(h.push (W.kdv_tup [])).push (excO C h.objs.size), g, d, t, os⟩) :
    codeAny (model prog w) A (.call (.ref C) ⟨[], kw⟩) R ⟨h, g, d, t, os⟩ := by
  have f1 := tc_lookup
  have f2 := tc_bind (.ref C)
  have hTy : (⟨h, g, d, t, os⟩ : Shared).TypeIs (.ref C) "type" := ⟨_, hC, rfl⟩
  refine codeAny_of_tree ?_
  show wpAny _ _ (callAny (.ref C) _) _ _ _
  repeat (any_goals (first | assumption | with_reducible refine wpAny_loadPart_at hC ?_ | wp_step))
  refine ⟨rfl, ?_⟩
  refine codeAny_call_builtin_at (Code.quiet_builtin _ (by decide +kernel)) entry_typeCall (wpAny_check_type_call_sub hC (type_call_kw F hT hC hi hb ?_))
  refine codeAny_mono hq fun r s' z => ?_
  rcases r with e | (v | _ | _ | _) <;> exact z
end
end ER2
end PySem
set_option Elab.async false
set_option linter.all false
set_option maxRecDepth 100000
set_option maxHeartbeats 4000000
namespace ER
open PySem PySem.Spec PySem.Calls PyProof.Rows L2

/-- an error class of one field, as the written part has it -/
structure Err1Ok (P : Program) (w : World) (K : PySem.W.Frag) (mg : Str → Option Value) (base : Heap) (C : Addr) (f : Str) (fI : Addr) (fd : FuncData) : Prop where
  T : OexC K C
  init : PySem.W.findIn K (.ref C) "__init__" = some (some (.ref fI))
  tI : PySem.W.typeIn K (.ref fI) = some (.type "function")
  F : ∀ CX, FnOk P w K mg base CX 1 fI fd ["self", f] (spErr1 C f)
  b : ∀ (s : Shared) (a u : Value), BindsTo s fd ⟨[a, u], []⟩ ((["self", f] : List Str).zip [a, u])
  bk : ∀ (s : Shared) (a u : Value), BindsTo s fd ⟨[a], [(f, u)]⟩ ((["self", f] : List Str).zip [a, u])
structure Err0Ok (P : Program) (w : World) (K : PySem.W.Frag) (mg : Str → Option Value) (base : Heap) (C : Addr) (fI : Addr) (fd : FuncData) : Prop where
  T : OexC K C
  init : PySem.W.findIn K (.ref C) "__init__" = some (some (.ref fI))
  tI : PySem.W.typeIn K (.ref fI) = some (.type "function")
  F : ∀ CX, FnOk P w K mg base CX 1 fI fd ["self"] (spErr0 C)
  b : ∀ (s : Shared) (a : Value), BindsTo s fd ⟨[a], []⟩ ((["self"] : List Str).zip [a])

/-- C(e): a new exception and its dict -/
def tErr (C : Addr) (f : Str) (ta : TA) : TE := fun σ H Q => ta σ H fun vs H1 => ∃ v, vs = [v] ∧ ∀ a d, H1 a = none → H1 d = none → d ≠ a → Q (.ref a) (upd (upd H1 d (exd d [(f, v)])) a (exo a C (some d)))
def tErr0 (C : Addr) : TE := fun _ H Q => ∀ a, H a = none → Q (.ref a) (upd H a (exo a C none))
theorem upd3 {H : Hp} {a d : Addr} {o o' o2 : HO} (h : d ≠ a) : upd (upd (upd H a o) d o2) a o' = upd (upd H d o2) a o' := by
  funext b
  by_cases h1 : b = a
  · rw [h1, upd_same, upd_same]
  · rw [upd_ne h1, upd_ne h1]
    by_cases h2 : b = d
    · rw [h2, upd_same, upd_same]
    · rw [upd_ne h2, upd_ne h2, upd_ne h1]
section
variable {X : Cx} {C fI : Addr} {fd : FuncData} {f x : Str} {p pos : Pos} {e : Expr} {te : TE}
theorem run_err {pins : List (Addr × Obj)} {σ : L2.St} {H : Hp} {s : Shared} {Q : VK} {v : V} {u : Value} {kw : Bool} (T : Err1Ok X.prog X.w X.K X.mg X.base C f fI fd) (hr : Room 2 X.A) (I : Inv X pins σ H s) (rv : RelV v u)
    (h : ∀ a d, H a = none → H d = none → d ≠ a → Q (.ref a) (upd (upd H d (exd d [(f, v)])) a (exo a C (some d)))) :
    wpAny (model X.prog X.w) X.A (call (.ref C) (if kw then [] else [u]) (if kw then [(f, u)] else [])) (EP X pins σ Q) X.xe s := by
  obtain ⟨nm, q, N, bs, bm, sn, sub, ab, col, dd, k0, k1, k2, k3, k5, hC, hbm⟩ := T.T.cls
  obtain ⟨hp, g, dr, tk, os⟩ := s
  have hsz : hp.objs.size ≤ hp.objs.size + 1 := Nat.le_succ _
  have hn : H (hp.objs.size + 1) = none := I.hok.fresh hsz
  have main : ∀ us0 : List Value, us0.length ≤ 1 → ∀ ar : Args, BindsTo ⟨(hp.push (PySem.W.kdv_tup us0)).push (PySem.HandSPX.excO C hp.objs.size), g, dr, tk, os⟩ fd ar ((["self", f] : List Str).zip [.ref (hp.objs.size + 1), u]) → ∀ A' : Around, Room 1 A' → A'.frames = X.A.frames →
      codeAny (model X.prog X.w) A' (.call (.ref fI) ar) (PySem.W.InitBack (hp.objs.size + 1) fun r s' => match r with | .ok (.ret v) => EP X pins σ Q v s' | .ok _ => False | .error e => X.xe e s') ⟨(hp.push (PySem.W.kdv_tup us0)).push (PySem.HandSPX.excO C hp.objs.size), g, dr, tk, os⟩ := fun us0 hus0 ar hb A' hr' hfr => by
    have kk : ∀ b o, hp.get? b = some o → ((hp.push (PySem.W.kdv_tup us0)).push (PySem.HandSPX.excO C hp.objs.size)).get? b = some o := fun b o e => Heap.get?_push_of_some _ (Heap.get?_push_of_some _ e)
    have hget : ((hp.push (PySem.W.kdv_tup us0)).push (PySem.HandSPX.excO C hp.objs.size)).get? (hp.objs.size + 1) = some (PySem.HandSPX.excO C hp.objs.size) := by heap_get
    have I2 : Inv X pins σ (upd H (hp.objs.size + 1) (exo (hp.objs.size + 1) C none)) ⟨(hp.push (PySem.W.kdv_tup us0)).push (PySem.HandSPX.excO C hp.objs.size), g, dr, tk, os⟩ :=
      I.laid (t' := tk) (a := hp.objs.size + 1) (o := exo (hp.objs.size + 1) C none) (h' := (hp.push (PySem.W.kdv_tup us0)).push (PySem.HandSPX.excO C hp.objs.size)) kk hsz (exo_ok hget)
    have r2 : Vals [V.ref (hp.objs.size + 1), v] [Value.ref (hp.objs.size + 1), u] := .cons rfl (.cons rv .nil)
    have e0 : Env0 X.prog X.w X.K X.mg X.base A' X.stack ⟨(hp.push (PySem.W.kdv_tup us0)).push (PySem.HandSPX.excO C hp.objs.size), g, dr, tk, os⟩ (upd H (hp.objs.size + 1) (exo (hp.objs.size + 1) C none)) := by
      obtain ⟨a1, a2, a3, a4, a5, a6, a7, a8⟩ := I2.env0
      exact ⟨by rw [hfr]; exact a1, a2, a3, a4, a5, a6, a7, a8⟩
    refine codeAny_mono ((T.F CX0).run A' X.stack _ _ ar [.ref (hp.objs.size + 1), u] [.ref (hp.objs.size + 1), v] (fun v' H2 => v' = .non ∧ Q (.ref (hp.objs.size + 1)) H2) (fun _ _ _ => False) hr' e0 hb r2
      ⟨hp.objs.size + 1, v, rfl, upd_same, fun dx hdx hne => ⟨rfl, ?_⟩⟩) fun r s' hq' => ?_
    · rw [upd3 hne]
      exact h _ dx hn (by rw [upd_ne hne] at hdx; exact hdx) hne
    · cases r with
      | error er => exact False.elim hq'
      | ok fl =>
        cases fl with
        | ret u' =>
          obtain ⟨v', H', I3, rv', ev, q3⟩ := I2.after hq'
          subst ev
          exact ⟨rv', ⟨V.ref (hp.objs.size + 1), H', I3, rfl, q3⟩⟩
        | next => exact False.elim hq'
        | brk => exact False.elim hq'
        | cont => exact False.elim hq'
  refine wpAny_call ?_
  cases kw with
  | false =>
    refine codeAny_mono (R := fun r s' => match r with | .ok (.ret v) => EP X pins σ Q v s' | .ok _ => False | .error e => X.xe e s') (PySem.HandSPX.call_own (rest := [u]) F.excBase_ValueError (fun Y => PySem.HandSPX.refsVE_contains Y bm hbm) (I.kIn _ _ hC) (PySem.W.looks_findIn I.kIn T.init) (fun self => PySem.W.bind_fn I.kIn self T.tI) (by show 1 ≤ sizeLine; rw [sizeLine_eq]; omega)
      (main [u] (Nat.le_refl _) ⟨[.ref (hp.objs.size + 1), u], []⟩ (T.b _ _ _) _ (hr.make C [u] []) ?_)) fun r s' z => ?_
    · first | rfl | simp [Around.under, Code.envs, Code.isFrame, pushEnvs]
    · rcases r with er | (v' | _ | _ | _) <;> exact z
  | true =>
    refine codeAny_mono (R := fun r s' => match r with | .ok (.ret v) => EP X pins σ Q v s' | .ok _ => False | .error e => X.xe e s') (PySem.ER2.call_kw (kw := [(f, u)]) F.excBase_ValueError (fun Y => PySem.HandSPX.refsVE_contains Y bm hbm) (I.kIn _ _ hC) (PySem.W.looks_findIn I.kIn T.init) (fun self => PySem.W.bind_fn I.kIn self T.tI)
      (main [] (Nat.zero_le _) ⟨[.ref (hp.objs.size + 1)], [(f, u)]⟩ (T.bk _ _ _) _ (hr.make C [] [(f, u)]) ?_)) fun r s' z => ?_
    · first | rfl | simp [Around.under, Code.envs, Code.isFrame, pushEnvs]
    · rcases r with er | (v' | _ | _ | _) <;> exact z
variable {ta : TA} {kpos : Pos}
theorem pe_err (T : Err1Ok X.prog X.w X.K X.mg X.base C f fI fd) (hr : Room 2 X.A) (hg : Gl X x) (hm : X.mg x = some (.ref C)) (ha : PA X [e] ta)
    (hdb : (x == ("__debug__" : Str)) = false) (hst : starEach [e] X.env = (false, eval e X.env) :: starEach [] X.env) : PE X (.Call (.Name x p) [e] [] pos) (tErr C f ta) := by
  refine ⟨fun pins s σ H Q I h => ?_⟩
  refine wpAny_Call_Name_kw (ld_glob I hg hm ?_ hdb)
  refine PySem.W.callWith_K (h₀ := X.base) I.ok.mod.kin T.T.kC (thn (ha.run pos pins s σ H _ I h) fun us s1 ⟨vs, H1, I1, r, v, ev, q⟩ => ⟨I1.kIn, ?_⟩) hst (by rfl)
  subst ev
  cases r with
  | cons rv rr =>
    cases rr
    exact run_err (kw := false) T hr I1 rv q
theorem pe_errK (T : Err1Ok X.prog X.w X.K X.mg X.base C f fI fd) (hr : Room 2 X.A) (hg : Gl X x) (hm : X.mg x = some (.ref C)) (ha : PK X [⟨some f, e, kpos⟩] ta)
    (hdb : (x == ("__debug__" : Str)) = false) : PE X (.Call (.Name x p) [] [⟨some f, e, kpos⟩] pos) (tErr C f ta) := by
  refine ⟨fun pins s σ H Q I h => ?_⟩
  refine wpAny_Call_Name_kw (ld_glob I hg hm ?_ hdb)
  refine PySem.W.callWith_KW0 (h₀ := X.base) I.ok.mod.kin T.T.kC (by rfl) (thn (ha.run pos pins s σ H _ I h) fun us s1 ⟨vs, H1, I1, r, v, ev, q⟩ => ⟨I1.kIn, ?_⟩) (by rfl)
  subst ev
  cases r with
  | cons rv rr =>
    cases rr
    exact run_err (kw := true) T hr I1 rv q
theorem pe_err0 (T : Err0Ok X.prog X.w X.K X.mg X.base C fI fd) (hr : Room 2 X.A) (hg : Gl X x) (hm : X.mg x = some (.ref C)) (hdb : (x == ("__debug__" : Str)) = false) : PE X (.Call (.Name x p) [] [] pos) (tErr0 C) := by
  refine ⟨fun pins s σ H Q I h => ?_⟩
  refine wpAny_Call_Name_kw (ld_glob I hg hm ?_ hdb)
  refine PySem.W.callWith_K0 I.kIn T.T.kC ?_
  obtain ⟨nm, q, N, bs, bm, sn, sub, ab, col, dd, k0, k1, k2, k3, k5, hC, hbm⟩ := T.T.cls
  obtain ⟨hp, g, dr, tk, os⟩ := s
  have hsz : hp.objs.size ≤ hp.objs.size + 1 := Nat.le_succ _
  have hn : H (hp.objs.size + 1) = none := I.hok.fresh hsz
  have kk : ∀ b o, hp.get? b = some o → ((hp.push (PySem.W.kdv_tup [])).push (PySem.HandSPX.excO C hp.objs.size)).get? b = some o := fun b o e => Heap.get?_push_of_some _ (Heap.get?_push_of_some _ e)
  have hget : ((hp.push (PySem.W.kdv_tup [])).push (PySem.HandSPX.excO C hp.objs.size)).get? (hp.objs.size + 1) = some (PySem.HandSPX.excO C hp.objs.size) := by heap_get
  have I2 : Inv X pins σ (upd H (hp.objs.size + 1) (exo (hp.objs.size + 1) C none)) ⟨(hp.push (PySem.W.kdv_tup [])).push (PySem.HandSPX.excO C hp.objs.size), g, dr, tk, os⟩ :=
    I.laid (t' := tk) (a := hp.objs.size + 1) (o := exo (hp.objs.size + 1) C none) (h' := (hp.push (PySem.W.kdv_tup [])).push (PySem.HandSPX.excO C hp.objs.size)) kk hsz (exo_ok hget)
  have r2 : Vals [V.ref (hp.objs.size + 1)] [Value.ref (hp.objs.size + 1)] := .cons rfl .nil
  refine wpAny_call ?_
  refine codeAny_mono (R := fun r s' => match r with | .ok (.ret v) => EP X pins σ Q v s' | .ok _ => False | .error e => X.xe e s') (PySem.HandSPX.call_own (rest := []) F.excBase_ValueError (fun Y => PySem.HandSPX.refsVE_contains Y bm hbm) (I.kIn _ _ hC) (PySem.W.looks_findIn I.kIn T.init) (fun self => PySem.W.bind_fn I.kIn self T.tI) (Nat.zero_le _)
    (codeAny_mono ((T.F CX0).run _ X.stack _ _ ⟨[.ref (hp.objs.size + 1)], []⟩ [.ref (hp.objs.size + 1)] [.ref (hp.objs.size + 1)] (fun v' H2 => v' = .non ∧ Q (.ref (hp.objs.size + 1)) H2) (fun _ _ _ => False) (hr.make C [] []) (I2.env0.make C [] []) (T.b _ _) r2
      ⟨hp.objs.size + 1, rfl, upd_same, rfl, h _ hn⟩) fun r s' hq' => ?_)) fun r s' z => ?_
  · cases r with
    | error er => exact False.elim hq'
    | ok fl =>
      cases fl with
      | ret u' =>
        obtain ⟨v', H', I3, rv', ev, q3⟩ := I2.after hq'
        subst ev
        exact ⟨rv', ⟨V.ref (hp.objs.size + 1), H', I3, rfl, q3⟩⟩
      | next => exact False.elim hq'
      | brk => exact False.elim hq'
      | cont => exact False.elim hq'
  · rcases r with er | (v' | _ | _ | _) <;> exact z
end
end ER
set_option Elab.async false
set_option linter.all false
set_option maxRecDepth 100000
set_option maxHeartbeats 4000000
namespace PySem.W
open PySem PySem.Spec PySem.Calls PyProof.Rows
section
variable {prog : Program} {w : World} {A : Around} {E : Value → Shared → Prop} {s : Shared} {K : Frag} {x D : Addr} {ox : Obj} {od : Option Obj}
theorem findObj_dataO {C : Addr} {name : Str} {a g : Value} (hc : (clsIn K C).isSome = true) (ha : findIn K (.ref C) name = some (some a)) (hg : specialIn K a "__get__" = some (some g)) (ht : takesIn K a = some true) : findObj K C od name = some (.bind g a) := by
  obtain ⟨cd, hc⟩ := Option.isSome_iff_exists.mp hc
  unfold findObj
  rw [hc, Option.bind_some, ha, Option.bind_some]
  simp [hg, ht]
theorem kin_classO {Q : Option Value → Shared → Prop} (hga : findIn K (.ref D) "__getattribute__" = some (some (.builtin "BaseException.__getattribute__"))) (hgt : findIn K (.ref D) "__getattr__" = some none) (hsub : subIn K (.ref D) (.type "BaseException") = some true)
    (hdct : hasDictIn K D = true) (ha : findIn K (.ref D) "__class__" = some (some (.builtin "object.__class__")))
    (hn : specialIn K (.builtin "object.__class__") "__get__" = some (some (.builtin "getset_descriptor.__get__"))) (htk : takesIn K (.builtin "object.__class__") = some true) (hm : mroIn K D (.type "object") = some true)
    (X : K.In s.heap) (I : InstAt s.heap x ox D od) (h : Q (some (.ref D)) { s with toks := s.toks + 1 }) : wpAny (model prog w) A (getAttr? (.ref x) "__class__") Q E s := by
  have hf : findObj K D od "__class__" = some (.bind (.builtin "getset_descriptor.__get__") (.builtin "object.__class__")) := findObj_dataO (by obtain ⟨cd, hc, _⟩ := any_some hdct; rw [hc]; rfl) ha hn htk
  obtain ⟨hp, g, d, t, os⟩ := s
  have L0 := I.type (M := model prog w)
  have L1 := looks_findIn (M := model prog w) X hga
  have L2 := looks_findIn (M := model prog w) X hgt
  have L3 := looks_find (M := model prog w) X I hf
  have sub : Looks (model prog w) hp (isInstance (.ref x) (.type "BaseException")) true := L0.andThen (looks_subIn X hsub)
  have hx0 : (false && onTheHeap (Value.builtin "BaseException.__getattribute__")) = false := rfl
  have hx2 : (Value.builtin "BaseException.__getattribute__" == Value.builtin "object.__getattribute__") = false := by decide +kernel
  have hx1 : (onTheHeap (Value.ref D) && Value.builtin "BaseException.__getattribute__" == Value.builtin "object.__getattribute__") = false := by rw [hx2]; rfl
  unfold getAttr? getAttrBy? getAttrBy
  refine wpAny_bind (wpAny_mkText (wpAny_bind (wpAny_attempt (wpAny_holding (wpAny_bind (L0.at (wpAny_bind (L1.at ?_))))))))
  show wpAny _ _ (if (onTheHeap (Value.ref D) && Value.builtin "BaseException.__getattribute__" == Value.builtin "object.__getattribute__") = true then _ else _) _ _ _
  rw [hx1, if_neg Bool.false_ne_true]
  unfold getAttrByItsOwn hookBefore
  refine wpAny_bind ?_
  rw [if_pos (show onTheHeap (Value.ref D) = true from rfl)]
  refine L2.at ?_
  refine wpAny_bind (wpAny_attempt (wpAny_holding ?_))
  unfold callGetattribute
  rw [hx0, if_neg Bool.false_ne_true]
  unfold boundAndCalled
  rw [PySem.F.excAttr_ValueError.ga.bind (.ref x)]
  refine wpAny_bind (wpAny_pure ?_)
  show wpAny _ _ (call (.builtin "BaseException.__getattribute__") [.ref x, .str "__class__" t]) _ _ _
  refine wpAny_call (codeAny_call_builtin PySem.F.excAttr_ValueError.ga.plain PySem.F.entry_bexc_ga ?_)
  refine @check_slot (model prog w) _ _ ⟨hp, g, d, t + 1, os⟩ "BaseException.__getattribute__" "BaseException" "__getattribute__" (.ref x) [.str "__class__" t] [] _ (by decide +kernel) (by decide +kernel) sub (PySem.F.args_bexc_ga (.ref x) (.str "__class__" t)) ?_
  unfold Builtin.«object.__getattribute__»
  refine wpAny_bind (wpAny_of_eq (a := ((Value.ref x : Value), [Value.str "__class__" t])) (by first | rfl | (simp only [slotArgs]; rfl)) ?_)
  refine wpAny_bind (wpAny_pure (wpAny_bind (L0.at (wpAny_bind (L3.at ?_)))))
  show wpAny _ _ (holding [Value.builtin "object.__class__"] (call (.builtin "getset_descriptor.__get__") [.builtin "object.__class__", .ref x, .ref D]) >>= ret) _ _ _
  refine wpAny_bind (wpAny_holding (wpAny_call (class_get (s := ⟨hp, g, d, t + 1, os⟩) (ox := ox) (od := od) X I hm ?_)))
  refine wpAny_pure ?_
  show wpAny _ _ (handedOut (.ref D)) _ _ _
  rw [handedOut_of (v := .ref D) rfl]
  first
    | exact wpAny_pure (wpAny_pure h)
    | exact wpAny_pure h
    | exact wpAny_pure (wpAny_bind (wpAny_pure (wpAny_pure h)))
theorem kitx_excO (hga : findIn K (.ref D) "__getattribute__" = some (some (.builtin "BaseException.__getattribute__"))) (hgt : findIn K (.ref D) "__getattr__" = some none) (hsub : subIn K (.ref D) (.type "BaseException") = some true) (hdct : hasDictIn K D = true) (ha : findIn K (.ref D) "__class__" = some (some (.builtin "object.__class__")))
    (hn : specialIn K (.builtin "object.__class__") "__get__" = some (some (.builtin "getset_descriptor.__get__"))) (htk : takesIn K (.builtin "object.__class__") = some true) (hm : mroIn K D (.type "object") = some true) :
    KitX K (.ref x) (.ref D) (fun h => InstAt h x ox D od) where
  ty := fun _ _ _ I => I.type
  it := fun _ _ X _ => by
    obtain ⟨cdD, hcD, _⟩ := any_some hdct
    unfold clsIn at hcD
    split at hcD
    · rename_i c' d' cd' sl' ho
      intro A' Q' E' s' k q
      unfold isType loadHead
      exact wpAny_bind (wpAny_loadPart (k _ _ (X _ _ ho)) (wpAny_pure q))
    · cases hcD
  ne := fun h tp dd its n sl X htp => by
    obtain ⟨cdD, hcD, _⟩ := any_some hdct
    refine Bool.eq_false_iff.mpr fun q => ?_
    have e : D = tp := Value.ref.inj (beq_iff_eq.mp q)
    subst e
    unfold clsIn at hcD
    split at hcD
    · rename_i c' d' cd' sl' ho
      have z := (X _ _ ho).symm.trans htp
      cases z
    · cases hcD
  ca := fun X I k => kin_classO hga hgt hsub hdct ha hn htk hm X I k
end
end PySem.W
namespace ER
open PySem PySem.Spec PySem.Calls PyProof.Rows L2
/-- an exception that stands at a, with its dict or without -/
def ExAt (H : Hp) (a C : Addr) : Prop := H a = some (exo a C none) ∨ ∃ d fs, H a = some (exo a C (some d)) ∧ H d = some (exd d fs)
/-- a value's type, exceptions too -/
inductive TyZ (K : PySem.W.Frag) (H : Hp) : V → Value → Prop where
  | base {x : V} {t : Value} (h : TyX K H x t) : TyZ K H x t
  | exc {a C : Addr} (h : ExAt H a C) (c : ExcC K C) : TyZ K H (.ref a) (.ref C)
section
variable {X : Cx} {pins : List (Addr × Obj)} {σ : L2.St} {H : Hp} {s : Shared}
theorem ex_inst (I : Inv X pins σ H s) {a C : Addr} (h : ExAt H a C) : ∃ ox od, PySem.W.InstAt s.heap a ox C od := by
  rcases h with h | ⟨d, fs, h, h2⟩
  · obtain ⟨t1, e⟩ := exo_at I.hok h
    exact ⟨_, none, ⟨e, rfl, rfl, trivial⟩⟩
  · obtain ⟨t1, e⟩ := exo_at I.hok h
    obtain ⟨mA, ⟨o, es, ep, e2, _⟩, _⟩ := exd_at I.hok h2
    exact ⟨_, some o, ⟨e, rfl, rfl, e2⟩⟩
theorem kit_ofZ {x : V} {u t : Value} (I : Inv X pins σ H s) (rx : RelV x u) (ty : TyZ X.K H x t) : ∃ P : Heap → Prop, PySem.W.KitX X.K u t P ∧ P s.heap ∧ u ≠ .builtin "__main__.__loader__#opaque" := by
  cases ty with
  | base b => exact kit_of I rx b
  | @exc a C h c =>
    cases (show u = Value.ref a from rx)
    obtain ⟨ox, od, J⟩ := ex_inst I h
    exact ⟨_, PySem.W.kitx_excO (ox := ox) (od := od) c.hg c.hk c.hs c.hd c.ha c.hn c.ht c.hm, J, fun z => nomatch z⟩
def rIsZ (K : PySem.W.Frag) : List V → Hp → VK → Prop := fun xs H Q => ∃ (x c : V) (t u : Value) (b : Bool), xs = [x, c] ∧ ClsV c u ∧ TyZ K H x t ∧ PySem.W.kitOne K t u = some b ∧ Q (.bl b) H
def rIsZT (K : PySem.W.Frag) : List V → Hp → VK → Prop := fun xs H Q => ∃ (x : V) (tp : Addr) (cs : List V) (t : Value) (us : List Value) (b : Bool), xs = [x, .ref tp] ∧ SqT K H tp cs ∧ Paired ClsV cs us ∧ TyZ K H x t ∧ PySem.W.kitAny K t us = some b ∧ Q (.bl b) H
theorem call_isZ : CallR X (.builtin "isinstance") (rIsZ X.K) := by
  intro pins s σ H xs us Q I r h
  obtain ⟨x, c, t, u, b, rfl, k, ty, e, q⟩ := h
  obtain ⟨u1, u2, rfl, r1, r2⟩ := vals2 r
  have e2 := k.eq r2
  subst e2
  obtain ⟨P, Z, p, hx⟩ := kit_ofZ I r1 ty
  exact PySem.W.kia_one Z I.kIn p e hx fun tk => ⟨.bl b, H, I.tok tk, rfl, q⟩
theorem call_isZT : CallR X (.builtin "isinstance") (rIsZT X.K) := by
  intro pins s σ H xs us Q I r h
  obtain ⟨x, tp, cs, t, ws, b, rfl, hT, k, ty, e, q⟩ := h
  obtain ⟨u1, u2, rfl, r1, r2⟩ := vals2 r
  cases (show u2 = Value.ref tp from r2)
  obtain ⟨P, Z, p, hx⟩ := kit_ofZ I r1 ty
  obtain ⟨its, rv, ⟨o, h1, h2, n, h3⟩, _⟩ := I.tuple hT
  have e3 := ClsV.all k rv
  subst e3
  obtain ⟨oc, od, dt, sl⟩ := o
  simp only at h2 h3
  subst h2 h3
  exact PySem.W.kia_tup Z I.kIn p h1 e hx fun tk => ⟨.bl b, H, I.tok tk, rfl, q⟩
end
/-- e.f of an exception that stands there -/
def tXg (K : PySem.W.Frag) (f : Str) (te : TE) : TE := fun σ H Q => te σ H fun x H1 => ∃ (a C d : Addr) (fs : List (Str × V)) (v : V), x = .ref a ∧ XfC K C ∧ PySem.W.findIn K (.ref C) f = some none ∧ H1 a = some (exo a C (some d)) ∧ H1 d = some (exd d fs) ∧ fs.lookup f = some v ∧ Q v H1
theorem pe_xg {X : Cx} {e : Expr} {te : TE} {pos : Pos} {n : Str} (he : PE X e te) (hb : attributeBase e n X.env (eval e X.env) = eval e X.env) : PE X (.Attribute e n pos) (tXg X.K n te) := by
  refine ⟨fun pins s σ H Q I h => ?_⟩
  refine attr_of hb (thn (he.run pins s σ H _ I h) fun u s1 hh => ?_)
  obtain ⟨x, H1, I1, rx, a, C, dd, fs, v, ex, T, hno, ha, hd, l, q⟩ := hh
  subst ex
  obtain rfl : u = Value.ref a := rx
  obtain ⟨t1, e1⟩ := exo_at I1.hok ha
  obtain ⟨mA, hns, hr⟩ := exd_at I1.hok hd
  obtain ⟨od, ho, hl⟩ := lookIn_ns hns
  obtain ⟨u, hu, ru⟩ := RelO.some_of (v := v) (o := mA n) (by rw [← l]; exact hr n)
  have J : PySem.W.InstAt s1.heap a _ C (some od) := ⟨e1, rfl, rfl, ho⟩
  exact PySem.HandSPX.exc_get I1.kIn J T.ga T.gg T.exC (PySem.W.findObj_own T.hdC hno rfl (by rw [hl, hu])) (handed_of ru) ⟨v, H1, I1.tok _, ru, q⟩
end ER
set_option Elab.async false
set_option linter.all false
set_option maxRecDepth 100000
set_option maxHeartbeats 4000000
namespace ER
open PySem PySem.Spec PyProof.Rows L2
section
variable {X : Cx}
/-- C(), an own exception class without own __init__ -/
theorem pe_bare {C : Addr} {bmB : List Value} {B newId initId : String} {x : Str} {p pos : Pos} (F : ExcBaseFacts B newId initId bmB) (q : PySem.W.excIn X.K C bmB newId = true) (gC : X.mg x = some (.ref C)) (kC : PySem.W.keepIn X.K (.ref C) = true) (hg : Gl X x)
    (hdb : (x == ("__debug__" : Str)) = false) : PE X (.Call (.Name x p) [] [] pos) (tErr0 C) := by
  refine ⟨fun pins s σ H Q I h => ?_⟩
  refine wpAny_Call_Name_kw (ld_glob I hg gC ?_ hdb)
  refine PySem.W.callWith_K0 I.kIn kC ?_
  show wpAny _ _ (call (.ref C) []) _ _ _
  obtain ⟨bm, N, nm, qn, bs, hdct, sn, sub, ab, col, dd, k0, k1, k2, k3, k5, mN, hC, hN, hni, T⟩ := exc_obj I.kIn q
  refine wpAny_call_exc_subT F T hC hN hni (fun h' a hm => ?_) (by show 0 ≤ sizeLine; omega)
  have hn : H a = none := I.hok.gone hm.new
  obtain ⟨t, ht, _, _⟩ := hm.there
  exact ⟨.ref a, upd H a (exo a C none), I.laidN hm.keeps hm.new hn (exo_ok ht), rfl, h a hn⟩
end
end ER
set_option Elab.async false
set_option linter.all false
set_option maxRecDepth 100000
set_option maxHeartbeats 4000000
namespace EV
open PySem PySem.Spec PyProof.Rows L2

/-! ### places, values, cells, the heap as a tree -/
inductive Bn where
  | z | s (b : Bn) | t (b : Bn)
  deriving DecidableEq
namespace Bn
def suc : Bn → Bn
  | z => s z
  | s b => t b
  | t b => s b.suc
def nat : Bn → Nat
  | z => 0
  | s b => 2 * b.nat + 1
  | t b => 2 * b.nat + 2
theorem nat_suc : ∀ b : Bn, b.suc.nat = b.nat + 1
  | z => rfl
  | s b => rfl
  | t b => by
    show 2 * b.suc.nat + 1 = 2 * b.nat + 2 + 1
    rw [nat_suc b]
    omega
end Bn

/-- built-in types by number -/
def tyN : Nat → String
  | 0 => "int" | 1 => "bool" | 2 => "str" | 3 => "list" | 4 => "tuple" | 5 => "dict" | 6 => "NoneType" | 7 => "ValueError" | 8 => "LookupError" | 9 => "TypeError" | 10 => "ArithmeticError"
  | _ => "object"
inductive A where
  | non | bl (b : Bool) | int (i : Int) | str (x : Str) | ty (n : Nat) | loc (l : Bn) | glo (g : Nat) | tup (xs : List A)

inductive Cell where
  | lst (xs : List A)
  | dct (kvs : List (A × A))
  | ins (C : Nat) (fs : List (Str × A))
  | exc (C : Nat) (fs : List (Str × A))
  | lam (n : Nat)

inductive Tr where
  | e | b (v : Option Cell) (l r : Tr)
namespace Tr
def get : Bn → Tr → Option Cell
  | _, e => none
  | .z, b v _ _ => v
  | .s i, b _ l _ => get i l
  | .t i, b _ _ r => get i r
def put : Bn → Cell → Tr → Tr
  | .z, c, e => b (some c) e e
  | .z, c, b _ l r => b (some c) l r
  | .s i, c, e => b none (put i c e) e
  | .s i, c, b v l r => b v (put i c l) r
  | .t i, c, e => b none e (put i c e)
  | .t i, c, b v l r => b v l (put i c r)
theorem get_e : ∀ i : Bn, get i e = none
  | .z => rfl
  | .s _ => rfl
  | .t _ => rfl
theorem get_put (c : Cell) : ∀ (i j : Bn) (t : Tr), get j (put i c t) = if j = i then some c else get j t
  | .z, .z, e => rfl
  | .z, .z, b _ _ _ => rfl
  | .z, .s j, e => by rw [if_neg (by intro h; cases h)]; exact get_e j
  | .z, .s j, b _ _ _ => by rw [if_neg (by intro h; cases h)]; rfl
  | .z, .t j, e => by rw [if_neg (by intro h; cases h)]; exact get_e j
  | .z, .t j, b _ _ _ => by rw [if_neg (by intro h; cases h)]; rfl
  | .s i, .z, e => by rw [if_neg (by intro h; cases h)]; rfl
  | .s i, .z, b _ _ _ => by rw [if_neg (by intro h; cases h)]; rfl
  | .s i, .s j, e => by
    show get j (put i c e) = _
    rw [get_put c i j e]
    by_cases h : j = i
    · rw [if_pos h, if_pos (by rw [h])]
    · rw [if_neg h, if_neg (by intro q; cases q; exact h rfl), get_e]; rfl
  | .s i, .s j, b _ l _ => by
    show get j (put i c l) = _
    rw [get_put c i j l]
    by_cases h : j = i
    · rw [if_pos h, if_pos (by rw [h])]
    · rw [if_neg h, if_neg (by intro q; cases q; exact h rfl)]; rfl
  | .s i, .t j, e => by rw [if_neg (by intro h; cases h)]; exact get_e j
  | .s i, .t j, b _ _ _ => by rw [if_neg (by intro h; cases h)]; rfl
  | .t i, .z, e => by rw [if_neg (by intro h; cases h)]; rfl
  | .t i, .z, b _ _ _ => by rw [if_neg (by intro h; cases h)]; rfl
  | .t i, .s j, e => by rw [if_neg (by intro h; cases h)]; exact get_e j
  | .t i, .s j, b _ _ _ => by rw [if_neg (by intro h; cases h)]; rfl
  | .t i, .t j, e => by
    show get j (put i c e) = _
    rw [get_put c i j e]
    by_cases h : j = i
    · rw [if_pos h, if_pos (by rw [h])]
    · rw [if_neg h, if_neg (by intro q; cases q; exact h rfl), get_e]; rfl
  | .t i, .t j, b _ _ r => by
    show get j (put i c r) = _
    rw [get_put c i j r]
    by_cases h : j = i
    · rw [if_pos h, if_pos (by rw [h])]
    · rw [if_neg h, if_neg (by intro q; cases q; exact h rfl)]; rfl
end Tr
/-- the next place, the cells, how many draws there may have been -/
structure Hh where
  nx : Bn
  t : Tr
  cnt : Nat
def Hh.get (h : Hh) (l : Bn) : Option Cell := h.t.get l
def Hh.put (h : Hh) (l : Bn) (c : Cell) : Hh := ⟨h.nx, h.t.put l c, h.cnt⟩
def Hh.new (h : Hh) (c : Cell) : Hh := ⟨h.nx.suc, h.t.put h.nx c, h.cnt⟩
theorem Hh.get_put (h : Hh) (l j : Bn) (c : Cell) : (h.put l c).get j = if j = l then some c else h.get j := Tr.get_put c l j h.t
theorem Hh.get_new (h : Hh) (j : Bn) (c : Cell) : (h.new c).get j = if j = h.nx then some c else h.get j := Tr.get_put c h.nx j h.t

/-! ### outcomes -/
inductive Out (α : Type) where
  | ok (a : α) (h : Hh)
  | exc (C : Nat) (fs : List (Str × A)) (h : Hh)
  | bad
  | pick (n : Nat) (k : Nat → Out α)
namespace Out
def bind {α β : Type} (m : Out α) (f : α → Hh → Out β) : Out β := match m with
  | ok a h => f a h
  | exc C fs h => exc C fs h
  | bad => bad
  | pick n k => pick n fun r => bind (k r) f
def All {α : Type} (P : α → Hh → Prop) (X : Nat → List (Str × A) → Hh → Prop) : Out α → Prop
  | ok a h => P a h
  | exc C fs h => X C fs h
  | bad => False
  | pick n k => ∀ r, r < n → All P X (k r)
theorem All.mono {α : Type} {P P' : α → Hh → Prop} {X X' : Nat → List (Str × A) → Hh → Prop} (hp : ∀ a h, P a h → P' a h) (hx : ∀ C fs h, X C fs h → X' C fs h) : ∀ {m : Out α}, m.All P X → m.All P' X'
  | ok a h, q => hp a h q
  | exc C fs h, q => hx C fs h q
  | bad, q => q
  | pick n k, q => fun r hr => All.mono hp hx (q r hr)
/-- what no exception may leave -/
def nox {α : Type} : Out α → Out α
  | ok a h => ok a h
  | exc _ _ _ => bad
  | bad => bad
  | pick n k => pick n fun r => nox (k r)
theorem all_nox {α : Type} {P : α → Hh → Prop} {X X' : Nat → List (Str × A) → Hh → Prop} : ∀ {m : Out α}, m.nox.All P X → m.All P X'
  | ok a h, q => q
  | exc C fs h, q => q.elim
  | bad, q => q
  | pick n k, q => fun r hr => all_nox (q r hr)
theorem all_bind {α β : Type} {P : β → Hh → Prop} {X : Nat → List (Str × A) → Hh → Prop} {f : α → Hh → Out β} : ∀ {m : Out α}, (m.bind f).All P X → m.All (fun a h => (f a h).All P X) X
  | ok a h, q => q
  | exc C fs h, q => q
  | bad, q => q
  | pick n k, q => fun r hr => all_bind (q r hr)
end Out

/-! ### the scene: the written part, static addresses, what stands apart -/
/-- a lambda of the text: its qualified name, its parts -/
structure LamT where
  q : Str
  params : Arguments
  body : Expr
  scope : Scope
/-- the lambda's function object at a, its code object at c -/
def LamO (t : LamT) (a c : Addr) : HO := .ext fun h => ∃ pm ctv, h.get? a = some (PySem.W.kla_obj "<lambda>" t.q t.params t.body t.scope [] pm c ctv)
structure Sc where
  K : PySem.W.Frag
  G : Nat → Option Addr
  lam : Nat → Option LamT
  F : List Addr
  Φ : Nat → Hp → Prop
  stab : ∀ m H H', Φ m H → (∀ a ∈ F, H' a = H a) → (∀ b φ, H b = some (.ext φ) → H' b = some (.ext φ)) → Φ m H'
  trk : ∀ m H, Φ m H → ∀ a ∈ F, ∃ o, H a = some o
  wid : ∀ m m' H, Φ m H → m ≤ m' → Φ m' H
abbrev Rho := Bn → Option Addr
section
variable (S : Sc)
mutual
def Rel (ρ : Rho) (H : Hp) : A → V → Prop
  | .non, v => v = .non
  | .bl b, v => v = .bl b
  | .int i, v => v = .int i
  | .str x, v => v = .str x
  | .ty n, v => v = .ty (tyN n)
  | .loc l, v => ∃ a, ρ l = some a ∧ v = .ref a
  | .glo g, v => ∃ a, S.G g = some a ∧ v = .ref a
  | .tup xs, v => ∃ a vs, v = .ref a ∧ SqT S.K H a vs ∧ Rels ρ H xs vs
def Rels (ρ : Rho) (H : Hp) : List A → List V → Prop
  | [], vs => vs = []
  | x :: xs, vs => ∃ v r, vs = v :: r ∧ Rel ρ H x v ∧ Rels ρ H xs r
end
/-- later: more places, tuples as they were -/
structure Ext (ρ : Rho) (H : Hp) (ρ' : Rho) (H' : Hp) : Prop where
  le : ∀ l a, ρ l = some a → ρ' l = some a
  tu : ∀ a vs, SqT S.K H a vs → SqT S.K H' a vs
  fz : ∀ a o u, H a = some (.frz o u) → H' a = some (.frz o u)
end
section
variable {S : Sc} {ρ ρ' ρ1 : Rho} {H H' H1 : Hp}
theorem Ext.refl : Ext S ρ H ρ H := ⟨fun _ _ h => h, fun _ _ h => h, fun _ _ _ h => h⟩
theorem Ext.trans (a : Ext S ρ H ρ1 H1) (b : Ext S ρ1 H1 ρ' H') : Ext S ρ H ρ' H' := ⟨fun l x h => b.le l x (a.le l x h), fun x vs h => b.tu x vs (a.tu x vs h), fun x o u h => b.fz x o u (a.fz x o u h)⟩
mutual
theorem Rel.mono (e : Ext S ρ H ρ' H') : ∀ {x : A} {v : V}, Rel S ρ H x v → Rel S ρ' H' x v
  | .non, _, h => h
  | .bl _, _, h => h
  | .int _, _, h => h
  | .str _, _, h => h
  | .ty _, _, h => h
  | .loc l, _, ⟨a, h1, h2⟩ => ⟨a, e.le _ _ h1, h2⟩
  | .glo _, _, h => h
  | .tup xs, _, ⟨a, vs, h1, h2, h3⟩ => ⟨a, vs, h1, e.tu _ _ h2, Rels.mono e h3⟩
theorem Rels.mono (e : Ext S ρ H ρ' H') : ∀ {xs : List A} {vs : List V}, Rels S ρ H xs vs → Rels S ρ' H' xs vs
  | [], _, h => h
  | _ :: _, _, ⟨v, r, h1, h2, h3⟩ => ⟨v, r, h1, Rel.mono e h2, Rels.mono e h3⟩
end
theorem Rels.length : ∀ {xs : List A} {vs : List V}, Rels S ρ H xs vs → vs.length = xs.length
  | [], _, h => by rw [show _ = ([] : List V) from h]; rfl
  | _ :: _, _, ⟨v, r, h1, h2, h3⟩ => by rw [h1, List.length_cons, List.length_cons, Rels.length h3]
theorem Rels.append : ∀ {xs ys : List A} {vs us : List V}, Rels S ρ H xs vs → Rels S ρ H ys us → Rels S ρ H (xs ++ ys) (vs ++ us)
  | [], _, _, _, h, g => by rw [show _ = ([] : List V) from h]; exact g
  | _ :: _, _, _, _, ⟨v, r, h1, h2, h3⟩, g => ⟨v, r ++ _, by rw [h1]; rfl, h2, Rels.append h3 g⟩
theorem Rels.one {x : A} {v : V} (h : Rel S ρ H x v) : Rels S ρ H [x] [v] := ⟨v, [], rfl, h, rfl⟩
theorem Rels.get : ∀ {xs : List A} {vs : List V} {i : Nat} {v : V}, Rels S ρ H xs vs → vs[i]? = some v → ∃ x, xs[i]? = some x ∧ Rel S ρ H x v
  | [], _, i, v, h, e => by rw [show _ = ([] : List V) from h] at e; simp at e
  | x :: _, _, 0, v, ⟨w, r, h1, h2, h3⟩, e => by
    rw [h1] at e
    simp at e
    subst e
    exact ⟨x, rfl, h2⟩
  | _ :: _, _, i + 1, v, ⟨w, r, h1, h2, h3⟩, e => by
    rw [h1] at e
    simp at e
    obtain ⟨y, q1, q2⟩ := Rels.get (i := i) h3 e
    exact ⟨y, by simpa using q1, q2⟩
theorem Rels.getA : ∀ {xs : List A} {vs : List V} {i : Nat} {x : A}, Rels S ρ H xs vs → xs[i]? = some x → ∃ v, vs[i]? = some v ∧ Rel S ρ H x v
  | [], _, i, x, h, e => by simp at e
  | x :: _, _, 0, y, ⟨w, r, h1, h2, h3⟩, e => by
    simp at e
    subst e
    exact ⟨w, by rw [h1]; rfl, h2⟩
  | _ :: _, _, i + 1, y, ⟨w, r, h1, h2, h3⟩, e => by
    simp at e
    obtain ⟨v, q1, q2⟩ := Rels.getA (i := i) h3 e
    exact ⟨v, by rw [h1]; simpa using q1, q2⟩
end
/-- fields by name -/
def RelF (S : Sc) (ρ : Rho) (H : Hp) : List (Str × A) → List (Str × V) → Prop
  | [], vs => vs = []
  | (f, x) :: xs, vs => ∃ v r, vs = (f, v) :: r ∧ Rel S ρ H x v ∧ RelF S ρ H xs r
section
variable {S : Sc} {ρ ρ' : Rho} {H H' : Hp}
theorem RelF.mono (e : Ext S ρ H ρ' H') : ∀ {xs : List (Str × A)} {vs : List (Str × V)}, RelF S ρ H xs vs → RelF S ρ' H' xs vs
  | [], _, h => h
  | (_, _) :: _, _, ⟨v, r, h1, h2, h3⟩ => ⟨v, r, h1, Rel.mono e h2, RelF.mono e h3⟩
theorem RelF.look {f : Str} : ∀ {xs : List (Str × A)} {vs : List (Str × V)}, RelF S ρ H xs vs → (∀ x, xs.lookup f = some x → ∃ v, vs.lookup f = some v ∧ Rel S ρ H x v) ∧ (xs.lookup f = none → vs.lookup f = none)
  | [], vs, h => by
    rw [show vs = [] from h]
    exact ⟨fun x e => by simp at e, fun _ => rfl⟩
  | (g, y) :: xs, vs, ⟨v, r, h1, h2, h3⟩ => by
    subst h1
    have ih := RelF.look (f := f) h3
    by_cases q : f = g
    · subst q
      refine ⟨fun x e => ⟨v, by simp [List.lookup], ?_⟩, fun e => ?_⟩
      · simp [List.lookup] at e
        subst e
        exact h2
      · simp [List.lookup] at e
    · have eb : (f == g) = false := by simpa using q
      simp only [List.lookup, eb]
      exact ih
end
/-- keys of dicts -/
def keyOf : A → Option Key
  | .int i => some (.inl i)
  | .str x => some (.inr x)
  | _ => none
def keysOf : List A → Option (List Key)
  | [] => some []
  | x :: xs => (keyOf x).bind fun k => (keysOf xs).map (k :: ·)
def RelK (S : Sc) (ρ : Rho) (H : Hp) : List (A × A) → List (Key × V) → Prop
  | [], vs => vs = []
  | (k, x) :: xs, vs => ∃ c v r, vs = (c, v) :: r ∧ keyOf k = some c ∧ Rel S ρ H x v ∧ RelK S ρ H xs r
def RelT (S : Sc) (ρ : Rho) (H : Hp) : List (A × A) → List (List Key × V) → Prop
  | [], vs => vs = []
  | (k, x) :: xs, vs => ∃ ks c v r, vs = (c, v) :: r ∧ k = .tup ks ∧ keysOf ks = some c ∧ Rel S ρ H x v ∧ RelT S ρ H xs r
section
variable {S : Sc} {ρ ρ' : Rho} {H H' : Hp}
theorem RelK.mono (e : Ext S ρ H ρ' H') : ∀ {xs : List (A × A)} {vs : List (Key × V)}, RelK S ρ H xs vs → RelK S ρ' H' xs vs
  | [], _, h => h
  | (_, _) :: _, _, ⟨c, v, r, h1, h2, h3, h4⟩ => ⟨c, v, r, h1, h2, Rel.mono e h3, RelK.mono e h4⟩
theorem RelT.mono (e : Ext S ρ H ρ' H') : ∀ {xs : List (A × A)} {vs : List (List Key × V)}, RelT S ρ H xs vs → RelT S ρ' H' xs vs
  | [], _, h => h
  | (_, _) :: _, _, ⟨ks, c, v, r, h1, h2, h3, h4, h5⟩ => ⟨ks, c, v, r, h1, h2, h3, Rel.mono e h4, RelT.mono e h5⟩
end
/-- an exception's own dict -/
def XdOk (S : Sc) (ρ : Rho) (H : Hp) (fs : List (Str × A)) (d : Option Addr) : Prop := (fs = [] ∧ d = none) ∨ ∃ dx vs, d = some dx ∧ H dx = some (.xd vs) ∧ RelF S ρ H fs vs
def COk (S : Sc) (ρ : Rho) (H : Hp) (c : Cell) (a : Addr) : Prop := match c with
  | .lst xs => ∃ vs, H a = some (.lst vs) ∧ Rels S ρ H xs vs
  | .dct kvs => ∃ o vs, H a = some (.frz o (.dK vs)) ∧ RelK S ρ H kvs vs
  | .lam n => ∃ t c, S.lam n = some t ∧ H a = some (LamO t a c) ∧ H c = some (LamX.CodeO c t.q)
  | .ins C fs => ∃ Ca dx vs, S.G C = some Ca ∧ H a = some (.ins Ca dx vs) ∧ RelF S ρ H fs vs
  | .exc C fs => ∃ Ca, S.G C = some Ca ∧ ((fs = [] ∧ H a = some (exo a Ca none)) ∨ ∃ d vs, H a = some (exo a Ca (some d)) ∧ H d = some (exd d vs) ∧ RelF S ρ H fs vs)
structure Rep (S : Sc) (ρ : Rho) (h : Hh) (H : Hp) : Prop where
  cell : ∀ l c, h.get l = some c → ∃ a, ρ l = some a ∧ COk S ρ H c a
  dom : ∀ l a, ρ l = some a → ∃ c, h.get l = some c
  inj : ∀ l l' a, ρ l = some a → ρ l' = some a → l = l'
  fresh : ∀ l c, h.get l = some c → l.nat < h.nx.nat
  fo : S.Φ h.cnt H
  foF : ∀ l a, ρ l = some a → a ∉ S.F

/-! ### how the abstract heap may turn -/
/-- an address of a list, a dict, an instance: what may be written -/
def Wr (o : HO) : Prop := match o with
  | .lst _ => True
  | .dK _ => True
  | .dT _ => True
  | .ins _ _ _ => True
  | _ => False
section
variable {S : Sc} {ρ ρ' : Rho} {H H' : Hp} {h : Hh}
theorem sqT_new {p : Addr} {o : HO} (n : H p = none) : ∀ a vs, SqT S.K H a vs → SqT S.K (upd H p o) a vs := fun a vs q => by
  rcases q with (q | ⟨ob, q⟩) | q
  · exact .inl (.inl (by rw [upd_ne (ne_of_none q n)]; exact q))
  · exact .inl (.inr ⟨ob, by rw [upd_ne (ne_of_none q n)]; exact q⟩)
  · exact .inr q
theorem fz_new {p : Addr} {o : HO} (n : H p = none) : ∀ a q u, H a = some (.frz q u) → upd H p o a = some (.frz q u) := fun a q u z => by rw [upd_ne (ne_of_none z n)]; exact z
theorem fz_wr {p : Addr} {o o' : HO} (n : H p = some o) (w : Wr o) : ∀ a q u, H a = some (.frz q u) → upd H p o' a = some (.frz q u) := fun a q u z => by rw [upd_ne (ne_of z n (by rintro rfl; exact w))]; exact z
theorem ext_wr {p : Addr} {o o' : HO} (n : H p = some o) (w : Wr o) : ∀ b φ, H b = some (.ext φ) → upd H p o' b = some (.ext φ) := fun b φ z => by rw [upd_ne (ne_of z n (by rintro rfl; exact w))]; exact z
theorem sqT_wr {p : Addr} {o o' : HO} (n : H p = some o) (w : Wr o) : ∀ a vs, SqT S.K H a vs → SqT S.K (upd H p o') a vs := fun a vs q => by
  rcases q with (q | ⟨ob, q⟩) | q
  · exact .inl (.inl (by rw [upd_ne (ne_of q n (by rintro rfl; exact w))]; exact q))
  · exact .inl (.inr ⟨ob, by rw [upd_ne (ne_of q n (by rintro rfl; exact w))]; exact q⟩)
  · exact .inr q
/-- a cell stays where its own address and, of an exception, its dict's, stay -/
theorem COk.stay {c : Cell} {a : Addr} (x : COk S ρ H c a) (e : Ext S ρ H ρ' H') (k : ∀ b o, H b = some o → (b = a ∨ ∃ φ, o = HO.ext φ) → H' b = some o) : COk S ρ' H' c a := by
  cases c with
  | lst xs =>
    obtain ⟨vs, q, r⟩ := x
    exact ⟨vs, k _ _ q (.inl rfl), Rels.mono e r⟩
  | dct kvs =>
    obtain ⟨o, vs, q, r⟩ := x
    exact ⟨o, vs, k _ _ q (.inl rfl), RelK.mono e r⟩
  | lam n =>
    obtain ⟨t, c, g, q, r⟩ := x
    exact ⟨t, c, g, k _ _ q (.inl rfl), k _ _ r (.inr ⟨_, rfl⟩)⟩
  | ins C fs =>
    obtain ⟨Ca, dx, vs, g, q, r⟩ := x
    exact ⟨Ca, dx, vs, g, k _ _ q (.inl rfl), RelF.mono e r⟩
  | exc C fs =>
    obtain ⟨Ca, g, x⟩ := x
    refine ⟨Ca, g, ?_⟩
    rcases x with ⟨z, q⟩ | ⟨d, vs, q, q2, r⟩
    · exact .inl ⟨z, k _ _ q (.inl rfl)⟩
    · exact .inr ⟨d, vs, k _ _ q (.inl rfl), k _ _ q2 (.inr ⟨_, rfl⟩), RelF.mono e r⟩
theorem COk.noTbl {c : Cell} {a : Addr} {u : HO} (x : COk S ρ H c a) (z : H a = some u) : ∀ ps, u ≠ .tbl ps := by
  cases c with
  | lst xs => obtain ⟨vs, q, r⟩ := x; rw [z] at q; cases q; nofun
  | dct kvs => obtain ⟨o, vs, q, r⟩ := x; rw [z] at q; cases q; nofun
  | lam n => obtain ⟨t, c, g, q, r⟩ := x; rw [z] at q; cases q; exact fun ps e => by unfold LamO at e; cases e
  | ins C fs => obtain ⟨Ca, dx, vs, g, q, r⟩ := x; rw [z] at q; cases q; nofun
  | exc C fs =>
    obtain ⟨Ca, g, x⟩ := x
    rcases x with ⟨_, q⟩ | ⟨d, vs, q, q2, r⟩
    · rw [z] at q; cases q; exact fun ps e => by unfold exo at e; cases e
    · rw [z] at q; cases q; exact fun ps e => by unfold exo at e; cases e
/-- something new that no cell tells of -/
theorem Rep.more {p : Addr} {o : HO} (R : Rep S ρ h H) (n : H p = none) : Rep S ρ h (upd H p o) where
  cell := fun l c q => by
    obtain ⟨a, q1, q2⟩ := R.cell l c q
    exact ⟨a, q1, q2.stay ⟨fun _ _ z => z, sqT_new n, fz_new n⟩ fun b u z _ => by rw [upd_ne (ne_of_none z n)]; exact z⟩
  dom := R.dom
  inj := R.inj
  fresh := R.fresh
  fo := S.stab _ _ _ R.fo (fun a ha => by
    obtain ⟨u, hu⟩ := S.trk _ _ R.fo a ha
    rw [upd_ne (ne_of_none hu n)]) fun b φ z => by rw [upd_ne (ne_of_none z n)]; exact z
  foF := R.foF
theorem Ext.more {p : Addr} {o : HO} (n : H p = none) : Ext S ρ H ρ (upd H p o) := ⟨fun _ _ z => z, sqT_new n, fz_new n⟩
/-- a place more -/
def rhoNew (ρ : Rho) (l : Bn) (p : Addr) : Rho := fun j => if j = l then some p else ρ j
theorem Rep.nxNone (R : Rep S ρ h H) : ρ h.nx = none := by
  cases q : ρ h.nx with
  | none => rfl
  | some a =>
    obtain ⟨c, e⟩ := R.dom _ _ q
    exact absurd (R.fresh _ _ e) (Nat.lt_irrefl _)
theorem Ext.new {p : Addr} {o : HO} (R : Rep S ρ h H) (n : H p = none) : Ext S ρ H (rhoNew ρ h.nx p) (upd H p o) := ⟨fun l a z => by
    unfold rhoNew
    rw [if_neg (fun e => by rw [e, R.nxNone] at z; cases z)]
    exact z, sqT_new n, fz_new n⟩
/-- a new cell: H' is H with p and, perhaps, other new addresses -/
theorem Rep.newN {p : Addr} {c : Cell} (R : Rep S ρ h H) (n : H p = none) (k : LamX.ExtN H H') (fo : S.Φ h.cnt H') (hc : COk S (rhoNew ρ h.nx p) H' c p) : Rep S (rhoNew ρ h.nx p) (h.new c) H' where
  cell := fun l c' q => by
    rw [Hh.get_new] at q
    by_cases e : l = h.nx
    · rw [if_pos e] at q
      cases q
      exact ⟨p, by unfold rhoNew; rw [if_pos e], hc⟩
    · rw [if_neg e] at q
      obtain ⟨a, q1, q2⟩ := R.cell l c' q
      refine ⟨a, by unfold rhoNew; rw [if_neg e]; exact q1, q2.stay ⟨fun j b z => ?_, fun b vs z => ?_, fun b o u z => k _ _ z nofun⟩ fun b u z zz => k b u z ?_⟩
      · unfold rhoNew
        rw [if_neg (fun e => by rw [e, R.nxNone] at z; cases z)]
        exact z
      · rcases z with (z | ⟨ob, z⟩) | z
        · exact .inl (.inl (k _ _ z nofun))
        · exact .inl (.inr ⟨ob, k _ _ z nofun⟩)
        · exact .inr z
      · rcases zz with zz | ⟨φ, zz⟩
        · rw [zz] at z
          exact COk.noTbl q2 z
        · rw [zz]; nofun
  dom := fun l a q => by
    unfold rhoNew at q
    rw [Hh.get_new]
    by_cases e : l = h.nx
    · rw [if_pos e]
      exact ⟨c, rfl⟩
    · rw [if_neg e] at q ⊢
      exact R.dom l a q
  inj := fun l l' a q q' => by
    have key : ∀ j, ρ j = some p → False := fun j z => by
      obtain ⟨c0, z2⟩ := R.dom j p z
      obtain ⟨a0, z3, z4⟩ := R.cell j c0 z2
      rw [z] at z3
      cases z3
      cases c0 with
      | lst xs => obtain ⟨vs, y, _⟩ := z4; rw [n] at y; cases y
      | dct kvs => obtain ⟨_, vs, y, _⟩ := z4; rw [n] at y; cases y
      | lam _ => obtain ⟨_, _, _, y, _⟩ := z4; rw [n] at y; cases y
      | ins C fs => obtain ⟨_, _, vs, _, y, _⟩ := z4; rw [n] at y; cases y
      | exc C fs =>
        obtain ⟨_, _, z4⟩ := z4
        rcases z4 with ⟨_, y⟩ | ⟨_, _, y, _⟩
        · rw [n] at y; cases y
        · rw [n] at y; cases y
    unfold rhoNew at q q'
    by_cases e : l = h.nx
    · rw [if_pos e] at q
      cases q
      by_cases e' : l' = h.nx
      · rw [e, e']
      · rw [if_neg e'] at q'
        exact (key l' q').elim
    · rw [if_neg e] at q
      by_cases e' : l' = h.nx
      · rw [if_pos e'] at q'
        cases q'
        exact (key l q).elim
      · rw [if_neg e'] at q'
        exact R.inj l l' a q q'
  fresh := fun l c' q => by
    show l.nat < h.nx.suc.nat
    rw [Bn.nat_suc]
    rw [Hh.get_new] at q
    by_cases e : l = h.nx
    · rw [e]
      exact Nat.lt_succ_self _
    · rw [if_neg e] at q
      exact Nat.lt_succ_of_lt (R.fresh l c' q)
  fo := fo
  foF := fun l a q => by
    unfold rhoNew at q
    by_cases e : l = h.nx
    · rw [if_pos e] at q
      cases q
      intro ha
      obtain ⟨u, hu⟩ := S.trk _ _ R.fo _ ha
      rw [n] at hu
      cases hu
    · rw [if_neg e] at q
      exact R.foF l a q
theorem Rep.new' {p : Addr} {c : Cell} (R : Rep S ρ h H) (n : H p = none) (k : ∀ b o, H b = some o → H' b = some o) (hc : COk S (rhoNew ρ h.nx p) H' c p) : Rep S (rhoNew ρ h.nx p) (h.new c) H' :=
  R.newN n (LamX.ExtN.of k) (S.stab _ _ _ R.fo (fun a ha => by
    obtain ⟨u, hu⟩ := S.trk _ _ R.fo a ha
    rw [k a u hu, hu]) fun b φ z => k _ _ z) hc
theorem Rep.new {p : Addr} {o : HO} {c : Cell} (R : Rep S ρ h H) (n : H p = none) (hc : COk S (rhoNew ρ h.nx p) (upd H p o) c p) : Rep S (rhoNew ρ h.nx p) (h.new c) (upd H p o) :=
  R.new' n (fun b u z => by rw [upd_ne (ne_of_none z n)]; exact z) hc
/-- a cell is written -/
theorem Rep.put {l : Bn} {a : Addr} {o o' : HO} {c' : Cell} (R : Rep S ρ h H) (hl : ρ l = some a) (ha : H a = some o) (w : Wr o) (hc : COk S ρ (upd H a o') c' a) : Rep S ρ (h.put l c') (upd H a o') where
  cell := fun j c q => by
    rw [Hh.get_put] at q
    by_cases e : j = l
    · rw [if_pos e] at q
      cases q
      exact ⟨a, by rw [e]; exact hl, hc⟩
    · rw [if_neg e] at q
      obtain ⟨b, q1, q2⟩ := R.cell j c q
      have nb : b ≠ a := fun z => e (R.inj _ _ _ q1 (by rw [z]; exact hl))
      refine ⟨b, q1, q2.stay ⟨fun _ _ z => z, sqT_wr ha w, fz_wr ha w⟩ fun d u z hz => ?_⟩
      rcases hz with z1 | ⟨φ, z1⟩
      · rw [z1, upd_ne nb, ← z1]; exact z
      · rw [upd_ne (ne_of z ha (by rw [z1]; rintro rfl; exact w))]; exact z
  dom := fun j b q => by
    rw [Hh.get_put]
    by_cases e : j = l
    · rw [if_pos e]; exact ⟨_, rfl⟩
    · rw [if_neg e]; exact R.dom j b q
  inj := R.inj
  fresh := fun j c q => by
    show j.nat < h.nx.nat
    rw [Hh.get_put] at q
    by_cases e : j = l
    · obtain ⟨c0, q0⟩ := R.dom _ _ hl
      rw [e]
      exact R.fresh _ _ q0
    · rw [if_neg e] at q
      exact R.fresh j c q
  fo := S.stab _ _ _ R.fo (fun b hb => by
    rw [upd_ne fun z => R.foF _ _ hl (by rw [← z]; exact hb)]) (ext_wr ha w)
  foF := R.foF
theorem Ext.put {a : Addr} {o o' : HO} (ha : H a = some o) (w : Wr o) : Ext S ρ H ρ (upd H a o') := ⟨fun _ _ z => z, sqT_wr ha w, fz_wr ha w⟩
end

/-! ### slots -/
abbrev Sl := List (Option A)
def RelS (S : Sc) (ρ : Rho) (H : Hp) (s : Sl) (σ : L2.St) : Prop := s.length = σ.length ∧ ∀ (i : Nat) (x : A), s[i]? = some (some x) → ∃ v, σ[i]? = some (some v) ∧ Rel S ρ H x v
section
variable {S : Sc} {ρ ρ' : Rho} {H H' : Hp} {s : Sl} {σ : L2.St}
theorem RelS.mono (e : Ext S ρ H ρ' H') (r : RelS S ρ H s σ) : RelS S ρ' H' s σ := ⟨r.1, fun i x h => by
  obtain ⟨v, q1, q2⟩ := r.2 i x h
  exact ⟨v, q1, Rel.mono e q2⟩⟩
theorem RelS.set {i : Nat} {x : A} {v : V} (r : RelS S ρ H s σ) (q : Rel S ρ H x v) : RelS S ρ H (s.set i (some x)) (σ.set i (some v)) := by
  refine ⟨by rw [List.length_set, List.length_set]; exact r.1, fun j y h => ?_⟩
  by_cases e : i = j
  · subst e
    have hi : i < s.length := by
      by_cases z : i < s.length
      · exact z
      · rw [List.getElem?_eq_none (by rw [List.length_set]; omega)] at h
        cases h
    rw [List.getElem?_set_self hi] at h
    cases h
    exact ⟨v, List.getElem?_set_self (by rw [← r.1]; exact hi), q⟩
  · rw [List.getElem?_set_ne e] at h
    obtain ⟨u, q1, q2⟩ := r.2 j y h
    exact ⟨u, by rw [List.getElem?_set_ne e]; exact q1, q2⟩
end

/-! ### the readings -/
def XW (S : Sc) (ρ : Rho) (H : Hp) (E : XK) (C : Nat) (fs : List (Str × A)) (h' : Hh) : Prop :=
  ∀ ρ' H' Ca d, Ext S ρ H ρ' H' → Rep S ρ' h' H' → S.G C = some Ca → XdOk S ρ' H' fs d → E (.ref Ca) d H'
def QW (S : Sc) (ρ : Rho) (H : Hp) (Q : VK) (a : A) (h' : Hh) : Prop := ∀ ρ' H' v, Ext S ρ H ρ' H' → Rep S ρ' h' H' → Rel S ρ' H' a v → Q v H'
def tE (S : Sc) (E : XK) (ev : Sl → Hh → Out A) : TE := fun σ H Q => ∃ ρ h s, Rep S ρ h H ∧ RelS S ρ H s σ ∧ (ev s h).All (QW S ρ H Q) (XW S ρ H E)
section
variable {S : Sc} {ρ ρ' : Rho} {H H' : Hp} {E : XK}
theorem XW.mono (e : Ext S ρ H ρ' H') {C : Nat} {fs : List (Str × A)} {h' : Hh} (x : XW S ρ H E C fs h') : XW S ρ' H' E C fs h' := fun ρ2 H2 Ca d e2 => x ρ2 H2 Ca d (e.trans e2)
theorem QW.mono (e : Ext S ρ H ρ' H') {Q : VK} {a : A} {h' : Hh} (x : QW S ρ H Q a h') : QW S ρ' H' Q a h' := fun ρ2 H2 v e2 => x ρ2 H2 v (e.trans e2)
theorem tE_of {ev : Sl → Hh → Out A} {σ : L2.St} {Q : VK} {h : Hh} {s : Sl} (R : Rep S ρ h H) (r : RelS S ρ H s σ) (q : (ev s h).All (QW S ρ H Q) (XW S ρ H E)) : tE S E ev σ H Q := ⟨ρ, h, s, R, r, q⟩
/-- one expression after another -/
theorem tE_bind {ev : Sl → Hh → Out A} {f : A → Hh → Out A} {σ : L2.St} {Q Q' : VK} {h : Hh} {s : Sl} (R : Rep S ρ h H) (r : RelS S ρ H s σ) (q : ((ev s h).bind f).All (QW S ρ H Q) (XW S ρ H E))
    (k : ∀ a h1 ρ1 H1 v, Ext S ρ H ρ1 H1 → Rep S ρ1 h1 H1 → RelS S ρ1 H1 s σ → Rel S ρ1 H1 a v → (f a h1).All (QW S ρ1 H1 Q) (XW S ρ1 H1 E) → Q' v H1) : tE S E ev σ H Q' :=
  ⟨ρ, h, s, R, r, (Out.all_bind q).mono (fun a h1 z ρ1 H1 v e1 R1 rv => k a h1 ρ1 H1 v e1 R1 (r.mono e1) rv (z.mono (fun _ _ y => y.mono e1) fun _ _ _ y => y.mono e1)) fun _ _ _ y => y⟩
theorem PE.imp {X : Cx} {e : Expr} {t t' : TE} (h : PE X e t) (k : ∀ σ H Q, t' σ H Q → t σ H Q) : PE X e t' := ⟨fun pins s σ H Q I q => h.run pins s σ H Q I (k _ _ _ q)⟩
theorem PT.imp {X : Cx} {e : Expr} {t t' : TT} (h : PT X e t) (k : ∀ σ H Q, t' σ H Q → t σ H Q) : PT X e t' := ⟨fun pins s σ H Q I q => h.run pins s σ H Q I (k _ _ _ q)⟩
theorem PA.imp {X : Cx} {e : List Expr} {t t' : TA} (h : PA X e t) (k : ∀ σ H Q, t' σ H Q → t σ H Q) : PA X e t' := ⟨fun pos pins s σ H Q I q => h.run pos pins s σ H Q I (k _ _ _ q)⟩
theorem PS.imp {X : Cx} {e : Stmt} {t t' : TS} (h : PS X e t) (k : ∀ D σ H, t' D σ H → t D σ H) : PS X e t' := ⟨fun pins s σ H D I q => h.run pins s σ H D I (k _ _ _ q)⟩
theorem PSs.imp {X : Cx} {e : List Stmt} {t t' : TS} (h : PSs X e t) (k : ∀ D σ H, t' D σ H → t D σ H) : PSs X e t' := ⟨fun pins s σ H D I q => h.run pins s σ H D I (k _ _ _ q)⟩
end
end EV
set_option Elab.async false
set_option linter.all false
set_option maxRecDepth 100000
set_option maxHeartbeats 4000000
namespace EV
open PySem PySem.Spec PyProof.Rows L2 LamX
/-! ### a lambda made, kept, called -/
theorem lamO_ok {P : Program} {w : World} {H : Hp} {h : Heap} {t : LamT} {a c : Addr} {pm ctv : Value} (e : h.get? a = some (PySem.W.kla_obj "<lambda>" t.q t.params t.body t.scope [] pm c ctv)) : ObjOk P w H h a (LamO t a c) :=
  ⟨⟨pm, ctv, e⟩, ⟨_, e⟩, fun _ _ ⟨pm, ctv, e⟩ st => ⟨pm, ctv, st _ e⟩⟩
/-- what a lambda's making gives -/
def tLamMk (T : List (Addr × Str)) (t : LamT) : TE := fun _ H Q => Tabs T H ∧ ∀ (H1 : Hp) (f c : Addr), ExtN H H1 → Tabs T H1 → H f = none → H1 f = none → H1 c = some (CodeO c t.q) → Q (.ref f) (upd H1 f (LamO t f c))
section
variable {X : Cx}
theorem clo_nil {cells : List (Str × Addr)} : ∀ {ns : List (Str × NameKind)} {acc : List (Str × Addr)}, (∀ y ∈ ns, y.2 ≠ .free) → cloFrom cells ns acc = acc
  | [], acc, _ => rfl
  | (n, k) :: r, acc, h => by
    have hk : k ≠ .free := h (n, k) (List.mem_cons_self ..)
    have ih := clo_nil (cells := cells) (ns := r) (acc := acc) fun y hy => h y (List.mem_cons_of_mem _ hy)
    unfold cloFrom
    split
    · rename_i e
      exact absurd (by simpa using e) hk
    · exact ih
theorem pe_lam {T : List (Addr × Str)} {c P : Addr} {params : Arguments} {body : Expr} {scope : Scope} {pos : Pos} (TB : TabB X.base X.mg c P) (hcode : X.env.code = .ref c) (hm : (P, X.env.qual ++ "<lambda>") ∈ T) (hu : ∀ p ∈ T, p.1 = P → p.2 = X.env.qual ++ "<lambda>")
    (hdef : defaultsOf params X.env = ([], [])) (hnf : ∀ y ∈ scope.names, y.2 ≠ .free) : PE X (.Lambda params body scope pos) (tLamMk T ⟨X.env.qual ++ "<lambda>", params, body, scope⟩) := by
  refine ⟨fun pins s σ H Q I hq => ?_⟩
  obtain ⟨hT, h⟩ := hq
  obtain ⟨ps, hP, ht, ha⟩ := hT _ hm
  refine PySem.W.kla_eval hdef ?_
  have bP : s.heap.BuiltinsAt X.mg P := TB.bm.keeps I.bk
  have hP' : s.heap.get? P = some { cls := .none, data := .fields ps } := I.hok P _ hP
  have ecl : closureFor scope X.env = pure [] := by
    have z : closureFor scope X.env = pure (cloFrom X.env.cells scope.names []) := closure_ok fun y hy e => absurd e (hnf y hy)
    rw [z, clo_nil hnf]
  cases hc : codeAmong pos ps.toList with
  | none =>
    refine PySem.W.kla_makeFunction (mg := X.mg) (c := c) (P := P) (ps := ps) ecl I.ok.glob (I.mod.glob.keeps I.bk) hcode (TB.code.keeps I.bk) hP' ht hc TB.gP bP fun c' ctv h' tk hx hge hlt hrec htb => ?_
    obtain ⟨c2, oc, vs, t, e2, hoc, hd, hv⟩ := hrec
    cases e2
    have hsz : s.heap.objs.size ≤ h'.objs.size := Nat.le_trans hge (Nat.le_of_lt hlt)
    have nC : H c' = none := I.hok.fresh hge
    have I1 := inv_table (t' := tk) (more := #[rawInt pos.line, rawInt pos.col, .ref c']) (h' := h') I hP (fun b o hb e => hx b o hb e) htb hge ⟨oc, vs, t, hoc, hd, hv⟩
    have hE : ExtN H (upd (upd H P (.tbl (ps ++ #[rawInt pos.line, rawInt pos.col, .ref c']))) c' (CodeO c' (X.env.qual ++ "<lambda>"))) := fun b o e n => by
      rw [upd_ne (ne_of_none e nC), upd_ne (fun z => n ps (Option.some.inj (e.symm.trans (by rw [z]; exact hP))))]
      exact e
    have eL : (ps ++ #[rawInt pos.line, rawInt pos.col, .ref c']).toList = ps.toList ++ [rawInt pos.line, rawInt pos.col, .ref c'] := by simp
    have nf1 : upd (upd H P (.tbl (ps ++ #[rawInt pos.line, rawInt pos.col, .ref c']))) c' (CodeO c' (X.env.qual ++ "<lambda>")) h'.objs.size = none := I1.hok.fresh (Nat.le_refl _)
    have I2 := I1.laid (a := h'.objs.size) (o := LamO ⟨X.env.qual ++ "<lambda>", params, body, scope⟩ h'.objs.size c') (t' := tk) (h' := h'.push (PySem.W.kla_obj "<lambda>" (X.env.qual ++ "<lambda>") params body scope [] ((X.mg "__name__").getD .none) c' ctv)) (fun b o e => Heap.get?_push_of_some _ e) (Nat.le_refl _) (lamO_ok (Heap.get?_push_size _ rfl))
    refine ⟨.ref h'.objs.size, _, I2, rfl, h _ _ c' hE (fun p hp => ?_) (I.hok.fresh hsz) nf1 upd_same⟩
    by_cases hb : p.1 = P
    · rw [hu p hp hb, hb]
      refine ⟨_, by rw [upd_ne (ne_of_none hP nC), upd_same], by rw [eL]; exact PySem.TriplesOk_snoc _ _ _ _ ht, fun p' cv hcv => ?_⟩
      rw [eL] at hcv
      rcases among_app _ ht hcv with z | z
      · obtain ⟨c0, e1, e2⟩ := ha p' cv z
        exact ⟨c0, e1, hE _ _ e2 codeO_ne⟩
      · exact ⟨c', z, upd_same⟩
    · obtain ⟨ps', a1, a2, a3⟩ := hT p hp
      refine ⟨ps', by rw [upd_ne (ne_of_none a1 nC), upd_ne hb]; exact a1, a2, fun p' cv hcv => ?_⟩
      obtain ⟨c0, e1, e2⟩ := a3 p' cv hcv
      exact ⟨c0, e1, hE _ _ e2 codeO_ne⟩
  | some cv =>
    obtain ⟨c', e, hco⟩ := ha pos cv hc
    subst e
    refine PySem.W.kla_makeFunctionHit (mg := X.mg) (c := c) (P := P) (ps := ps) ecl I.ok.glob (I.mod.glob.keeps I.bk) hcode (TB.code.keeps I.bk) hP' ht hc bP fun ctv h' tk hx hsz => ?_
    have I2 := I.laid (a := h'.objs.size) (o := LamO ⟨X.env.qual ++ "<lambda>", params, body, scope⟩ h'.objs.size c') (t' := tk) (h' := h'.push (PySem.W.kla_obj "<lambda>" (X.env.qual ++ "<lambda>") params body scope [] ((X.mg "__name__").getD .none) c' ctv)) (fun b o e => Heap.get?_push_of_some _ (hx b o e)) hsz (lamO_ok (Heap.get?_push_size _ rfl))
    exact ⟨.ref h'.objs.size, _, I2, rfl, h H _ c' (ExtN.refl H) hT (I.hok.fresh hsz) (I.hok.fresh hsz) hco⟩
end
/-- what the call of such a lambda promises -/
def LamRun (P : Program) (w : World) (K : PySem.W.Frag) (mg : Str → Option Value) (base : Heap) (k : Nat) (t : LamT) (sp : Sp) : Prop :=
  ∀ (A : Around) (outer : List Env) (s : Shared) (H : Hp) (f c : Addr) (v : V) (u : Value) (Q : VK) (E : XK), Room k A → Env0 P w K mg base A outer s H → H f = some (LamO t f c) → H c = some (CodeO c t.q) → RelV v u → sp [v] H Q E →
    codeAny (model P w) A (.call (.ref f) ⟨[u], []⟩) (CR (L2.CX P w) outer P w H s Q E) s
theorem lam_run {P : Program} {w : World} {K : PySem.W.Frag} {mg : Str → Option Value} {base : Heap} {k : Nat} {t : LamT} {sp : Sp} {N : List Str} {x : Str} (S : FnScope N [x] t.scope)
    (hb : ∀ (pm cv ctv u : Value), bindArgs (PySem.W.kla_fn "<lambda>" t.q t.params t.body t.scope [] pm cv ctv) ⟨[u], []⟩ = pure [(x, u)])
    (hbody : ∀ (A : Around) (outer : List Env) (s : Shared) (H : Hp) (E : XK) (f c : Addr) (v : V) (Q : VK), Room k (A.deeper (envOfC t.q t.scope s.heap.objs.size f (.ref c))) → sp [v] H Q E →
      ∃ te, PE (cxOf (L2.CX P w) P w K mg base N t.q t.scope f (.ref c) A outer s H E) t.body te ∧ te (L2.start N [v]) H Q) : LamRun P w K mg base (k + 1) t sp := by
  intro A outer s H f c v u Q E hr e0 hf hc rv hq
  have lim : s.heap.NoLimit := e0.mod.nolimit.keeps fun b o e => (e0.bs b o e).1
  obtain ⟨⟨pm, ctv, of⟩, _, _⟩ := e0.hok f _ hf
  obtain ⟨⟨oc, vs, tt, hoc, hdc, hvc⟩, _, _⟩ := e0.hok c _ hc
  refine PySem.W.kla_callFunE hr.depth of rfl S.co S.gen rfl ⟨c, oc, vs, tt, rfl, hoc, hdc, hvc⟩ ?_
  rw [hb]
  refine wpAny_pure ?_
  have hkind : ∀ y ∈ [(x, u)], t.scope.names.lookup y.1 = some .local ∨ (t.scope.names.lookup y.1 = some .cell ∧ ((cellsFrom (s.heap.objs.size + 1) t.scope.names []).lookup y.1).isSome = true) := fun y hy => by
    rw [List.mem_singleton] at hy
    subst hy
    rcases S.par x (List.mem_singleton.mpr rfl) with q | q
    · exact .inl q
    · exact .inr ⟨q, PySem.W.cellsFrom_some _ _ _ (.inl q)⟩
  refine wpAny_newFunctionEnv_cells S.kind hkind fun env he s1 z => ?_
  subst he
  refine ⟨lim.keeps z.toInCall.keep, ?_⟩
  obtain ⟨te, ht, hq⟩ := hbody A outer s H E f c v Q (hr.deeper _) hq
  have I : Inv (cxOf (L2.CX P w) P w K mg base N t.q t.scope f (.ref c) A outer s H E) [] (L2.start N [v]) H s1 := inv_start (ps := [x]) (us := [u]) S hr.hd e0 rfl (.cons rv .nil) z
  refine PySem.W.kla_codeExpr (wpAny_mono (ht.run [] s1 (L2.start N [v]) H _ I hq) (fun v' s' hs => ?_) fun e s' hs => hs)
  obtain ⟨w', H', J, rv', q⟩ := hs
  exact ⟨w', H', J.os, J.bare, J.base, J.hok, rv', q⟩
/-- x(e), the slot holds a lambda -/
def tCallLam (i : Nat) (t : LamT) (sp : Sp) (E : XK) (ta : TE) : TE := fun σ H Q => ∃ f, σ[i]? = some (some (.ref f)) ∧ (∃ c, H f = some (LamO t f c)) ∧ ta σ H fun v H1 => ∃ c, H1 f = some (LamO t f c) ∧ H1 c = some (CodeO c t.q) ∧ sp [v] H1 Q E
section
variable {X : Cx}
theorem pe_callLam {k i : Nat} {t : LamT} {sp : Sp} {E : XK} {x : Str} {e : Expr} {ta : TE} {p pos : Pos} (F : LamRun X.prog X.w X.K X.mg X.base k t sp) (hr : Room k X.A) (hN : X.N[i]? = some x) (hv : Vis X.env.scope x) (hx : Passes (L2.CX X.prog X.w) X E) (ha : PE X e ta)
    (hdb : (x == ("__debug__" : Str)) = false) (hcd : (x == ("__classdict__" : Str)) = false) (he : starEach [e] X.env = (false, eval e X.env) :: starEach [] X.env) : PE X (.Call (.Name x p) [e] [] pos) (tCallLam i t sp E ta) := by
  refine ⟨fun pins s σ H Q I h => ?_⟩
  obtain ⟨f, hs, ⟨c0, hf0⟩, ht⟩ := h
  refine wpAny_Call_Name_kw (thn ((pe_var (pos := p) hN hv hdb hcd).run pins s σ H (fun v H1 => v = .ref f ∧ H1 = H) I ⟨.ref f, hs, rfl, rfl⟩) fun u s1 ⟨v, H1, I1, r1, q1⟩ => ?_)
  obtain ⟨rfl, rfl⟩ := q1
  cases r1
  obtain ⟨⟨pm0, ctv0, of0⟩, _, _⟩ := I1.hok f _ hf0
  refine PySem.W.callWith_F (first := []) ⟨_, _, _, _, of0⟩ ?_ he rfl
  rw [he]
  show wpAny _ _ (spliced ((false, eval e X.env) :: backTo pos (starEach [] X.env))) _ _ s1
  refine Calls.spliced_cons (thn (ha.run pins s1 σ _ _ I1 ht) fun u2 s2 ⟨v2, H2, I2, r2, q2⟩ => ?_)
  obtain ⟨c, hf, hc, q⟩ := q2
  obtain ⟨⟨pm, ctv, of⟩, _, _⟩ := I2.hok f _ hf
  refine Calls.spliced_nil ⟨⟨_, _, _, _, of⟩, ?_⟩
  have rc := F X.A X.stack s2 H2 f c v2 u2 Q E hr I2.env0 hf hc r2 q
  refine wpAny_call (codeAny_mono rc fun r s' hq => ?_)
  cases r with
  | error e => exact hx pins σ H2 s2 e s' I2 hq
  | ok fl =>
    cases fl with
    | ret u => exact I2.after hq
    | next => exact False.elim hq
    | brk => exact False.elim hq
    | cont => exact False.elim hq
end
end EV
set_option Elab.async false
set_option linter.all false
set_option maxRecDepth 100000
set_option maxHeartbeats 4000000
namespace EV
open PySem PySem.Spec PyProof.Rows L2

/-! ### the little language -/
inductive Bop where
  | add | sub | mul | fdiv | mod | pow
  deriving DecidableEq
inductive Cop where
  | eq | ne | lt | le | gt | ge | isN | notN | inn | nin
  deriving DecidableEq
inductive Bi where
  | len | isi | all | any
  deriving DecidableEq
inductive Mt where
  | app | ext
  deriving DecidableEq
inductive Tg where
  | nm (i : Nat) | tp (ts : List Tg)
mutual
inductive E where
  | var (i : Nat) | cst (a : A)
  | bin (op : Bop) (x y : E) | cmp (op : Cop) (x y : E)
  | and (x y : E) | or (x y : E) | not (x : E) | ife (t x y : E)
  | tup (xs : List E) | lst (xs : List E) | dct (k v : A)
  | idx (x y : E)
  | bi (b : Bi) (xs : List E)
  | call (f n : Nat) (xs : List E)
  | err (kw : Bool) (C : Nat) (f : Str) (x : E) | err0 (C : Nat)
  | mt (m : Mt) (o : E) (xs : List E)
  | fld (o : E) (f : Str)
  | lam (n : Nat) | callL (i : Nat) (x : E)
  | comp (elt : E) (tg : Tg) (it : It) (cond : List E) (own : List Nat)
inductive It where
  | seq (e : E) | rng (e : E) | enm (e : E) | zp (a b : E)
end
inductive Sm where
  | asg (t : Tg) (e : E) | asgC (i : Nat) (elt : E) (tg : Tg) (it : It) (cond : List E) (own : List Nat) | ex (e : E) | ret (e : E) | ife (t : E) (a b : List Sm) | for (t : Tg) (it : It) (b : List Sm) | pass
inductive Fl where
  | nx (s : Sl) | rt (a : A) | bk (s : Sl) | ct (s : Sl)

/-! ### values read deep -/
def lim : Nat := 100000
mutual
def toD (h : Hh) : Nat → A → Option PyData
  | 0, _ => none
  | n + 1, a => match a with
    | .non => some .none
    | .bl b => some (.bool b)
    | .int i => some (.int i)
    | .str x => some (.str x)
    | .tup xs => (toDs h n xs).map .tuple
    | .loc l => match h.get l with
      | some (.lst xs) => (toDs h n xs).map .list
      | _ => none
    | _ => none
def toDs (h : Hh) : Nat → List A → Option (List PyData)
  | 0, _ => none
  | n + 1, xs => match xs with
    | [] => some []
    | x :: r => (toD h n x).bind fun d => (toDs h n r).map (d :: ·)
end
def deep : Nat := 200
def evEq (x y : A) (h : Hh) : Option Bool := (toD h deep x).bind fun d => (toD h deep y).bind fun e => if SeqAt.shaped d && SeqAt.shaped e then some (PyData.eqv d e) else none
def lstOf (x : A) (h : Hh) : Option (List A) := match x with
  | .loc l => match h.get l with
    | some (.lst xs) => some xs
    | _ => none
  | _ => none
def newL (xs : List A) (h : Hh) : Out A := if xs.length ≤ lim then .ok (.loc h.nx) (h.new (.lst xs)) else .bad

def evBin (op : Bop) (x y : A) (h : Hh) : Out A := match op, x, y with
  | .add, .int i, .int j => .ok (.int (i + j)) h
  | .add, .loc a, .loc b => match h.get a, h.get b with
    | some (.lst xs), some (.lst ys) => newL (xs ++ ys) h
    | _, _ => .bad
  | .sub, .int i, .int j => .ok (.int (i - j)) h
  | .mul, .int i, .int j => if (-(2 ^ 64) < i ∧ i < 2 ^ 64) ∨ (-(2 ^ 64) < j ∧ j < 2 ^ 64) then .ok (.int (i * j)) h else .bad
  | .fdiv, .int i, .int j => if j ≠ 0 ∧ j.natAbs < 1073741824 then .ok (.int (i.fdiv j)) h else .bad
  | .mod, .int i, .int j => if j ≠ 0 then .ok (.int (i.fmod j)) h else .bad
  | .pow, .int i, .int j => if 0 ≤ j ∧ j ≤ 1000000 ∧ i.natAbs < 2 ^ 64 then .ok (.int (i ^ j.toNat)) h else .bad
  | _, _, _ => .bad
def dGet (c : Key) : List (A × A) → Option A
  | [] => none
  | (k, x) :: r => if keyOf k = some c then some x else dGet c r
def evIn (x y : A) (h : Hh) : Option Bool := match y with
  | .loc l => match h.get l with
    | some (.dct kvs) => (keyOf x).map fun c => (dGet c kvs).isSome
    | _ => none
  | _ => none
def evCmp (op : Cop) (x y : A) (h : Hh) : Out A := match op with
  | .eq => match evEq x y h with
    | some b => .ok (.bl b) h
    | none => .bad
  | .ne => match evEq x y h with
    | some b => .ok (.bl (!b)) h
    | none => .bad
  | .lt => match x, y with
    | .int i, .int j => .ok (.bl (decide (i < j))) h
    | _, _ => .bad
  | .le => match x, y with
    | .int i, .int j => .ok (.bl (decide (i ≤ j))) h
    | _, _ => .bad
  | .gt => match x, y with
    | .int i, .int j => .ok (.bl (decide (j < i))) h
    | _, _ => .bad
  | .ge => match x, y with
    | .int i, .int j => .ok (.bl (decide (j ≤ i))) h
    | _, _ => .bad
  | .inn => match evIn x y h with
    | some b => .ok (.bl b) h
    | none => .bad
  | .nin => match evIn x y h with
    | some b => .ok (.bl (!b)) h
    | none => .bad
  | _ => .bad
/-- what isinstance tells: types by numbers, own classes behind -/
structure Kit where
  /-- of an own class: the own classes, the built-in types that it is under -/
  anc : List (List Nat × List Nat)
  /-- the field of an own error class -/
  fld : List (Option Str)
def tyA (x : A) (h : Hh) : Option A := match x with
  | .non => some (.ty 6)
  | .bl _ => some (.ty 1)
  | .int _ => some (.ty 0)
  | .str _ => some (.ty 2)
  | .tup _ => some (.ty 4)
  | .loc l => match h.get l with
    | some (.lst _) => some (.ty 3)
    | some (.dct _) => some (.ty 5)
    | some (.exc C _) => some (.glo C)
    | _ => none
  | _ => none
def isi1 (k : Kit) (t c : A) : Option Bool := match t, c with
  | .ty a, .ty b => if a ≤ 6 ∧ b ≤ 6 then some (a == b || (a == 1 && b == 0)) else none
  | .ty a, .glo g => if a ≤ 6 then (k.anc[g]?).map fun _ => false else none
  | .glo g, .ty b => if b ≤ 10 then (k.anc[g]?).map fun p => p.2.contains b else none
  | .glo g, .glo g' => (k.anc[g]?).bind fun p => (k.anc[g']?).map fun _ => p.1.contains g'
  | _, _ => none
def isiAny (k : Kit) (t : A) : List A → Option Bool
  | [] => some false
  | c :: r => match isi1 k t c with
    | some true => some true
    | some false => isiAny k t r
    | none => none
def boolsOf : List A → Option (List Bool)
  | [] => some []
  | .bl b :: r => (boolsOf r).map (b :: ·)
  | _ => none
def evBi (k : Kit) (b : Bi) (xs : List A) (h : Hh) : Out A := match b, xs with
  | .len, [x] => match x with
    | .tup ys => .ok (.int ys.length) h
    | .loc l => match h.get l with
      | some (.lst ys) => .ok (.int ys.length) h
      | some (.dct kvs) => .ok (.int kvs.length) h
      | _ => .bad
    | _ => .bad
  | .isi, [x, c] => match tyA x h with
    | some t => match c with
      | .tup cs => if !cs.isEmpty && cs.all (fun c => (isi1 k t c).isSome) then match isiAny k t cs with
          | some b => .ok (.bl b) h
          | none => .bad
        else .bad
      | c => match isi1 k t c with
        | some b => .ok (.bl b) h
        | none => .bad
    | none => .bad
  | .all, [x] => match (lstOf x h).bind boolsOf with
    | some bs => .ok (.bl (bs.all id)) h
    | none => .bad
  | .any, [x] => match (lstOf x h).bind boolsOf with
    | some bs => .ok (.bl (bs.any id)) h
    | none => .bad
  | _, _ => .bad
def evApp (o x : A) (h : Hh) : Out A := match o with
  | .loc l => match h.get l with
    | some (.lst ys) => if ys.length < lim then .ok .non (h.put l (.lst (ys ++ [x]))) else .bad
    | _ => .bad
  | _ => .bad
def evExt (o x : A) (h : Hh) : Out A := match o with
  | .loc l => match h.get l with
    | some (.lst ys) => match lstOf x h with
      | some zs => if ys.length + zs.length ≤ lim then .ok .non (h.put l (.lst (ys ++ zs))) else .bad
      | none => .bad
    | _ => .bad
  | _ => .bad
def evMt (m : Mt) (o : A) (xs : List A) (h : Hh) : Out A := match xs with
  | [x] => match m with
    | .app => evApp o x h
    | .ext => evExt o x h
  | _ => .bad
def evIdxD (kvs : List (A × A)) (y : A) (h : Hh) : Out A := match keyOf y with
  | some c => match dGet c kvs with
    | some a => .ok a h
    | none => .bad
  | none => .bad
def evIdx (x y : A) (h : Hh) : Out A := match x, y with
  | .loc l, y => match h.get l with
    | some (.lst xs) => match y with
      | .int i => match atI xs i with
        | some a => .ok a h
        | none => .bad
      | _ => .bad
    | some (.dct kvs) => evIdxD kvs y h
    | _ => .bad
  | .tup xs, .int i => match atI xs i with
    | some a => .ok a h
    | none => .bad
  | _, _ => .bad
def evFld (k : Kit) (o : A) (f : Str) (h : Hh) : Out A := match o with
  | .loc l => match h.get l with
    | some (.exc C fs) => match k.fld[C]? with
      | some (some g) => if g = f then match fs.lookup f with
          | some a => .ok a h
          | none => .bad
        else .bad
      | _ => .bad
    | _ => .bad
  | _ => .bad
mutual
def slotsT : Tg → List Nat
  | .nm i => [i]
  | .tp ts => slotsTs ts
def slotsTs : List Tg → List Nat
  | [] => []
  | t :: ts => slotsT t ++ slotsTs ts
end
mutual
def evTg : Tg → A → Sl → Option Sl
  | .nm i, a, s => some (s.set i (some a))
  | .tp ts, .tup xs, s => evTgs ts xs s
  | .tp _, _, _ => none
def evTgs : List Tg → List A → Sl → Option Sl
  | [], [], s => some s
  | t :: ts, x :: xs, s => (evTg t x s).bind fun s' => evTgs ts xs s'
  | _, _, _ => none
end
/-! ### evaluation -/
structure Rec where
  e : E → Sl → Hh → Out A
  ss : List Sm → Sl → Hh → Out Fl
def evEs (r : Rec) : List E → Sl → Hh → Out (List A)
  | [], _, h => .ok [] h
  | e :: es, s, h => (r.e e s h).bind fun x h1 => (evEs r es s h1).bind fun xs h2 => .ok (x :: xs) h2
/-- what an iterator is: a list by place, a tuple, a range, pairs -/
inductive Jt where
  | lst (l : Bn) | tup (xs : List A) | rng (n : Nat) | enm (l : Bn) | zp (a b : Bn) | zpT (xs ys : List A) | keys (l : Bn)
/-- at turn i: bad, the end, an item -/
def pairAt (x y : Option A) : Option A := match x, y with
  | some a, some b => some (.tup [a, b])
  | _, _ => none
def Jt.at (j : Jt) (i : Nat) (h : Hh) : Option (Option A) := match j with
  | .lst l => match h.get l with
    | some (.lst xs) => some xs[i]?
    | _ => none
  | .tup xs => some xs[i]?
  | .rng n => some (if i < n then some (.int (i : Int)) else none)
  | .enm l => match h.get l with
    | some (.lst xs) => some (xs[i]?.map fun x => .tup [.int (i : Int), x])
    | _ => none
  | .zp a b => match h.get a, h.get b with
    | some (.lst xs), some (.lst ys) => some (pairAt xs[i]? ys[i]?)
    | _, _ => none
  | .zpT xs ys => some (pairAt xs[i]? ys[i]?)
  | .keys l => match h.get l with
    | some (.dct kvs) => some (kvs[i]?.map (·.1))
    | _ => none
def evIt (r : Rec) (it : It) (s : Sl) (h : Hh) : Out (Option Jt) := match it with
  | .seq e => (r.e e s h).bind fun x h1 => match x with
    | .loc l => match h1.get l with
      | some (.lst _) => .ok (some (.lst l)) h1
      | some (.dct _) => .ok (some (.keys l)) h1
      | _ => .bad
    | .tup xs => .ok (some (.tup xs)) h1
    | _ => .bad
  | .rng e => (r.e e s h).bind fun x h1 => match x with
    | .int i => if 0 ≤ i ∧ i ≤ 100000 then .ok (some (.rng i.toNat)) h1 else .bad
    | _ => .bad
  | .enm e => (r.e e s h).bind fun x h1 => match x with
    | .loc l => match h1.get l with
      | some (.lst _) => .ok (some (.enm l)) h1
      | _ => .bad
    | _ => .bad
  | .zp a b => (r.e a s h).bind fun x h1 => (r.e b s h1).bind fun y h2 => match x, y with
    | .loc l, .loc j => match h2.get l, h2.get j with
      | some (.lst _), some (.lst _) => .ok (some (.zp l j)) h2
      | _, _ => .bad
    | .tup xs, .tup ys => .ok (some (.zpT xs ys)) h2
    | _, _ => .bad
/-- a for's turns -/
def evFor (r : Rec) (j : Jt) (t : Tg) (b : List Sm) : Nat → Nat → Sl → Hh → Out Fl
  | 0, _, _, _ => .bad
  | m + 1, i, s, h => match j.at i h with
    | none => .bad
    | some none => .ok (.nx s) h
    | some (some x) => match evTg t x s with
      | none => .bad
      | some s1 => (r.ss b s1 h).bind fun f h1 => match f with
        | .nx s2 => evFor r j t b m (i + 1) s2 h1
        | .ct s2 => evFor r j t b m (i + 1) s2 h1
        | .bk s2 => .ok (.nx s2) h1
        | .rt a => .ok (.rt a) h1
def wipeA (s : Sl) : List Nat → Sl
  | [] => s
  | v :: vs => (wipeA s vs).set v none
def evConds (r : Rec) (cs : List E) (s : Sl) (h : Hh) : Out A := match cs with
  | [] => .ok (.bl true) h
  | [c] => (r.e c s h).nox
  | _ => .bad
/-- a comprehension's turns: the new list at d -/
def evComp (r : Rec) (j : Jt) (t : Tg) (cs : List E) (elt : E) (s : Sl) (d : Bn) : Nat → Nat → Hh → Out A
  | 0, _, _ => .bad
  | m + 1, i, h => match j.at i h with
    | none => .bad
    | some none => .ok (.loc d) h
    | some (some x) => match evTg t x s with
      | none => .bad
      | some s1 => (evConds r cs s1 h).bind fun b h1 => match b with
        | .bl true => (r.e elt s1 h1).nox.bind fun y h2 => match h2.get d with
          | some (.lst acc) => if acc.length < lim then evComp r j t cs elt s d m (i + 1) (h2.put d (.lst (acc ++ [y]))) else .bad
          | _ => .bad
        | .bl false => evComp r j t cs elt s d m (i + 1) h1
        | _ => .bad
def isNonA : A → Bool
  | .non => true
  | _ => false
def turns : Nat := 1000000
def evLc (r : Rec) (elt : E) (tg : Tg) (it : It) (cond : List E) (own : List Nat) (s : Sl) (h : Hh) : Out A := (evIt r it s h).bind fun j h1 => match j with
  | none => .bad
  | some j => evComp r j tg cond elt (wipeA s own) h1.nx turns 0 (h1.new (.lst []))
def stepE (k : Kit) (call : Nat → List A → Hh → Out A) (r : Rec) (e : E) (s : Sl) (h : Hh) : Out A := match e with
  | .var i => match s[i]? with
    | some (some a) => .ok a h
    | _ => .bad
  | .cst a => .ok a h
  | .bin op x y => (r.e x s h).bind fun a h1 => (r.e y s h1).bind fun b h2 => evBin op a b h2
  | .cmp .isN x _ => (r.e x s h).bind fun a h1 => .ok (.bl (isNonA a)) h1
  | .cmp .notN x _ => (r.e x s h).bind fun a h1 => .ok (.bl (!isNonA a)) h1
  | .cmp op x y => (r.e x s h).bind fun a h1 => (r.e y s h1).bind fun b h2 => evCmp op a b h2
  | .and x y => (r.e x s h).bind fun a h1 => match a with
    | .bl true => r.e y s h1
    | .bl false => .ok (.bl false) h1
    | _ => .bad
  | .or x y => (r.e x s h).bind fun a h1 => match a with
    | .bl false => r.e y s h1
    | .bl true => .ok (.bl true) h1
    | _ => .bad
  | .not x => (r.e x s h).bind fun a h1 => match a with
    | .bl b => .ok (.bl (!b)) h1
    | _ => .bad
  | .ife t x y => (r.e t s h).bind fun a h1 => match a with
    | .bl true => r.e x s h1
    | .bl false => r.e y s h1
    | _ => .bad
  | .tup xs => (evEs r xs s h).bind fun as h1 => if as.length ≤ lim then .ok (.tup as) h1 else .bad
  | .lst xs => (evEs r xs s h).bind fun as h1 => newL as h1
  | .idx x y => (r.e x s h).bind fun a h1 => (r.e y s h1).bind fun b h2 => evIdx a b h2
  | .bi b xs => (evEs r xs s h).bind fun as h1 => evBi k b as h1
  | .call f n xs => (evEs r xs s h).bind fun as h1 => if as.length = n then call f as h1 else .bad
  | .err _ C f x => (r.e x s h).bind fun a h1 => .ok (.loc h1.nx) (h1.new (.exc C [(f, a)]))
  | .err0 C => .ok (.loc h.nx) (h.new (.exc C []))
  | .mt m o xs => (r.e o s h).bind fun a h1 => match lstOf a h1 with
    | some _ => (evEs r xs s h1).bind fun as h2 => evMt m a as h2
    | none => .bad
  | .fld o f => (r.e o s h).bind fun a h1 => evFld k a f h1
  | .comp elt tg it cond own => evLc r elt tg it cond own s h
  | .dct k v => match keyOf k with
    | some _ => .ok (.loc h.nx) (h.new (.dct [(k, v)]))
    | none => .bad
  | .lam n => .ok (.loc h.nx) (h.new (.lam n))
  | .callL i x => match s[i]? with
    | some (some (.loc l)) => match h.get l with
      | some (.lam n) => (r.e x s h).bind fun a h1 => match h1.get l with
        | some (.lam m) => if m = n then call n [a] h1 else .bad
        | _ => .bad
      | _ => .bad
    | _ => .bad
def stepS (r : Rec) (st : Sm) (s : Sl) (h : Hh) : Out Fl := match st with
  | .asg t e => (r.e e s h).bind fun a h1 => match evTg t a s with
    | some s1 => .ok (.nx s1) h1
    | none => .bad
  | .asgC i elt tg it cond own => (evLc r elt tg it cond own s h).bind fun a h1 => .ok (.nx (s.set i (some a))) h1
  | .ex e => (r.e e s h).bind fun _ h1 => .ok (.nx s) h1
  | .ret e => (r.e e s h).bind fun a h1 => .ok (.rt a) h1
  | .ife t a b => (r.e t s h).bind fun x h1 => match x with
    | .bl true => r.ss a s h1
    | .bl false => r.ss b s h1
    | _ => .bad
  | .for t it b => (evIt r it s h).bind fun j h1 => match j with
    | none => .bad
    | some j => evFor r j t b turns 0 s h1
  | .pass => .ok (.nx s) h
def stepSs (r : Rec) (l : List Sm) (s : Sl) (h : Hh) : Out Fl := match l with
  | [] => .ok (.nx s) h
  | st :: rest => (stepS r st s h).bind fun f h1 => match f with
    | .nx s1 => r.ss rest s1 h1
    | f => .ok f h1
def evR (k : Kit) (call : Nat → List A → Hh → Out A) : Nat → Rec
  | 0 => ⟨fun _ _ _ => .bad, fun _ _ _ => .bad⟩
  | n + 1 => ⟨stepE k call (evR k call n), stepSs (evR k call n)⟩
/-- a def: how many names, its body -/
structure Fn where
  names : Nat
  body : List Sm
  lam : Option E := none
def evC (F : Nat) (k : Kit) (fns : List Fn) (pick : Nat → Option (List A → Hh → Out A)) : Nat → Nat → List A → Hh → Out A
  | 0, _, _, _ => .bad
  | d + 1, f, as, h => match pick f with
    | some g => g as h
    | none => match fns[f]? with
      | none => .bad
      | some fn => match fn.lam with
        | some e => (evR k (evC F k fns pick d) F).e e (as.map some ++ List.replicate (fn.names - as.length) none) h
        | none => ((evR k (evC F k fns pick d) F).ss fn.body (as.map some ++ List.replicate (fn.names - as.length) none) h).bind fun f h1 => match f with
          | .rt a => .ok a h1
          | .nx _ => .ok .non h1
          | _ => .bad
end EV
set_option Elab.async false
set_option linter.all false
set_option maxRecDepth 100000
set_option maxHeartbeats 4000000
namespace EV
open PySem PySem.Spec PyProof.Rows L2 ER

/-! ### what the text's names are -/
inductive GV where
  | fn (f ar : Nat) | err (C : Nat) (f : Str) | err0 (C : Nat) | bare (C : Nat) | cls (C : Nat)
structure Tb where
  gl : List (Str × GV)
  free : List Str
  kit : Kit
  lam : Nat → Option LamT
structure Cc where
  N : List Str
  sc : Scope
  q : Option Str := none
def GV.val : GV → Option A
  | .fn _ _ => none
  | .err C _ => some (.glo C)
  | .err0 C => some (.glo C)
  | .bare C => some (.glo C)
  | .cls C => some (.glo C)
def okName (x : Str) : Bool := !(x == ("__debug__" : Str)) && !(x == ("__classdict__" : Str))
def kindIs (sc : Scope) (x : Str) (k : NameKind) : Bool := match sc.names.lookup x with
  | some j => j == k
  | none => false
def visB (sc : Scope) (x : Str) : Bool := kindIs sc x .local || kindIs sc x .cell || kindIs sc x .free
def notStar : Expr → Bool
  | .Starred _ _ => false
  | _ => true
def noSup : Expr → Bool
  | .Call (.Name _ _) [] [] _ => false
  | _ => true
/-- an expression whose truth is asked of its value -/
def plainT : Expr → Bool
  | .UnaryOp .Not _ _ => false
  | .BoolOp _ _ _ => false
  | .IfExp _ _ _ _ => false
  | .Compare _ _ _ _ => false
  | _ => true
def notComp : Expr → Bool
  | .ListComp _ _ _ _ => false
  | .SetComp _ _ _ _ => false
  | .DictComp _ _ _ _ _ => false
  | _ => true
def tyOf? (x : Str) : Option Nat := if x == "int" then some 0 else if x == "bool" then some 1 else if x == "str" then some 2 else if x == "list" then some 3 else if x == "tuple" then some 4 else if x == "dict" then some 5
  else if x == "ValueError" then some 7 else if x == "LookupError" then some 8 else if x == "TypeError" then some 9 else if x == "ArithmeticError" then some 10 else none
def opOf : Operator → Option Bop
  | .Add => some .add | .Sub => some .sub | .Mult => some .mul | .FloorDiv => some .fdiv | .Mod => some .mod | .Pow => some .pow
  | _ => none
def cmpOf : CmpOp → Option Cop
  | .Eq => some .eq | .NotEq => some .ne | .Lt => some .lt | .LtE => some .le | .Gt => some .gt | .GtE => some .ge | .In => some .inn | .NotIn => some .nin
  | _ => none
def biOf (x : Str) : Option Bi := if x == "len" then some .len else if x == "isinstance" then some .isi else if x == "all" then some .all else if x == "any" then some .any else none
def mtOf (x : Str) : Option Mt := if x == "append" then some .app else if x == "extend" then some .ext else none

/-! ### the text and the little language -/
mutual
inductive Ct (c : Cc) : Expr → Tg → Prop where
  | nm {x : Str} {pos : Pos} {i : Nat} : c.N[i]? = some x → (kindIs c.sc x .local || kindIs c.sc x .cell) = true → Ct c (.Name x pos) (.nm i)
  | tp {es : List Expr} {k : Nat} {pos : Pos} {ts : List Tg} : Cts c es ts → Ct c (.Tuple es k pos) (.tp ts)
inductive Cts (c : Cc) : List Expr → List Tg → Prop where
  | nil : Cts c [] []
  | cons {e : Expr} {es : List Expr} {t : Tg} {ts : List Tg} : Ct c e t → Cts c es ts → Cts c (e :: es) (t :: ts)
end
mutual
inductive Cp (T : Tb) : Cc → Expr → E → Prop where
  | var {c : Cc} {x : Str} {pos : Pos} {i : Nat} : c.N[i]? = some x → visB c.sc x = true → okName x = true → Cp T c (.Name x pos) (.var i)
  | glob {c : Cc} {x : Str} {pos : Pos} {g : GV} {a : A} : kindIs c.sc x .globalImplicit = true → T.gl.lookup x = some g → g.val = some a → okName x = true → Cp T c (.Name x pos) (.cst a)
  | tyn {c : Cc} {x : Str} {pos : Pos} {n : Nat} : kindIs c.sc x .globalImplicit = true → T.free.contains x = true → tyOf? x = some n → Cp T c (.Name x pos) (.cst (.ty n))
  | int {c : Cc} {i : Int} {j : Nat} {pos : Pos} : Cp T c (.Constant (.int i) j pos) (.cst (.int i))
  | str {c : Cc} {x : Str} {j : Nat} {pos : Pos} : Cp T c (.Constant (.str x) j pos) (.cst (.str x))
  | bl {c : Cc} {b : Bool} {j : Nat} {pos : Pos} : Cp T c (.Constant (.bool b) j pos) (.cst (.bl b))
  | non {c : Cc} {j : Nat} {pos : Pos} : Cp T c (.Constant .none j pos) (.cst .non)
  | bin {c : Cc} {a b : Expr} {op : Operator} {o : Bop} {x y : E} {pos : Pos} : opOf op = some o → Cp T c a x → Cp T c b y → Cp T c (.BinOp a op b pos) (.bin o x y)
  | cmp {c : Cc} {a b : Expr} {op : CmpOp} {o : Cop} {x y : E} {pos : Pos} : cmpOf op = some o → behindInMarks op b = false → Cp T c a x → Cp T c b y → Cp T c (.Compare a [op] [b] pos) (.cmp o x y)
  | isN {c : Cc} {a : Expr} {x y : E} {j : Nat} {pos p2 : Pos} : Cp T c a x → Cp T c (.Compare a [.Is] [.Constant .none j p2] pos) (.cmp .isN x y)
  | notN {c : Cc} {a : Expr} {x y : E} {j : Nat} {pos p2 : Pos} : Cp T c a x → Cp T c (.Compare a [.IsNot] [.Constant .none j p2] pos) (.cmp .notN x y)
  | and2 {c : Cc} {a b : Expr} {x y : E} {pos : Pos} : Cp T c a x → Cp T c b y → Cp T c (.BoolOp .And [a, b] pos) (.and x y)
  | andN {c : Cc} {a b d : Expr} {r : List Expr} {x y : E} {pos : Pos} : Cp T c a x → Cp T c (.BoolOp .And (b :: d :: r) pos) y → Cp T c (.BoolOp .And (a :: b :: d :: r) pos) (.and x y)
  | or2 {c : Cc} {a b : Expr} {x y : E} {pos : Pos} : Cp T c a x → Cp T c b y → Cp T c (.BoolOp .Or [a, b] pos) (.or x y)
  | orN {c : Cc} {a b d : Expr} {r : List Expr} {x y : E} {pos : Pos} : Cp T c a x → Cp T c (.BoolOp .Or (b :: d :: r) pos) y → Cp T c (.BoolOp .Or (a :: b :: d :: r) pos) (.or x y)
  | not {c : Cc} {a : Expr} {x : E} {pos : Pos} : Cp T c a x → Cp T c (.UnaryOp .Not a pos) (.not x)
  | neg {c : Cc} {i : Int} {j : Nat} {p pos : Pos} : Cp T c (.UnaryOp .USub (.Constant (.int i) j p) pos) (.cst (.int (-i)))
  | ife {c : Cc} {t a b : Expr} {u x y : E} {pos : Pos} : Cp T c t u → Cp T c a x → Cp T c b y → Cp T c (.IfExp t a b pos) (.ife u x y)
  | tup {c : Cc} {es : List Expr} {k : Nat} {pos : Pos} {xs : List E} : Cps T c es xs → Cp T c (.Tuple es k pos) (.tup xs)
  | lst {c : Cc} {es : List Expr} {pos : Pos} {xs : List E} : Cps T c es xs → Cp T c (.List es pos) (.lst xs)
  | idx {c : Cc} {a b : Expr} {x y : E} {pos : Pos} : (match b with | .Slice _ _ _ _ => false | .Tuple _ _ _ => false | _ => true) = true → Cp T c a x → Cp T c b y → Cp T c (.Subscript a b pos) (.idx x y)
  | bi {c : Cc} {f : Str} {e : Expr} {es : List Expr} {b : Bi} {xs : List E} {p pos : Pos} : kindIs c.sc f .globalImplicit = true → T.free.contains f = true → biOf f = some b → Cps T c (e :: es) xs → Cp T c (.Call (.Name f p) (e :: es) [] pos) (.bi b xs)
  | call {c : Cc} {f : Str} {es : List Expr} {n ar : Nat} {xs : List E} {p pos : Pos} : kindIs c.sc f .globalImplicit = true → T.gl.lookup f = some (.fn n ar) → okName f = true → Cps T c es xs → Cp T c (.Call (.Name f p) es [] pos) (.call n ar xs)
  | err {c : Cc} {f : Str} {e : Expr} {x : E} {n : Nat} {fl : Str} {p pos : Pos} : kindIs c.sc f .globalImplicit = true → T.gl.lookup f = some (.err n fl) → okName f = true → notStar e = true → Cp T c e x → Cp T c (.Call (.Name f p) [e] [] pos) (.err false n fl x)
  | errK {c : Cc} {f : Str} {e : Expr} {x : E} {n : Nat} {fl : Str} {p pos kp : Pos} : kindIs c.sc f .globalImplicit = true → T.gl.lookup f = some (.err n fl) → okName f = true → Cp T c e x → Cp T c (.Call (.Name f p) [] [⟨some fl, e, kp⟩] pos) (.err true n fl x)
  | err0 {c : Cc} {f : Str} {n : Nat} {p pos : Pos} : kindIs c.sc f .globalImplicit = true → T.gl.lookup f = some (.err0 n) → okName f = true → Cp T c (.Call (.Name f p) [] [] pos) (.err0 n)
  | bare {c : Cc} {f : Str} {n : Nat} {p pos : Pos} : kindIs c.sc f .globalImplicit = true → T.gl.lookup f = some (.bare n) → okName f = true → Cp T c (.Call (.Name f p) [] [] pos) (.err0 n)
  | dct {c : Cc} {x : Str} {j j' : Nat} {p p' pos : Pos} : Cp T c (.Dict [some (.Constant (.str x) j p)] [.Constant .none j' p'] pos) (.dct (.str x) .non)
  | lam {c : Cc} {q : Str} {n : Nat} {params : Arguments} {body : Expr} {scope : Scope} {pos : Pos} : c.q = some q → T.lam n = some ⟨q ++ "<lambda>", params, body, scope⟩ → (∀ env, defaultsOf params env = ([], [])) → (scope.names.all fun y => !(y.2 == NameKind.free)) = true → Cp T c (.Lambda params body scope pos) (.lam n)
  | callL {c : Cc} {x : Str} {i : Nat} {e : Expr} {y : E} {p pos : Pos} : c.N[i]? = some x → visB c.sc x = true → okName x = true → notStar e = true → Cp T c e y → Cp T c (.Call (.Name x p) [e] [] pos) (.callL i y)
  | mt {c : Cc} {o e : Expr} {m : Str} {k : Mt} {x y : E} {ap pos : Pos} : mtOf m = some k → noSup o = true → (ap.endLine == pos.line) = true → notStar e = true → Cp T c o x → Cp T c e y → Cp T c (.Call (.Attribute o m ap) [e] [] pos) (.mt k x [y])
  | fld {c : Cc} {o : Expr} {f : Str} {x : E} {pos : Pos} : noSup o = true → Cp T c o x → Cp T c (.Attribute o f pos) (.fld x f)
  | comp {c : Cc} {elt tg iter : Expr} {ifs : List Expr} {scope : Scope} {pos : Pos} {x : E} {t : Tg} {it : It} {cs : List E} {own : List (Str × Nat)} : blkC c.N c.sc scope own = true → (match iter with | .Set _ _ _ => false | _ => true) = true → Ci T c tg iter it → Ct ⟨c.N, scope, none⟩ tg t → ((slotsT t).all fun i => (own.map (·.2)).contains i) = true → Cps T ⟨c.N, scope, none⟩ ifs cs → cs.length ≤ 1 → Cp T ⟨c.N, scope, none⟩ elt x →
      Cp T c (.ListComp elt [⟨tg, iter, ifs, 0⟩] scope pos) (.comp x t it cs (own.map (·.2)))
inductive Cps (T : Tb) : Cc → List Expr → List E → Prop where
  | nil {c : Cc} : Cps T c [] []
  | cons {c : Cc} {e : Expr} {es : List Expr} {x : E} {xs : List E} : notStar e = true → Cp T c e x → Cps T c es xs → Cps T c (e :: es) (x :: xs)
/-- what is walked -/
inductive Ci (T : Tb) : Cc → Expr → Expr → It → Prop where
  | seq {c : Cc} {tg e : Expr} {x : E} : Cp T c e x → Ci T c tg e (.seq x)
  | rng {c : Cc} {tg e : Expr} {x : E} {p pos : Pos} : kindIs c.sc "range" .globalImplicit = true → T.free.contains "range" = true → notStar e = true → Cp T c e x → Ci T c tg (.Call (.Name "range" p) [e] [] pos) (.rng x)
  | enm {c : Cc} {ts : List Expr} {k : Nat} {tp : Pos} {e : Expr} {x : E} {p pos : Pos} : kindIs c.sc "enumerate" .globalImplicit = true → T.free.contains "enumerate" = true → notStar e = true → Cp T c e x → Ci T c (.Tuple ts k tp) (.Call (.Name "enumerate" p) [e] [] pos) (.enm x)
  | zp {c : Cc} {ts : List Expr} {k : Nat} {tp : Pos} {a b : Expr} {x y : E} {p pos : Pos} : kindIs c.sc "zip" .globalImplicit = true → T.free.contains "zip" = true → notStar a = true → notStar b = true → Cp T c a x → Cp T c b y → Ci T c (.Tuple ts k tp) (.Call (.Name "zip" p) [a, b] [] pos) (.zp x y)
end
mutual
inductive Cs (T : Tb) : Cc → Stmt → Sm → Prop where
  | asg {c : Cc} {tg e : Expr} {t : Tg} {x : E} {pos : Pos} : notComp e = true → (match tg, e with | .Tuple _ _ _, .Tuple _ _ _ => false | _, _ => true) = true → Ct c tg t → Cp T c e x → Cs T c (.Assign [tg] e pos) (.asg t x)
  | asgC {c : Cc} {y : Str} {i : Nat} {elt tg iter : Expr} {ifs : List Expr} {scope : Scope} {py pos spos : Pos} {x : E} {t : Tg} {it : It} {cs : List E} {own : List (Str × Nat)} : c.N[i]? = some y → kindIs c.sc y .local = true → (py.line == pos.line) = true → (scope.names.any fun (n, k) => n == y && (k == .local || k == .cell)) = false → blkC c.N c.sc scope own = true → (match iter with | .Set _ _ _ => false | _ => true) = true → Ci T c tg iter it → Ct ⟨c.N, scope, none⟩ tg t → ((slotsT t).all fun i => (own.map (·.2)).contains i) = true → Cps T ⟨c.N, scope, none⟩ ifs cs → cs.length ≤ 1 → Cp T ⟨c.N, scope, none⟩ elt x →
      Cs T c (.Assign [.Name y py] (.ListComp elt [⟨tg, iter, ifs, 0⟩] scope pos) spos) (.asgC i x t it cs (own.map (·.2)))
  | ex {c : Cc} {e : Expr} {x : E} {pos : Pos} : notComp e = true → Cp T c e x → Cs T c (.Expr e pos) (.ex x)
  | ret {c : Cc} {e : Expr} {x : E} {pos : Pos} : Cp T c e x → Cs T c (.Return (some e) pos) (.ret x)
  | ife {c : Cc} {t : Expr} {a b : List Stmt} {x : E} {as bs : List Sm} {pos : Pos} : Cp T c t x → Css T c a as → Css T c b bs → Cs T c (.If t a b pos) (.ife x as bs)
  | for {c : Cc} {tg iter : Expr} {b : List Stmt} {t : Tg} {it : It} {bs : List Sm} {pos : Pos} : (match iter with | .Set _ _ _ => false | _ => true) = true → Ci T c tg iter it → Ct c tg t → Css T c b bs → Cs T c (.For tg iter b [] pos) (.for t it bs)
  | pass {c : Cc} {pos : Pos} : Cs T c (.Pass pos) .pass
inductive Css (T : Tb) : Cc → List Stmt → List Sm → Prop where
  | nil {c : Cc} : Css T c [] []
  | cons {c : Cc} {st : Stmt} {r : List Stmt} {x : Sm} {xs : List Sm} : Cs T c st x → Css T c r xs → Css T c (st :: r) (x :: xs)
end

/-! ### the ground -/
structure Bs where
  S : Sc
  P : Program
  w : World
  mg : Str → Option Value
  base : Heap
  T : Tb
  tabs : List (Addr × Str)
/-- a type, a class, as the model has it -/
def TyVal (S : Sc) : A → Value → Prop
  | .ty n, v => v = .type (tyN n)
  | .glo g, v => ∃ a, S.G g = some a ∧ v = .ref a
  | _, _ => False
structure BOk (B : Bs) : Prop where
  free : ∀ x, B.T.free.contains x = true → B.mg x = none
  glv : ∀ x g a, B.T.gl.lookup x = some g → g.val = some a → ∃ C v, a = .glo C ∧ B.S.G C = some v ∧ B.mg x = some (.ref v)
  err : ∀ x C f, B.T.gl.lookup x = some (.err C f) → ∃ Ca fI fd, B.S.G C = some Ca ∧ B.mg x = some (.ref Ca) ∧ Err1Ok B.P B.w B.S.K B.mg B.base Ca f fI fd
  err0 : ∀ x C, B.T.gl.lookup x = some (.err0 C) → ∃ Ca fI fd, B.S.G C = some Ca ∧ B.mg x = some (.ref Ca) ∧ Err0Ok B.P B.w B.S.K B.mg B.base Ca fI fd
  bare : ∀ x C, B.T.gl.lookup x = some (.bare C) → ∃ Ca bmB Bn newId initId, B.S.G C = some Ca ∧ B.mg x = some (.ref Ca) ∧ ExcBaseFacts Bn newId initId bmB ∧ PySem.W.excIn B.S.K Ca bmB newId = true ∧ PySem.W.keepIn B.S.K (.ref Ca) = true
  lamT : ∀ n t, B.T.lam n = some t → B.S.lam n = some t
  lamS : ∀ n t, B.S.lam n = some t → B.T.lam n = some t
  tabs : ∀ m H, B.S.Φ m H → LamX.Tabs B.tabs H
  lamF : ∀ m H H', B.S.Φ m H → LamX.ExtN H H' → LamX.Tabs B.tabs H' → B.S.Φ m H'
  kit : ∀ t c b tv cv, isi1 B.T.kit t c = some b → TyVal B.S t tv → TyVal B.S c cv → PySem.W.kitOne B.S.K tv cv = some b
  exc : ∀ (C : Nat) (Ca : Addr), B.S.G C = some Ca → (∃ p, B.T.kit.anc[C]? = some p) → ExcC B.S.K Ca
  xno : ∀ (C : Nat) (f : Str) (Ca : Addr), B.T.kit.fld[C]? = some (some f) → B.S.G C = some Ca → PySem.W.findIn B.S.K (.ref Ca) f = some none ∧ XfC B.S.K Ca
/-- how a def is called -/
def spF (B : Bs) (call : Nat → List A → Hh → Out A) (f n : Nat) : Sp := fun vs H Q E => vs.length = n ∧ ∃ ρ h as, Rep B.S ρ h H ∧ Rels B.S ρ H as vs ∧ (call f as h).All (QW B.S ρ H Q) (XW B.S ρ H E)
structure CallOk (B : Bs) (k : Nat) (call : Nat → List A → Hh → Out A) : Prop where
  fn : ∀ x f n, B.T.gl.lookup x = some (.fn f n) → ∃ a fd ps, ps.length = n ∧ B.mg x = some (.ref a) ∧ PySem.W.keepIn B.S.K (.ref a) = true ∧ FnOk B.P B.w B.S.K B.mg B.base (L2.CX B.P B.w) k a fd ps (spF B call f n) ∧ Binds B.S.K fd ps []
  lam : ∀ n t, B.T.lam n = some t → LamRun B.P B.w B.S.K B.mg B.base k t (spF B call n 1)
/-- a context -/
structure Ok (B : Bs) (k : Nat) (c : Cc) (X : Cx) (E : XK) : Prop where
  P : X.prog = B.P
  w : X.w = B.w
  K : X.K = B.S.K
  mg : X.mg = B.mg
  bs : X.base = B.base
  N : X.N = c.N
  nd : c.N.Nodup
  calm : X.calm = true
  room : Room k X.A
  r2 : Room 2 X.A
  pass : Passes (L2.CX X.prog X.w) X E
  own : PassesOwn (model X.prog X.w) X.A X.env X.xe
  loc : ∀ x, c.sc.names.lookup x = some .local → X.env.scope.names.lookup x = some .local
  cell : ∀ x, c.sc.names.lookup x = some .cell → X.env.scope.names.lookup x = some .cell ∧ X.fn x = true
  free : ∀ x, c.sc.names.lookup x = some .free → X.env.scope.names.lookup x = some .cell ∨ X.env.scope.names.lookup x = some .free
  gi : ∀ x, c.sc.names.lookup x = some .globalImplicit → X.env.scope.names.lookup x = some .globalImplicit
  qual : ∀ q, c.q = some q → X.env.qual = q ∧ ∃ ca P, X.env.code = .ref ca ∧ LamX.TabB X.base X.mg ca P ∧ (P, q ++ "<lambda>") ∈ B.tabs ∧ ∀ p ∈ B.tabs, p.1 = P → p.2 = q ++ "<lambda>"
theorem kindIs_ok {sc : Scope} {x : Str} {k : NameKind} (h : kindIs sc x k = true) : sc.names.lookup x = some k := by
  unfold kindIs at h
  split at h
  · rename_i j e
    rw [e, eq_of_beq h]
  · cases h
section
variable {B : Bs} {k : Nat} {c : Cc} {X : Cx} {E : XK}
theorem Ok.vis (o : Ok B k c X E) {x : Str} (h : visB c.sc x = true) : Vis X.env.scope x := by
  unfold visB at h
  rw [Bool.or_eq_true, Bool.or_eq_true] at h
  rcases h with (h | h) | h
  · exact .inl (o.loc x (kindIs_ok h))
  · exact .inr (.inl (o.cell x (kindIs_ok h)).1)
  · exact .inr (o.free x (kindIs_ok h))
theorem okName_d {x : Str} (h : okName x = true) : (x == ("__debug__" : Str)) = false ∧ (x == ("__classdict__" : Str)) = false := by
  unfold okName at h
  rw [Bool.and_eq_true, Bool.not_eq_true', Bool.not_eq_true'] at h
  exact h
theorem star_cons {e : Expr} {es : List Expr} {env : Env} (h : notStar e = true) : starEach (e :: es) env = (false, eval e env) :: starEach es env := by
  cases e <;> first | rfl | cases h
theorem star_any {T : Tb} {c : Cc} {pos : Pos} {env : Env} : ∀ {es : List Expr} {xs : List EV.E}, Cps T c es xs → (backTo pos (starEach es env)).any (·.1) = false
  | _, _, .nil => rfl
  | _, _, .cons (e := e) (es := es) h1 _ h3 => by
    rw [star_cons h1]
    show (false || (backTo pos (starEach es env)).any (·.1)) = false
    rw [star_any h3]
    rfl
end
end EV
set_option Elab.async false
set_option linter.all false
set_option maxRecDepth 100000
set_option maxHeartbeats 4000000
namespace EV
open PySem PySem.Spec PyProof.Rows L2 ER

def TW (S : Sc) (ρ : Rho) (H : Hp) (Q : Bool → Hp → Prop) (a : A) (h' : Hh) : Prop := ∃ b, a = .bl b ∧ ∀ ρ' H', Ext S ρ H ρ' H' → Rep S ρ' h' H' → Q b H'
def tT (S : Sc) (E : XK) (ev : Sl → Hh → Out A) : TT := fun σ H Q => ∃ ρ h s, Rep S ρ h H ∧ RelS S ρ H s σ ∧ (ev s h).All (TW S ρ H Q) (XW S ρ H E)
def AW (S : Sc) (ρ : Rho) (H : Hp) (Q : List V → Hp → Prop) (as : List A) (h' : Hh) : Prop := ∀ ρ' H' vs, Ext S ρ H ρ' H' → Rep S ρ' h' H' → Rels S ρ' H' as vs → Q vs H'
def tAs (S : Sc) (E : XK) (ev : Sl → Hh → Out (List A)) : TA := fun σ H Q => ∃ ρ h s, Rep S ρ h H ∧ RelS S ρ H s σ ∧ (ev s h).All (AW S ρ H Q) (XW S ρ H E)
def FW (S : Sc) (ρ : Rho) (H : Hp) (D : Ends) (f : Fl) (h' : Hh) : Prop := ∀ ρ' H', Ext S ρ H ρ' H' → Rep S ρ' h' H' → match f with
  | .nx s => ∀ σ, RelS S ρ' H' s σ → D.nx σ H'
  | .rt a => ∀ v, Rel S ρ' H' a v → D.rt v H'
  | .bk s => ∀ σ, RelS S ρ' H' s σ → D.bk σ H'
  | .ct s => ∀ σ, RelS S ρ' H' s σ → D.ct σ H'
def tSs (S : Sc) (E : XK) (ev : Sl → Hh → Out Fl) : TS := fun D σ H => ∃ ρ h s, Rep S ρ h H ∧ RelS S ρ H s σ ∧ (ev s h).All (FW S ρ H D) (XW S ρ H E)
section
variable {S : Sc} {ρ ρ' : Rho} {H H' : Hp} {E : XK}
theorem TW.mono (e : Ext S ρ H ρ' H') {Q : Bool → Hp → Prop} {a : A} {h' : Hh} (x : TW S ρ H Q a h') : TW S ρ' H' Q a h' := by
  obtain ⟨b, q, k⟩ := x
  exact ⟨b, q, fun ρ2 H2 e2 => k ρ2 H2 (e.trans e2)⟩
theorem AW.mono (e : Ext S ρ H ρ' H') {Q : List V → Hp → Prop} {a : List A} {h' : Hh} (x : AW S ρ H Q a h') : AW S ρ' H' Q a h' := fun ρ2 H2 v e2 => x ρ2 H2 v (e.trans e2)
theorem FW.mono (e : Ext S ρ H ρ' H') {D : Ends} {f : Fl} {h' : Hh} (x : FW S ρ H D f h') : FW S ρ' H' D f h' := fun ρ2 H2 e2 => x ρ2 H2 (e.trans e2)
theorem all_mono {α : Type} {m : Out α} {P P' : α → Hh → Prop} (e : Ext S ρ H ρ' H') (hp : ∀ a h, P a h → P' a h) (q : m.All P (XW S ρ H E)) : m.All P' (XW S ρ' H' E) := q.mono hp fun _ _ _ y => y.mono e
/-- one thing after another: the general step -/
theorem go {α β : Type} {m : Out α} {f : α → Hh → Out β} {P : β → Hh → Prop} {P' : α → Hh → Prop} (q : (m.bind f).All P (XW S ρ H E)) (k : ∀ a h1, (f a h1).All P (XW S ρ H E) → P' a h1) : m.All P' (XW S ρ H E) :=
  (Out.all_bind q).mono k fun _ _ _ y => y
end
structure Snd (B : Bs) (k : Nat) (r : Rec) : Prop where
  pe : ∀ {c X E e x}, Ok B k c X E → Cp B.T c e x → PE X e (tE B.S E (r.e x))
  pt : ∀ {c X E e x}, Ok B k c X E → Cp B.T c e x → PT X e (tT B.S E (r.e x))
  ss : ∀ {c X E l xs}, Ok B k c X E → Css B.T c l xs → PSs X l (tSs B.S E (r.ss xs))

section
variable {B : Bs} {k : Nat} {r : Rec} {c : Cc} {X : Cx} {E : XK}
/-! ### arguments -/
theorem pas (O : Ok B k c X E) (I : Snd B k r) : ∀ {es : List Expr} {xs : List EV.E}, Cps B.T c es xs → PA X es (tAs B.S E (evEs r xs))
  | _, _, .nil => PA.imp pa_nil fun σ H Q q => by
    obtain ⟨ρ, h, s, R, rs, q⟩ := q
    exact q ρ H [] Ext.refl R rfl
  | _, _, .cons h1 h2 h3 => PA.imp (pa_cons (I.pe O h2) (pas O I h3) (star_cons h1)) fun σ H Q q => by
    obtain ⟨ρ, h, s, R, rs, q⟩ := q
    refine ⟨ρ, h, s, R, rs, go q fun a h1 q1 ρ1 H1 v e1 R1 rv => ?_⟩
    refine ⟨ρ1, h1, s, R1, rs.mono e1, go (all_mono e1 (fun _ _ y => y) q1) fun as h2 q2 ρ2 H2 vs e2 R2 rvs => ?_⟩
    exact q2 ρ2 H2 (v :: vs) (e1.trans e2) R2 ⟨v, vs, rfl, rv.mono e2, rvs⟩
/-! ### operators by values -/
theorem OpR.or {f : Value → Value → Sem Value} {r1 r2 : R2} (h1 : OpR X f r1) (h2 : OpR X f r2) : OpR X f (fun x y H Q => r1 x y H Q ∨ r2 x y H Q) := by
  intro pins s σ H x y v u Q I rx ry h
  rcases h with h | h
  · exact h1 pins s σ H x y v u Q I rx ry h
  · exact h2 pins s σ H x y v u Q I rx ry h
theorem CallR.or {f : Value} {r1 r2 : List V → Hp → VK → Prop} (h1 : CallR X f r1) (h2 : CallR X f r2) : CallR X f (fun xs H Q => r1 xs H Q ∨ r2 xs H Q) := by
  intro pins s σ H xs us Q I rx h
  rcases h with h | h
  · exact h1 pins s σ H xs us Q I rx h
  · exact h2 pins s σ H xs us Q I rx h
/-- two parts, then an operator -/
theorem two {f : A → A → Hh → Out A} {r2 : R2} {x y : EV.E} (hop : ∀ {ρ h H a b v w Q}, Rep B.S ρ h H → Rel B.S ρ H a v → Rel B.S ρ H b w → (f a b h).All (QW B.S ρ H Q) (XW B.S ρ H E) → r2 v w H Q)
    {σ : L2.St} {H : Hp} {Q : VK} (q : tE B.S E (fun s h => (r.e x s h).bind fun a h1 => (r.e y s h1).bind fun b h2 => f a b h2) σ H Q) : tOp r2 (tE B.S E (r.e x)) (tE B.S E (r.e y)) σ H Q := by
  obtain ⟨ρ, h, s, R, rs, q⟩ := q
  refine ⟨ρ, h, s, R, rs, go q fun a h1 q1 ρ1 H1 v e1 R1 rv => ?_⟩
  refine ⟨ρ1, h1, s, R1, rs.mono e1, go (all_mono e1 (fun _ _ y => y) q1) fun b h2 q2 ρ2 H2 w e2 R2 rw => ?_⟩
  exact hop R2 (rv.mono e2) rw (all_mono e2 (fun _ _ y => (y.mono e1).mono e2) q2)
/-- a new list's place -/
theorem newL_ok {ρ : Rho} {h : Hh} {H : Hp} {xs : List A} {vs : List V} {Q : VK} {p : Addr} (R : Rep B.S ρ h H) (rv : Rels B.S ρ H xs vs) (q : (newL xs h).All (QW B.S ρ H Q) (XW B.S ρ H E)) (n : H p = none) : vs.length ≤ sizeLine ∧ Q (.ref p) (upd H p (.lst vs)) := by
  unfold newL at q
  by_cases hl : xs.length ≤ lim
  · rw [if_pos hl] at q
    refine ⟨by rw [Rels.length rv]; exact Nat.le_trans hl (by decide), ?_⟩
    exact q _ _ _ (Ext.new R n) (R.new n ⟨vs, upd_same, Rels.mono (Ext.new R n) rv⟩) ⟨p, by unfold rhoNew; rw [if_pos rfl], rfl⟩
  · rw [if_neg hl] at q
    exact q.elim
theorem lst_at {ρ : Rho} {h : Hh} {H : Hp} {l : Bn} {xs : List A} {v : V} (R : Rep B.S ρ h H) (rv : Rel B.S ρ H (.loc l) v) (e : h.get l = some (.lst xs)) : ∃ a vs, v = .ref a ∧ ρ l = some a ∧ H a = some (.lst vs) ∧ Rels B.S ρ H xs vs := by
  obtain ⟨a, e1, e2⟩ := rv
  obtain ⟨a', e3, vs, e4, e5⟩ := R.cell l _ e
  rw [e1] at e3
  cases e3
  exact ⟨a, vs, e2, e1, e4, e5⟩
abbrev rAddA : R2 := fun x y H Q => (rI0 fun i j => .int (i + j)) x y H Q ∨ rCat x y H Q
theorem add_ok {ρ : Rho} {h : Hh} {H : Hp} {a b : A} {v w : V} {Q : VK} (R : Rep B.S ρ h H) (ra : Rel B.S ρ H a v) (rb : Rel B.S ρ H b w) (q : (evBin .add a b h).All (QW B.S ρ H Q) (XW B.S ρ H E)) : rAddA v w H Q := by
  unfold evBin at q
  split at q
  all_goals (rename_i e; try cases e)
  · exact .inl ⟨_, _, ra, rb, q _ _ _ Ext.refl R rfl⟩
  · split at q
    · rename_i xs ys e1 e2
      obtain ⟨p1, vs, rfl, _, h1, r1⟩ := lst_at R ra e1
      obtain ⟨p2, ws, rfl, _, h2, r2⟩ := lst_at R rb e2
      have hz := fun (p : Addr) (n : H p = none) => newL_ok R (r1.append r2) q n
      refine .inr ⟨p1, p2, vs, ws, rfl, rfl, h1, h2, ?_, fun p n => (hz p n).2⟩
      have key : (newL (xs ++ ys) h).All (QW B.S ρ H Q) (XW B.S ρ H E) := q
      unfold newL at key
      by_cases hl : (xs ++ ys).length ≤ lim
      · rw [List.length_append] at hl
        rw [Rels.length r1, Rels.length r2]
        exact Nat.le_trans hl (by decide)
      · rw [if_neg hl] at key
        exact key.elim
    · exact q.elim
  · exact q.elim
/-! ### ints -/
theorem intop {ρ : Rho} {h : Hh} {H : Hp} {a b : A} {v w : V} (ra : Rel B.S ρ H a v) (rb : Rel B.S ρ H b w) {i j : Int} (e1 : a = .int i) (e2 : b = .int j) : v = .int i ∧ w = .int j := by
  subst e1 e2
  exact ⟨ra, rb⟩
theorem sub_ok {ρ : Rho} {h : Hh} {H : Hp} {a b : A} {v w : V} {Q : VK} (R : Rep B.S ρ h H) (ra : Rel B.S ρ H a v) (rb : Rel B.S ρ H b w) (q : (evBin .sub a b h).All (QW B.S ρ H Q) (XW B.S ρ H E)) : (rI0 fun i j => .int (i - j)) v w H Q := by
  unfold evBin at q
  split at q
  all_goals (rename_i e; try cases e)
  · exact ⟨_, _, ra, rb, q _ _ _ Ext.refl R rfl⟩
  · exact q.elim
theorem mul_ok {ρ : Rho} {h : Hh} {H : Hp} {a b : A} {v w : V} {Q : VK} (R : Rep B.S ρ h H) (ra : Rel B.S ρ H a v) (rb : Rel B.S ρ H b w) (q : (evBin .mul a b h).All (QW B.S ρ H Q) (XW B.S ρ H E)) : (rI CMul fun i j => .int (i * j)) v w H Q := by
  unfold evBin at q
  split at q
  all_goals (rename_i e; try cases e)
  · split at q
    · rename_i hc
      exact ⟨_, _, ra, rb, hc, q _ _ _ Ext.refl R rfl⟩
    · exact q.elim
  · exact q.elim
theorem fdiv_ok {ρ : Rho} {h : Hh} {H : Hp} {a b : A} {v w : V} {Q : VK} (R : Rep B.S ρ h H) (ra : Rel B.S ρ H a v) (rb : Rel B.S ρ H b w) (q : (evBin .fdiv a b h).All (QW B.S ρ H Q) (XW B.S ρ H E)) : (rI CDivN fun i j => .int (i.fdiv j)) v w H Q := by
  unfold evBin at q
  split at q
  all_goals (rename_i e; try cases e)
  · split at q
    · rename_i hc
      exact ⟨_, _, ra, rb, hc, q _ _ _ Ext.refl R rfl⟩
    · exact q.elim
  · exact q.elim
theorem mod_ok {ρ : Rho} {h : Hh} {H : Hp} {a b : A} {v w : V} {Q : VK} (R : Rep B.S ρ h H) (ra : Rel B.S ρ H a v) (rb : Rel B.S ρ H b w) (q : (evBin .mod a b h).All (QW B.S ρ H Q) (XW B.S ρ H E)) : (rI (fun _ j => j ≠ 0) fun i j => .int (i.fmod j)) v w H Q := by
  unfold evBin at q
  split at q
  all_goals (rename_i e; try cases e)
  · split at q
    · rename_i hc
      exact ⟨_, _, ra, rb, hc, q _ _ _ Ext.refl R rfl⟩
    · exact q.elim
  · exact q.elim
theorem pow_ok {ρ : Rho} {h : Hh} {H : Hp} {a b : A} {v w : V} {Q : VK} (R : Rep B.S ρ h H) (ra : Rel B.S ρ H a v) (rb : Rel B.S ρ H b w) (q : (evBin .pow a b h).All (QW B.S ρ H Q) (XW B.S ρ H E)) : (rI CPow fun i j => .int (i ^ j.toNat)) v w H Q := by
  unfold evBin at q
  split at q
  all_goals (rename_i e; try cases e)
  · split at q
    · rename_i hc
      exact ⟨_, _, ra, rb, hc, q _ _ _ Ext.refl R rfl⟩
    · exact q.elim
  · exact q.elim
/-! ### data read deep -/
mutual
theorem toD_ok {ρ : Rho} {h : Hh} {H : Hp} (R : Rep B.S ρ h H) : ∀ (n : Nat) (a : A) (v : V) (d : PyData), toD h n a = some d → Rel B.S ρ H a v → Dp B.S.K H v d
  | 0, _, _, _, e, _ => by unfold toD at e; cases e
  | n + 1, .non, _, _, e, rv => by unfold toD at e; cases e; rw [show _ = V.non from rv]; exact .non
  | n + 1, .bl b, _, _, e, rv => by unfold toD at e; cases e; rw [show _ = V.bl b from rv]; exact .bl b
  | n + 1, .int i, _, _, e, rv => by unfold toD at e; cases e; rw [show _ = V.int i from rv]; exact .int i
  | n + 1, .str x, _, _, e, rv => by unfold toD at e; cases e; rw [show _ = V.str x from rv]; exact .str x
  | n + 1, .ty _, _, _, e, _ => by unfold toD at e; cases e
  | n + 1, .glo _, _, _, e, _ => by unfold toD at e; cases e
  | n + 1, .tup xs, v, d, e, rv => by
    unfold toD at e
    obtain ⟨a, vs, e1, hs, rs⟩ := rv
    cases q : toDs h n xs with
    | none =>
      dsimp only at e
      rw [q] at e
      cases e
    | some ds =>
      dsimp only at e
      rw [q] at e
      cases e
      rw [e1]
      exact .tup hs (toDs_ok R n xs vs ds q rs)
  | n + 1, .loc l, v, d, e, rv => by
    unfold toD at e
    dsimp only at e
    split at e
    · rename_i xs g
      obtain ⟨a, vs, e1, _, hs, rs⟩ := lst_at R rv g
      cases q : toDs h n xs with
      | none =>
        rw [q] at e
        cases e
      | some ds =>
        rw [q] at e
        cases e
        rw [e1]
        exact .lst (SqL.of hs) (toDs_ok R n xs vs ds q rs)
    · cases e
theorem toDs_ok {ρ : Rho} {h : Hh} {H : Hp} (R : Rep B.S ρ h H) : ∀ (n : Nat) (as : List A) (vs : List V) (ds : List PyData), toDs h n as = some ds → Rels B.S ρ H as vs → DpAll B.S.K H vs ds
  | 0, _, _, _, e, _ => by unfold toDs at e; cases e
  | n + 1, [], _, _, e, rv => by unfold toDs at e; cases e; rw [show _ = ([] : List V) from rv]; exact .nil
  | n + 1, x :: r, _, ds, e, rv => by
    unfold toDs at e
    obtain ⟨v, vr, e1, r1, r2⟩ := rv
    dsimp only at e
    cases q1 : toD h n x with
    | none =>
      rw [q1] at e
      cases e
    | some d =>
      rw [q1, Option.bind_some] at e
      cases q2 : toDs h n r with
      | none =>
        rw [q2] at e
        cases e
      | some ds2 =>
        rw [q2] at e
        cases e
        rw [e1]
        exact .cons (toD_ok R n x v d q1 r1) (toDs_ok R n r vr ds2 q2 r2)
end
theorem evEq_ok {ρ : Rho} {h : Hh} {H : Hp} {a b : A} {v w : V} {t : Bool} (R : Rep B.S ρ h H) (ra : Rel B.S ρ H a v) (rb : Rel B.S ρ H b w) (q : evEq a b h = some t) :
    ∃ d e, Dp B.S.K H v d ∧ Dp B.S.K H w e ∧ SeqAt.shaped d = true ∧ SeqAt.shaped e = true ∧ t = PyData.eqv d e := by
  unfold evEq at q
  cases q1 : toD h deep a with
  | none => rw [q1] at q; cases q
  | some d =>
    rw [q1, Option.bind_some] at q
    cases q2 : toD h deep b with
    | none => rw [q2] at q; cases q
    | some e =>
      rw [q2, Option.bind_some] at q
      split at q
      · rename_i hs
        rw [Bool.and_eq_true] at hs
        cases q
        exact ⟨d, e, toD_ok R _ a v d q1 ra, toD_ok R _ b w e q2 rb, hs.1, hs.2, rfl⟩
      · cases q
theorem eq_ok {ρ : Rho} {h : Hh} {H : Hp} {a b : A} {v w : V} {Q : VK} (R : Rep B.S ρ h H) (ra : Rel B.S ρ H a v) (rb : Rel B.S ρ H b w) (q : (evCmp .eq a b h).All (QW B.S ρ H Q) (XW B.S ρ H E)) : rEqD B.S.K v w H Q := by
  unfold evCmp at q
  dsimp only at q
  split at q
  · rename_i t e
    obtain ⟨d, e', h1, h2, h3, h4, rfl⟩ := evEq_ok R ra rb e
    exact ⟨d, e', h1, h2, h3, h4, q _ _ _ Ext.refl R rfl⟩
  · exact q.elim
theorem ne_ok {ρ : Rho} {h : Hh} {H : Hp} {a b : A} {v w : V} {Q : VK} (R : Rep B.S ρ h H) (ra : Rel B.S ρ H a v) (rb : Rel B.S ρ H b w) (q : (evCmp .ne a b h).All (QW B.S ρ H Q) (XW B.S ρ H E)) : rNeD B.S.K v w H Q := by
  unfold evCmp at q
  dsimp only at q
  split at q
  · rename_i t e
    obtain ⟨d, e', h1, h2, h3, h4, rfl⟩ := evEq_ok R ra rb e
    exact ⟨d, e', h1, h2, h3, h4, q _ _ _ Ext.refl R rfl⟩
  · exact q.elim
theorem lt_ok {ρ : Rho} {h : Hh} {H : Hp} {a b : A} {v w : V} {Q : VK} (R : Rep B.S ρ h H) (ra : Rel B.S ρ H a v) (rb : Rel B.S ρ H b w) (q : (evCmp .lt a b h).All (QW B.S ρ H Q) (XW B.S ρ H E)) : (rI0 fun i j => .bl (decide (i < j))) v w H Q := by
  unfold evCmp at q
  dsimp only at q
  split at q
  · exact ⟨_, _, ra, rb, q _ _ _ Ext.refl R rfl⟩
  · exact q.elim
theorem le_ok {ρ : Rho} {h : Hh} {H : Hp} {a b : A} {v w : V} {Q : VK} (R : Rep B.S ρ h H) (ra : Rel B.S ρ H a v) (rb : Rel B.S ρ H b w) (q : (evCmp .le a b h).All (QW B.S ρ H Q) (XW B.S ρ H E)) : (rI0 fun i j => .bl (decide (i ≤ j))) v w H Q := by
  unfold evCmp at q
  dsimp only at q
  split at q
  · exact ⟨_, _, ra, rb, q _ _ _ Ext.refl R rfl⟩
  · exact q.elim
theorem gt_ok {ρ : Rho} {h : Hh} {H : Hp} {a b : A} {v w : V} {Q : VK} (R : Rep B.S ρ h H) (ra : Rel B.S ρ H a v) (rb : Rel B.S ρ H b w) (q : (evCmp .gt a b h).All (QW B.S ρ H Q) (XW B.S ρ H E)) : (rI0 fun i j => .bl (decide (j < i))) v w H Q := by
  unfold evCmp at q
  dsimp only at q
  split at q
  · exact ⟨_, _, ra, rb, q _ _ _ Ext.refl R rfl⟩
  · exact q.elim
theorem ge_ok {ρ : Rho} {h : Hh} {H : Hp} {a b : A} {v w : V} {Q : VK} (R : Rep B.S ρ h H) (ra : Rel B.S ρ H a v) (rb : Rel B.S ρ H b w) (q : (evCmp .ge a b h).All (QW B.S ρ H Q) (XW B.S ρ H E)) : (rI0 fun i j => .bl (decide (j ≤ i))) v w H Q := by
  unfold evCmp at q
  dsimp only at q
  split at q
  · exact ⟨_, _, ra, rb, q _ _ _ Ext.refl R rfl⟩
  · exact q.elim
/-! ### items -/
theorem atI_map {xs : List A} {vs : List V} {i : Int} {x : A} {ρ : Rho} {H : Hp} (rs : Rels B.S ρ H xs vs) (e : atI xs i = some x) : ∃ v, atI vs i = some v ∧ Rel B.S ρ H x v := by
  have hl := Rels.length rs
  unfold atI at e ⊢
  rw [hl]
  cases z : ixN xs.length i with
  | none => rw [z] at e; cases e
  | some j =>
    rw [z, Option.bind_some] at e
    rw [Option.bind_some]
    exact Rels.getA rs e
theorem cell_at {ρ : Rho} {h : Hh} {H : Hp} {l : Bn} {ce : Cell} {v : V} (R : Rep B.S ρ h H) (rv : Rel B.S ρ H (.loc l) v) (e : h.get l = some ce) : ∃ a, v = .ref a ∧ ρ l = some a ∧ COk B.S ρ H ce a := by
  obtain ⟨a, e1, e2⟩ := rv
  obtain ⟨a', e3, e4⟩ := R.cell l _ e
  rw [e1] at e3
  cases e3
  exact ⟨a, e2, e1, e4⟩
theorem key_rel {S : Sc} {ρ : Rho} {H : Hp} {a : A} {c : Key} {v : V} (e : keyOf a = some c) (r : Rel S ρ H a v) : v = kV c := by
  cases a <;> first | (cases e; exact r) | cases e
theorem RelK.get {S : Sc} {ρ : Rho} {H : Hp} {c : Key} : ∀ {xs : List (A × A)} {vs : List (Key × V)}, RelK S ρ H xs vs → (∀ x, dGet c xs = some x → ∃ v, valV vs c = some v ∧ Rel S ρ H x v) ∧ (dGet c xs = none → valV vs c = none)
  | [], vs, h => by
    rw [show vs = [] from h]
    exact And.intro (fun x e => by cases e) fun _ => rfl
  | (k, y) :: r, vs, ⟨c', v, r', h1, h2, h3, h4⟩ => by
    subst h1
    have ih := RelK.get (c := c) h4
    unfold dGet
    by_cases e : c' = c
    · subst e
      rw [if_pos h2, valV_pos (by rfl)]
      exact ⟨fun x q => ⟨v, rfl, by cases q; exact h3⟩, fun q => nomatch q⟩
    · rw [if_neg (by rw [h2]; exact fun z => e (Option.some.inj z)), valV_neg e]
      exact ih
def rIxD : R2 := fun x y H Q => ∃ a v, x = .ref a ∧ DGet H a y (some v) ∧ Q v H
def rInD : R2 := fun y x H Q => ∃ a o, x = .ref a ∧ DGet H a y o ∧ Q (.bl o.isSome) H
def rNinD : R2 := fun y x H Q => ∃ a o, x = .ref a ∧ DGet H a y o ∧ Q (.bl (!o.isSome)) H
theorem evIn_ok {ρ : Rho} {h : Hh} {H : Hp} {a b : A} {v w : V} {bb : Bool} (R : Rep B.S ρ h H) (ra : Rel B.S ρ H a v) (rb : Rel B.S ρ H b w) (e : evIn a b h = some bb) : ∃ p o, w = .ref p ∧ DGet H p v o ∧ o.isSome = bb := by
  unfold evIn at e
  split at e
  · split at e
    · rename_i kvs g
      cases ek : keyOf a with
      | none => rw [ek] at e; cases e
      | some kc =>
        rw [ek] at e
        obtain ⟨p, rfl, _, o, us, hs, rs⟩ := cell_at R rb g
        refine ⟨p, valV us kc, rfl, .inl ⟨us, kc, .inr ⟨o, hs⟩, key_rel ek ra, rfl⟩, ?_⟩
        have z := RelK.get (c := kc) rs
        cases e
        cases ed : dGet kc kvs with
        | none => rw [z.2 ed]; show _ = (dGet kc kvs).isSome; rw [ed]; rfl
        | some y => obtain ⟨u, e1, _⟩ := z.1 y ed; rw [e1]; show _ = (dGet kc kvs).isSome; rw [ed]; rfl
    · cases e
  · cases e
theorem in_ok {ρ : Rho} {h : Hh} {H : Hp} {a b : A} {v w : V} {Q : VK} (R : Rep B.S ρ h H) (ra : Rel B.S ρ H a v) (rb : Rel B.S ρ H b w) (q : (evCmp .inn a b h).All (QW B.S ρ H Q) (XW B.S ρ H E)) : rInD v w H Q := by
  unfold evCmp at q
  dsimp only at q
  split at q
  · rename_i bb e
    obtain ⟨p, o, e1, e2, e3⟩ := evIn_ok R ra rb e
    exact ⟨p, o, e1, e2, by rw [e3]; exact q _ _ _ Ext.refl R rfl⟩
  · exact q.elim
theorem nin_ok {ρ : Rho} {h : Hh} {H : Hp} {a b : A} {v w : V} {Q : VK} (R : Rep B.S ρ h H) (ra : Rel B.S ρ H a v) (rb : Rel B.S ρ H b w) (q : (evCmp .nin a b h).All (QW B.S ρ H Q) (XW B.S ρ H E)) : rNinD v w H Q := by
  unfold evCmp at q
  dsimp only at q
  split at q
  · rename_i bb e
    obtain ⟨p, o, e1, e2, e3⟩ := evIn_ok R ra rb e
    exact ⟨p, o, e1, e2, by rw [e3]; exact q _ _ _ Ext.refl R rfl⟩
  · exact q.elim
theorem idx_ok {ρ : Rho} {h : Hh} {H : Hp} {a b : A} {v w : V} {Q : VK} (R : Rep B.S ρ h H) (ra : Rel B.S ρ H a v) (rb : Rel B.S ρ H b w) (q : (evIdx a b h).All (QW B.S ρ H Q) (XW B.S ρ H E)) : (rIxL B.S.K v w H Q ∨ rIxT B.S.K v w H Q) ∨ rIxD v w H Q := by
  unfold evIdx at q
  split at q
  · split at q
    · rename_i xs g
      split at q
      · split at q
        · rename_i x e
          obtain ⟨p, vs, rfl, _, hs, rs⟩ := lst_at R ra g
          obtain ⟨u, e1, r1⟩ := atI_map rs e
          exact .inl (.inl ⟨p, vs, _, u, rfl, rb, SqL.of hs, e1, q _ _ _ Ext.refl R r1⟩)
        · exact q.elim
      · exact q.elim
    · rename_i kvs g
      unfold evIdxD at q
      split at q
      · rename_i kc ek
        split at q
        · rename_i x e
          obtain ⟨p, rfl, _, o, us, hs, rs⟩ := cell_at R ra g
          obtain ⟨u, e1, r1⟩ := (RelK.get rs).1 x e
          exact .inr ⟨p, u, rfl, .inl ⟨us, kc, .inr ⟨o, hs⟩, key_rel ek rb, e1.symm⟩, q _ _ _ Ext.refl R r1⟩
        · exact q.elim
      · exact q.elim
    · exact q.elim
  · split at q
    · rename_i x e
      obtain ⟨p, vs, rfl, hs, rs⟩ := ra
      obtain ⟨u, e1, r1⟩ := atI_map rs e
      exact .inl (.inr ⟨p, vs, _, u, rfl, rb, hs, e1, q _ _ _ Ext.refl R r1⟩)
    · exact q.elim
  · exact q.elim
/-! ### types, isinstance -/
theorem exAt_of {ρ : Rho} {H : Hp} {C : Nat} {fs : List (Str × A)} {a : Addr} (x : COk B.S ρ H (.exc C fs) a) : ∃ Ca, B.S.G C = some Ca ∧ ExAt H a Ca := by
  obtain ⟨Ca, g, x⟩ := x
  refine ⟨Ca, g, ?_⟩
  rcases x with ⟨_, q⟩ | ⟨d, vs, q, q2, _⟩
  · exact .inl q
  · exact .inr ⟨d, vs, q, q2⟩
theorem isi1_glo {kt : Kit} {g : Nat} {c : A} {b : Bool} (h : isi1 kt (.glo g) c = some b) : ∃ p, kt.anc[g]? = some p := by
  unfold isi1 at h
  cases c with
  | ty n =>
    dsimp only at h
    split at h
    · cases e : kt.anc[g]? with
      | none => rw [e] at h; cases h
      | some p => exact ⟨p, rfl⟩
    · cases h
  | glo g' =>
    dsimp only at h
    cases e : kt.anc[g]? with
    | none => rw [e] at h; cases h
    | some p => exact ⟨p, rfl⟩
  | _ => cases h
theorem tyA_ok (BO : BOk B) {ρ : Rho} {h : Hh} {H : Hp} {a t : A} {v : V} (R : Rep B.S ρ h H) (ra : Rel B.S ρ H a v) (e : tyA a h = some t) (hg : ∀ g, t = .glo g → ∃ p, B.T.kit.anc[g]? = some p) :
    ∃ tv, TyVal B.S t tv ∧ TyZ B.S.K H v tv := by
  unfold tyA at e
  split at e
  · cases e; rw [show v = V.non from ra]; exact ⟨_, rfl, .base (.base .non)⟩
  · cases e; rename_i b; rw [show v = V.bl b from ra]; exact ⟨_, rfl, .base (.base (.bl b))⟩
  · cases e; rename_i b; rw [show v = V.int b from ra]; exact ⟨_, rfl, .base (.base (.int b))⟩
  · cases e; rename_i b; rw [show v = V.str b from ra]; exact ⟨_, rfl, .base (.base (.str b))⟩
  · cases e
    obtain ⟨p, vs, rfl, hs, _⟩ := ra
    rcases hs with (hs | ⟨o, hs⟩) | ⟨o, its, n, hk, hc, _⟩
    · exact ⟨_, rfl, .base (.base (.tup hs))⟩
    · exact ⟨_, rfl, .base (.fTuple hs)⟩
    · exact ⟨_, rfl, .base (.kTuple hk hc)⟩
  · split at e
    · rename_i xs g
      cases e
      obtain ⟨p, vs, rfl, _, hs, _⟩ := lst_at R ra g
      exact ⟨_, rfl, .base (.base (.lst hs))⟩
    · rename_i kvs g
      cases e
      obtain ⟨p, rfl, _, x⟩ := cell_at R ra g
      obtain ⟨o, vs, hs, _⟩ := x
      exact ⟨_, rfl, .base (.fDict hs)⟩
    · rename_i C fs g
      cases e
      obtain ⟨p, rfl, _, x⟩ := cell_at R ra g
      obtain ⟨Ca, hG, hx⟩ := exAt_of x
      exact ⟨.ref Ca, ⟨Ca, hG, rfl⟩, .exc hx (BO.exc C Ca hG (hg C rfl))⟩
    · cases e
  · cases e
theorem cls_of {S : Sc} {ρ : Rho} {H : Hp} {cA : A} {v : V} {kt : Kit} {t : A} {b : Bool} (e : isi1 kt t cA = some b) (rc : Rel S ρ H cA v) : ∃ u, TyVal S cA u ∧ ClsV v u := by
  unfold isi1 at e
  split at e
  · rw [show v = V.ty _ from rc]; exact ⟨_, rfl, .ty _⟩
  · obtain ⟨a, g, rfl⟩ := rc; exact ⟨.ref a, ⟨a, g, rfl⟩, .own a⟩
  · rw [show v = V.ty _ from rc]; exact ⟨_, rfl, .ty _⟩
  · obtain ⟨a, g, rfl⟩ := rc; exact ⟨.ref a, ⟨a, g, rfl⟩, .own a⟩
  · cases e
theorem isiAny_ok (BO : BOk B) {ρ : Rho} {H : Hp} {t : A} {tv : Value} (ht : TyVal B.S t tv) : ∀ {cs : List A} {vs : List V} {b : Bool}, isiAny B.T.kit t cs = some b → Rels B.S ρ H cs vs → (∀ c ∈ cs, ∃ b', isi1 B.T.kit t c = some b') → ∃ us, Paired ClsV vs us ∧ PySem.W.kitAny B.S.K tv us = some b
  | [], _, b, e, rs, _ => by
    rw [show _ = ([] : List V) from rs]
    cases e
    exact ⟨[], .nil, rfl⟩
  | c :: cs, _, b, e, ⟨v, r, e1, r1, r2⟩, hall => by
    obtain ⟨b', hb'⟩ := hall c (List.mem_cons_self ..)
    obtain ⟨u, hu, hcv⟩ := cls_of hb' r1
    have hk := BO.kit t c b' tv u hb' ht hu
    unfold isiAny at e
    rw [hb'] at e
    subst e1
    cases b' with
    | true =>
      have rest : ∃ us, Paired ClsV r us := pr cs r r2 fun c' hc' => hall c' (List.mem_cons_of_mem _ hc')
      obtain ⟨us, pu⟩ := rest
      refine ⟨u :: us, .cons hcv pu, ?_⟩
      dsimp only at e
      unfold PySem.W.kitAny
      rw [hk]
      exact e
    | false =>
      obtain ⟨us, pu, ku⟩ := isiAny_ok BO ht (show isiAny B.T.kit t cs = some b from e) r2 fun c' hc' => hall c' (List.mem_cons_of_mem _ hc')
      refine ⟨u :: us, .cons hcv pu, ?_⟩
      unfold PySem.W.kitAny
      rw [hk]
      exact ku
where
  pr {t : A} : ∀ (cs : List A) (vs : List V), Rels B.S ρ H cs vs → (∀ c ∈ cs, ∃ b', isi1 B.T.kit t c = some b') → ∃ us, Paired ClsV vs us
  | [], vs, rs, _ => by rw [show vs = [] from rs]; exact ⟨[], .nil⟩
  | c :: cs, vs, ⟨v, r, e1, r1, r2⟩, hall => by
    obtain ⟨b', hb'⟩ := hall c (List.mem_cons_self ..)
    obtain ⟨u, _, hcv⟩ := cls_of hb' r1
    obtain ⟨us, pu⟩ := pr cs r r2 fun c' hc' => hall c' (List.mem_cons_of_mem _ hc')
    subst e1
    exact ⟨u :: us, .cons hcv pu⟩
theorem tyA_glo {a t : A} {h : Hh} (e : tyA a h = some t) : (∃ n, t = .ty n) ∨ ∃ g, t = .glo g := by
  unfold tyA at e
  split at e
  all_goals first
    | (cases e; exact .inl ⟨_, rfl⟩)
    | (split at e <;> first | (cases e; exact .inl ⟨_, rfl⟩) | (cases e; exact .inr ⟨_, rfl⟩) | cases e)
    | cases e
theorem isi_ok (BO : BOk B) {ρ : Rho} {h : Hh} {H : Hp} {as : List A} {vs : List V} {Q : VK} (R : Rep B.S ρ h H) (ra : Rels B.S ρ H as vs) (q : (evBi B.T.kit .isi as h).All (QW B.S ρ H Q) (XW B.S ρ H E)) : rIsZ B.S.K vs H Q ∨ rIsZT B.S.K vs H Q := by
  unfold evBi at q
  split at q
  all_goals (rename_i hb; try cases hb)
  · rename_i x cA
    obtain ⟨v, r1, rfl, rx, w, r2, rfl, rc, e⟩ := ra
    rw [show r2 = [] from e]
    split at q
    · rename_i t et
      split at q
      · rename_i cs
        split at q
        · rename_i hne
          rw [Bool.and_eq_true] at hne
          obtain ⟨hne, hall⟩ := hne
          split at q
          · rename_i b eb
            obtain ⟨p, us, rfl, hs, rs⟩ := rc
            have hall' : ∀ c ∈ cs, ∃ b', isi1 B.T.kit t c = some b' := fun c hc => Option.isSome_iff_exists.mp (List.all_eq_true.mp hall c hc)
            have hg : ∀ g, t = .glo g → ∃ p, B.T.kit.anc[g]? = some p := fun g e => by
              cases cs with
              | nil => cases hne
              | cons c0 cr =>
                obtain ⟨b', hb'⟩ := hall' c0 (List.mem_cons_self ..)
                rw [e] at hb'
                exact isi1_glo hb'
            obtain ⟨tv, htv, hz⟩ := tyA_ok BO R rx et hg
            obtain ⟨ws, pw, kw⟩ := isiAny_ok BO htv eb rs hall'
            exact .inr ⟨v, p, us, tv, ws, b, rfl, hs, pw, hz, kw, q _ _ _ Ext.refl R rfl⟩
          · exact q.elim
        · exact q.elim
      · split at q
        · rename_i b eb
          have hg : ∀ g, t = .glo g → ∃ p, B.T.kit.anc[g]? = some p := fun g e => by
            rw [e] at eb
            exact isi1_glo eb
          obtain ⟨tv, htv, hz⟩ := tyA_ok BO R rx et hg
          obtain ⟨u, hu, hcv⟩ := cls_of eb rc
          exact .inl ⟨v, w, tv, u, b, rfl, hcv, hz, BO.kit _ _ _ _ _ eb htv hu, q _ _ _ Ext.refl R rfl⟩
        · exact q.elim
    · exact q.elim
  · exact q.elim
abbrev rLenA (K : PySem.W.Frag) : List V → Hp → VK → Prop := fun xs H Q => (∃ p ys, xs = [.ref p] ∧ (SqL K H p ys ∨ SqT K H p ys) ∧ Q (.int ys.length) H) ∨ ∃ a kvs, xs = [V.ref a] ∧ Rd H a (.dK kvs) ∧ Q (.int kvs.length) H
theorem RelK.length {S : Sc} {ρ : Rho} {H : Hp} : ∀ {xs : List (A × A)} {vs : List (Key × V)}, RelK S ρ H xs vs → vs.length = xs.length
  | [], _, h => by rw [show _ = [] from h]; rfl
  | (_, _) :: _, _, ⟨c, v, r, h1, _, _, h4⟩ => by rw [h1, List.length_cons, List.length_cons, RelK.length h4]
theorem len_ok {ρ : Rho} {h : Hh} {H : Hp} {as : List A} {vs : List V} {Q : VK} (R : Rep B.S ρ h H) (ra : Rels B.S ρ H as vs) (q : (evBi B.T.kit .len as h).All (QW B.S ρ H Q) (XW B.S ρ H E)) : rLenA B.S.K vs H Q := by
  unfold evBi at q
  split at q
  all_goals (rename_i hb; try cases hb)
  · rename_i x
    obtain ⟨v, r1, rfl, rx, e⟩ := ra
    rw [show r1 = [] from e]
    split at q
    · rename_i ys
      obtain ⟨p, us, rfl, hs, rs⟩ := rx
      exact .inl ⟨p, us, rfl, .inr hs, by rw [Rels.length rs]; exact q _ _ _ Ext.refl R rfl⟩
    · split at q
      · rename_i l ys g
        obtain ⟨p, us, rfl, _, hs, rs⟩ := lst_at R rx g
        exact .inl ⟨p, us, rfl, .inl (SqL.of hs), by rw [Rels.length rs]; exact q _ _ _ Ext.refl R rfl⟩
      · rename_i l kvs g
        obtain ⟨p, rfl, _, o, us, hs, rs⟩ := cell_at R rx g
        exact .inr ⟨p, us, rfl, .inr ⟨o, hs⟩, by rw [RelK.length rs]; exact q _ _ _ Ext.refl R rfl⟩
      · exact q.elim
    · exact q.elim
  · exact q.elim
theorem bools_ok {S : Sc} {ρ : Rho} {H : Hp} : ∀ {xs : List A} {bs : List Bool} {vs : List V}, boolsOf xs = some bs → Rels S ρ H xs vs → vs = bs.map V.bl
  | [], _, _, e, rs => by cases e; exact rs
  | .bl b :: r, bs, _, e, ⟨v, vr, h1, h2, h3⟩ => by
    unfold boolsOf at e
    cases q : boolsOf r with
    | none => rw [q] at e; cases e
    | some br =>
      rw [q] at e
      cases e
      rw [h1, show v = V.bl b from h2, bools_ok q h3]
      rfl
  | .non :: _, _, _, e, _ => by cases e
  | .int _ :: _, _, _, e, _ => by cases e
  | .str _ :: _, _, _, e, _ => by cases e
  | .ty _ :: _, _, _, e, _ => by cases e
  | .loc _ :: _, _, _, e, _ => by cases e
  | .glo _ :: _, _, _, e, _ => by cases e
  | .tup _ :: _, _, _, e, _ => by cases e
theorem lstOf_ok {ρ : Rho} {h : Hh} {H : Hp} {x : A} {xs : List A} {v : V} (R : Rep B.S ρ h H) (rx : Rel B.S ρ H x v) (e : lstOf x h = some xs) : ∃ a vs, v = .ref a ∧ H a = some (.lst vs) ∧ Rels B.S ρ H xs vs := by
  unfold lstOf at e
  split at e
  · split at e
    · rename_i l ys g
      cases e
      obtain ⟨p, us, rfl, _, hs, rs⟩ := lst_at R rx g
      exact ⟨p, us, rfl, hs, rs⟩
    · cases e
  · cases e
theorem allB_ok {ρ : Rho} {h : Hh} {H : Hp} {as : List A} {vs : List V} {Q : VK} (R : Rep B.S ρ h H) (ra : Rels B.S ρ H as vs) (q : (evBi B.T.kit .all as h).All (QW B.S ρ H Q) (XW B.S ρ H E)) : rAll B.S.K vs H Q := by
  unfold evBi at q
  split at q
  all_goals (rename_i hb; try cases hb)
  · rename_i x
    obtain ⟨v, r1, rfl, rx, e⟩ := ra
    rw [show r1 = [] from e]
    split at q
    · rename_i bs e
      cases e1 : lstOf x h with
      | none => rw [e1] at e; cases e
      | some xs =>
        rw [e1, Option.bind_some] at e
        obtain ⟨p, us, rfl, hs, rs⟩ := lstOf_ok R rx e1
        rw [bools_ok e rs] at hs
        exact ⟨p, bs, rfl, SqL.of hs, q _ _ _ Ext.refl R rfl⟩
    · exact q.elim
  · exact q.elim
theorem anyB_ok {ρ : Rho} {h : Hh} {H : Hp} {as : List A} {vs : List V} {Q : VK} (R : Rep B.S ρ h H) (ra : Rels B.S ρ H as vs) (q : (evBi B.T.kit .any as h).All (QW B.S ρ H Q) (XW B.S ρ H E)) : rAny B.S.K vs H Q := by
  unfold evBi at q
  split at q
  all_goals (rename_i hb; try cases hb)
  · rename_i x
    obtain ⟨v, r1, rfl, rx, e⟩ := ra
    rw [show r1 = [] from e]
    split at q
    · rename_i bs e
      cases e1 : lstOf x h with
      | none => rw [e1] at e; cases e
      | some xs =>
        rw [e1, Option.bind_some] at e
        obtain ⟨p, us, rfl, hs, rs⟩ := lstOf_ok R rx e1
        rw [bools_ok e rs] at hs
        exact ⟨p, bs, rfl, SqL.of hs, q _ _ _ Ext.refl R rfl⟩
    · exact q.elim
  · exact q.elim
end
end EV
set_option Elab.async false
set_option linter.all false
set_option maxRecDepth 100000
set_option maxHeartbeats 4000000
namespace EV
open PySem PySem.Spec PyProof.Rows L2 ER
section
variable {B : Bs} {k : Nat} {r : Rec} {c : Cc} {X : Cx} {E : XK} {call : Nat → List A → Hh → Out A}
/-! ### tests by values -/
theorem tT_E {ev : Sl → Hh → Out A} {σ : L2.St} {H : Hp} {Q : Bool → Hp → Prop} (q : tT B.S E ev σ H Q) : tE B.S E ev σ H (fun x H1 => ∃ b, x = .bl b ∧ Q b H1) := by
  obtain ⟨ρ, h, s, R, rs, q⟩ := q
  refine ⟨ρ, h, s, R, rs, q.mono (fun a h1 z ρ1 H1 v e1 R1 rv => ?_) fun _ _ _ y => y⟩
  obtain ⟨b, rfl, z⟩ := z
  exact ⟨b, rv, z ρ1 H1 e1 R1⟩
theorem plain_true {e : Expr} {env : Env} (h : plainT e = true) (whole : Sem Value) : isTrue e env whole = (do let v ← whole; standAt e.pos; holding [v] (truthy v)) := by
  cases e with
  | UnaryOp op a p => cases op <;> first | rfl | cases h
  | BoolOp _ _ _ => cases h
  | IfExp _ _ _ _ => cases h
  | Compare _ _ _ _ => cases h
  | _ => rfl
theorem pt_plain {e : Expr} {ev : Sl → Hh → Out A} (hp : plainT e = true) (h : PE X e (tE B.S E ev)) : PT X e (tT B.S E ev) :=
  PT.imp (pt_val h (plain_true hp)) fun _ _ _ q => tT_E q
theorem pw_of {op : BoolOp} {es : List Expr} {pos : Pos} {t : TT} (h : PT X (.BoolOp op es pos) t) : PW X (.BoolOp op es pos) t := ⟨fun _ pins s σ H Q I q => h.run pins s σ H Q I q⟩
theorem noSup_base {o : Expr} {n : Str} {env : Env} (h : noSup o = true) : attributeBase o n env (eval o env) = eval o env := by
  unfold attributeBase
  split
  · cases h
  · rfl
theorem Ok.gl (O : Ok B k c X E) {x : Str} (h : kindIs c.sc x .globalImplicit = true) : Gl X x := O.gi x (kindIs_ok h)
theorem Ok.fr (O : Ok B k c X E) (BO : BOk B) {x : Str} (h : B.T.free.contains x = true) : X.mg x = none := by
  rw [O.mg]
  exact BO.free x h
/-! ### names and constants -/
theorem e_var (O : Ok B k c X E) {x : Str} {pos : Pos} {i : Nat} (h1 : c.N[i]? = some x) (h2 : visB c.sc x = true) (h3 : okName x = true) : PE X (.Name x pos) (tE B.S E (stepE B.T.kit call r (.var i))) :=
  PE.imp (pe_var (i := i) (by rw [O.N]; exact h1) (O.vis h2) (okName_d h3).1 (okName_d h3).2) fun σ H Q q => by
    obtain ⟨ρ, h, s, R, rs, q⟩ := q
    unfold stepE at q
    dsimp only at q
    split at q
    · rename_i a e
      obtain ⟨v, q1, q2⟩ := rs.2 i a e
      exact ⟨v, q1, q ρ H v Ext.refl R q2⟩
    · exact q.elim
theorem e_cst {e : Expr} {v : V} {a : A} (h : PE X e (tC v)) (hr : ∀ ρ H, Rel B.S ρ H a v) : PE X e (tE B.S E (stepE B.T.kit call r (.cst a))) :=
  PE.imp h fun σ H Q q => by
    obtain ⟨ρ, h, s, R, rs, q⟩ := q
    exact q ρ H v Ext.refl R (hr ρ H)
theorem ty_boot {x : Str} {n : Nat} (h : tyOf? x = some n) : bootBuiltins x = some (.type (tyN n)) ∧ x ≠ "__name__" ∧ (x == ("__debug__" : Str)) = false := by
  unfold tyOf? at h
  repeat' split at h
  all_goals first
    | (cases h; rename_i e; rw [eq_of_beq e]; exact ⟨by decide +kernel, by decide +kernel, by decide +kernel⟩)
    | cases h
/-! ### operators -/
theorem e_bin (O : Ok B k c X E) (I : Snd B k r) {a b : Expr} {op : Operator} {o : Bop} {x y : EV.E} {pos : Pos} (h : opOf op = some o) (h1 : Cp B.T c a x) (h2 : Cp B.T c b y) : PE X (.BinOp a op b pos) (tE B.S E (stepE B.T.kit call r (.bin o x y))) := by
  have ha := I.pe O h1
  have hb := I.pe O h2
  cases op <;> first | (cases h) | skip
  · exact PE.imp (pe_op (OpR.or op_add op_cat) ha hb) fun σ H Q q => two add_ok q
  · exact PE.imp (pe_op op_sub ha hb) fun σ H Q q => two sub_ok q
  · exact PE.imp (pe_op op_mul ha hb) fun σ H Q q => two mul_ok q
  · exact PE.imp (pe_op op_modN ha hb) fun σ H Q q => two mod_ok q
  · exact PE.imp (pe_op op_pow ha hb) fun σ H Q q => two pow_ok q
  · exact PE.imp (pe_op op_fdivN ha hb) fun σ H Q q => two fdiv_ok q
end
end EV
set_option Elab.async false
set_option linter.all false
set_option maxRecDepth 100000
set_option maxHeartbeats 4000000
namespace EV
open PySem PySem.Spec PyProof.Rows L2 ER
section
variable {B : Bs} {k : Nat} {r : Rec} {c : Cc} {X : Cx} {E : XK} {call : Nat → List A → Hh → Out A}
theorem cmpE {op : CmpOp} {o : Cop} (h : cmpOf op = some o) {x y : EV.E} {s : Sl} {h0 : Hh} : stepE B.T.kit call r (.cmp o x y) s h0 = ((r.e x s h0).bind fun a h1 => (r.e y s h1).bind fun b h2 => evCmp o a b h2) := by
  cases op <;> first | (cases h; rfl) | cases h
/-- a comparison, as a value and as a test -/
theorem e_cmp (O : Ok B k c X E) (I : Snd B k r) {a b : Expr} {op : CmpOp} {o : Cop} {x y : EV.E} {pos : Pos} (h : cmpOf op = some o) (hm : behindInMarks op b = false) (h1 : Cp B.T c a x) (h2 : Cp B.T c b y) :
    PE X (.Compare a [op] [b] pos) (tE B.S E (stepE B.T.kit call r (.cmp o x y))) ∧ PT X (.Compare a [op] [b] pos) (tT B.S E (stepE B.T.kit call r (.cmp o x y))) := by
  have ha := I.pe O h1
  have hb := I.pe O h2
  have hu : X.A.units + 64 < cLine := O.room.units
  have hfn : stepE B.T.kit call r (.cmp o x y) = fun s h0 => ((r.e x s h0).bind fun a h1 => (r.e y s h1).bind fun b h2 => evCmp o a b h2) := by funext s h0; exact cmpE h
  rw [hfn]
  cases op <;> first | (cases h; done) | skip
  · cases h
    have ho : OpR X (compareOp .Eq) (rEqD B.S.K) := by rw [← O.K]; exact op_eqD hu
    exact ⟨PE.imp (pe_cmpR ho ha hb (nomark _)) fun σ H Q q => two eq_ok q, PT.imp (pt_cmpR ho ha hb (nomark _)) fun σ H Q q => two eq_ok (tT_E q)⟩
  · cases h
    have ho : OpR X (compareOp .NotEq) (rNeD B.S.K) := by rw [← O.K]; exact op_neD hu
    exact ⟨PE.imp (pe_cmpR ho ha hb (nomark _)) fun σ H Q q => two ne_ok q, PT.imp (pt_cmpR ho ha hb (nomark _)) fun σ H Q q => two ne_ok (tT_E q)⟩
  · cases h
    exact ⟨PE.imp (pe_cmpR op_lt ha hb (nomark _)) fun σ H Q q => two lt_ok q, PT.imp (pt_cmpR op_lt ha hb (nomark _)) fun σ H Q q => two lt_ok (tT_E q)⟩
  · cases h
    exact ⟨PE.imp (pe_cmpR op_le ha hb (nomark _)) fun σ H Q q => two le_ok q, PT.imp (pt_cmpR op_le ha hb (nomark _)) fun σ H Q q => two le_ok (tT_E q)⟩
  · cases h
    exact ⟨PE.imp (pe_cmpR op_gt ha hb (nomark _)) fun σ H Q q => two gt_ok q, PT.imp (pt_cmpR op_gt ha hb (nomark _)) fun σ H Q q => two gt_ok (tT_E q)⟩
  · cases h
    exact ⟨PE.imp (pe_cmpR op_ge ha hb (nomark _)) fun σ H Q q => two ge_ok q, PT.imp (pt_cmpR op_ge ha hb (nomark _)) fun σ H Q q => two ge_ok (tT_E q)⟩
  · cases h
    exact ⟨PE.imp (pe_cmp (pc_din (by omega) ha hb) hm) fun σ H Q q => two in_ok q, PT.imp (pt_cmp (pc_din (by omega) ha hb) hm) fun σ H Q q => two in_ok (tT_E q)⟩
  · cases h
    exact ⟨PE.imp (pe_cmp (pc_dnotin (by omega) ha hb) hm) fun σ H Q q => two nin_ok q, PT.imp (pt_cmp (pc_dnotin (by omega) ha hb) hm) fun σ H Q q => two nin_ok (tT_E q)⟩
/-! ### is None -/
theorem isN_rel {ρ : Rho} {H : Hp} {a : A} {v : V} (rv : Rel B.S ρ H a v) : decide (v = .non) = isNonA a := by
  cases a with
  | non => rw [show v = V.non from rv]; rfl
  | bl b => rw [show v = V.bl b from rv]; rfl
  | int b => rw [show v = V.int b from rv]; rfl
  | str b => rw [show v = V.str b from rv]; rfl
  | ty b => rw [show v = V.ty _ from rv]; rfl
  | loc l => obtain ⟨p, _, rfl⟩ := rv; rfl
  | glo g => obtain ⟨p, _, rfl⟩ := rv; rfl
  | tup xs => obtain ⟨p, _, rfl, _⟩ := rv; rfl
theorem q_isN {x y : EV.E} {σ : L2.St} {H : Hp} {Q : VK} (q : tE B.S E (stepE B.T.kit call r (.cmp .isN x y)) σ H Q) : tIsN (tE B.S E (r.e x)) σ H Q := by
  obtain ⟨ρ, h, s, R, rs, q⟩ := q
  refine ⟨ρ, h, s, R, rs, go q fun a h1 q1 ρ1 H1 v e1 R1 rv => ?_⟩
  dsimp only
  rw [isN_rel rv]
  exact q1 ρ1 H1 _ e1 R1 rfl
theorem q_notN {x y : EV.E} {σ : L2.St} {H : Hp} {Q : VK} (q : tE B.S E (stepE B.T.kit call r (.cmp .notN x y)) σ H Q) : tNotN (tE B.S E (r.e x)) σ H Q := by
  obtain ⟨ρ, h, s, R, rs, q⟩ := q
  refine ⟨ρ, h, s, R, rs, go q fun a h1 q1 ρ1 H1 v e1 R1 rv => ?_⟩
  dsimp only
  rw [isN_rel rv]
  exact q1 ρ1 H1 _ e1 R1 rfl
theorem e_isN (O : Ok B k c X E) (I : Snd B k r) {a : Expr} {x y : EV.E} {j : Nat} {pos p2 : Pos} (h1 : Cp B.T c a x) :
    PE X (.Compare a [.Is] [.Constant .none j p2] pos) (tE B.S E (stepE B.T.kit call r (.cmp .isN x y))) ∧ PT X (.Compare a [.Is] [.Constant .none j p2] pos) (tT B.S E (stepE B.T.kit call r (.cmp .isN x y))) :=
  ⟨PE.imp (pe_cmp (pc_isN (I.pe O h1)) rfl) fun _ _ _ q => q_isN q, PT.imp (pt_cmp (pc_isN (I.pe O h1)) rfl) fun _ _ _ q => q_isN (tT_E q)⟩
theorem e_notN (O : Ok B k c X E) (I : Snd B k r) {a : Expr} {x y : EV.E} {j : Nat} {pos p2 : Pos} (h1 : Cp B.T c a x) :
    PE X (.Compare a [.IsNot] [.Constant .none j p2] pos) (tE B.S E (stepE B.T.kit call r (.cmp .notN x y))) ∧ PT X (.Compare a [.IsNot] [.Constant .none j p2] pos) (tT B.S E (stepE B.T.kit call r (.cmp .notN x y))) :=
  ⟨PE.imp (pe_cmp (pc_notN (I.pe O h1)) rfl) fun _ _ _ q => q_notN q, PT.imp (pt_cmp (pc_notN (I.pe O h1)) rfl) fun _ _ _ q => q_notN (tT_E q)⟩
/-! ### and, or, not, if -/
theorem bl_of {a : A} {b : Bool} {ρ : Rho} {H : Hp} {v : V} (e : a = .bl b) (rv : Rel B.S ρ H a v) : v = .bl b := by subst e; exact rv
theorem q_and {x y : EV.E} {σ : L2.St} {H : Hp} {Q : VK} (q : tE B.S E (stepE B.T.kit call r (.and x y)) σ H Q) : tAndV (tE B.S E (r.e x)) (tE B.S E (r.e y)) σ H Q := by
  obtain ⟨ρ, h, s, R, rs, q⟩ := q
  refine ⟨ρ, h, s, R, rs, go q fun a h1 q1 ρ1 H1 v e1 R1 rv => ?_⟩
  split at q1
  · exact ⟨true, rv, by rw [if_pos rfl]; exact ⟨ρ1, h1, s, R1, rs.mono e1, all_mono e1 (fun _ _ y => y.mono e1) q1⟩⟩
  · exact ⟨false, rv, by rw [if_neg Bool.false_ne_true]; exact q1 ρ1 H1 _ e1 R1 rfl⟩
  · exact q1.elim
theorem q_or {x y : EV.E} {σ : L2.St} {H : Hp} {Q : VK} (q : tE B.S E (stepE B.T.kit call r (.or x y)) σ H Q) : tOrV (tE B.S E (r.e x)) (tE B.S E (r.e y)) σ H Q := by
  obtain ⟨ρ, h, s, R, rs, q⟩ := q
  refine ⟨ρ, h, s, R, rs, go q fun a h1 q1 ρ1 H1 v e1 R1 rv => ?_⟩
  split at q1
  · exact ⟨false, rv, by rw [if_neg Bool.false_ne_true]; exact ⟨ρ1, h1, s, R1, rs.mono e1, all_mono e1 (fun _ _ y => y.mono e1) q1⟩⟩
  · exact ⟨true, rv, by rw [if_pos rfl]; exact q1 ρ1 H1 _ e1 R1 rfl⟩
  · exact q1.elim
theorem q_not {x : EV.E} {σ : L2.St} {H : Hp} {Q : VK} (q : tE B.S E (stepE B.T.kit call r (.not x)) σ H Q) : tNotV (tE B.S E (r.e x)) σ H Q := by
  obtain ⟨ρ, h, s, R, rs, q⟩ := q
  refine ⟨ρ, h, s, R, rs, go q fun a h1 q1 ρ1 H1 v e1 R1 rv => ?_⟩
  split at q1
  · rename_i b
    exact ⟨b, rv, q1 ρ1 H1 _ e1 R1 rfl⟩
  · exact q1.elim
/-- the same as tests -/
theorem t_and {x y : EV.E} {σ : L2.St} {H : Hp} {Q : Bool → Hp → Prop} (q : tT B.S E (stepE B.T.kit call r (.and x y)) σ H Q) : tAnd (tT B.S E (r.e x)) (tT B.S E (r.e y)) σ H Q := by
  obtain ⟨ρ, h, s, R, rs, q⟩ := q
  refine ⟨ρ, h, s, R, rs, go q fun a h1 q1 => ?_⟩
  split at q1
  · exact ⟨true, rfl, fun ρ1 H1 e1 R1 => by dsimp only; rw [if_pos rfl]; exact ⟨ρ1, h1, s, R1, rs.mono e1, all_mono e1 (fun _ _ y => y.mono e1) q1⟩⟩
  · refine ⟨false, rfl, fun ρ1 H1 e1 R1 => ?_⟩
    dsimp only
    rw [if_neg Bool.false_ne_true]
    obtain ⟨b, e, z⟩ := q1
    cases e
    exact z ρ1 H1 e1 R1
  · exact q1.elim
theorem t_or {x y : EV.E} {σ : L2.St} {H : Hp} {Q : Bool → Hp → Prop} (q : tT B.S E (stepE B.T.kit call r (.or x y)) σ H Q) : tOr (tT B.S E (r.e x)) (tT B.S E (r.e y)) σ H Q := by
  obtain ⟨ρ, h, s, R, rs, q⟩ := q
  refine ⟨ρ, h, s, R, rs, go q fun a h1 q1 => ?_⟩
  split at q1
  · exact ⟨false, rfl, fun ρ1 H1 e1 R1 => by dsimp only; rw [if_neg Bool.false_ne_true]; exact ⟨ρ1, h1, s, R1, rs.mono e1, all_mono e1 (fun _ _ y => y.mono e1) q1⟩⟩
  · refine ⟨true, rfl, fun ρ1 H1 e1 R1 => ?_⟩
    dsimp only
    rw [if_pos rfl]
    obtain ⟨b, e, z⟩ := q1
    cases e
    exact z ρ1 H1 e1 R1
  · exact q1.elim
theorem t_not {x : EV.E} {σ : L2.St} {H : Hp} {Q : Bool → Hp → Prop} (q : tT B.S E (stepE B.T.kit call r (.not x)) σ H Q) : tNot (tT B.S E (r.e x)) σ H Q := by
  obtain ⟨ρ, h, s, R, rs, q⟩ := q
  refine ⟨ρ, h, s, R, rs, go q fun a h1 q1 => ?_⟩
  split at q1
  · rename_i b
    obtain ⟨b', e, z⟩ := q1
    cases e
    exact ⟨b, rfl, fun ρ1 H1 e1 R1 => z ρ1 H1 e1 R1⟩
  · exact q1.elim
theorem q_ife {t x y : EV.E} {σ : L2.St} {H : Hp} {Q : VK} (q : tE B.S E (stepE B.T.kit call r (.ife t x y)) σ H Q) : tIf (tT B.S E (r.e t)) (tE B.S E (r.e x)) (tE B.S E (r.e y)) σ H Q := by
  obtain ⟨ρ, h, s, R, rs, q⟩ := q
  refine ⟨ρ, h, s, R, rs, go q fun a h1 q1 => ?_⟩
  split at q1
  · exact ⟨true, rfl, fun ρ1 H1 e1 R1 => by dsimp only; rw [if_pos rfl]; exact ⟨ρ1, h1, s, R1, rs.mono e1, all_mono e1 (fun _ _ y => y.mono e1) q1⟩⟩
  · exact ⟨false, rfl, fun ρ1 H1 e1 R1 => by dsimp only; rw [if_neg Bool.false_ne_true]; exact ⟨ρ1, h1, s, R1, rs.mono e1, all_mono e1 (fun _ _ y => y.mono e1) q1⟩⟩
  · exact q1.elim
theorem t_ife {t x y : EV.E} {σ : L2.St} {H : Hp} {Q : Bool → Hp → Prop} (q : tT B.S E (stepE B.T.kit call r (.ife t x y)) σ H Q) : tT B.S E (r.e t) σ H fun b H1 => if b = true then tT B.S E (r.e x) σ H1 Q else tT B.S E (r.e y) σ H1 Q := by
  obtain ⟨ρ, h, s, R, rs, q⟩ := q
  refine ⟨ρ, h, s, R, rs, go q fun a h1 q1 => ?_⟩
  split at q1
  · exact ⟨true, rfl, fun ρ1 H1 e1 R1 => by dsimp only; rw [if_pos rfl]; exact ⟨ρ1, h1, s, R1, rs.mono e1, all_mono e1 (fun _ _ y => y.mono e1) q1⟩⟩
  · exact ⟨false, rfl, fun ρ1 H1 e1 R1 => by dsimp only; rw [if_neg Bool.false_ne_true]; exact ⟨ρ1, h1, s, R1, rs.mono e1, all_mono e1 (fun _ _ y => y.mono e1) q1⟩⟩
  · exact q1.elim
theorem pt_ifE {t a b : Expr} {tt ta tb : TT} {pos : Pos} (h : PT X t tt) (ha : PT X a ta) (hb : PT X b tb) : PT X (.IfExp t a b pos) (fun σ H Q => tt σ H fun b H1 => if b = true then ta σ H1 Q else tb σ H1 Q) := by
  refine ⟨fun pins s σ H Q I hq => ?_⟩
  show wpAny _ _ (isTrue t X.env (eval t X.env) >>= fun z => if z = true then isTrue a X.env (eval a X.env) else isTrue b X.env (eval b X.env)) _ _ _
  refine wpAny_bind (thn (h.run pins s σ H _ I hq) fun z s1 ⟨H1, I1, q1⟩ => ?_)
  cases z with
  | true => exact ha.run pins s1 σ H1 Q I1 q1
  | false => exact hb.run pins s1 σ H1 Q I1 q1
/-! ### displays -/
theorem q_tup {xs : List EV.E} {σ : L2.St} {H : Hp} {Q : VK} (q : tE B.S E (stepE B.T.kit call r (.tup xs)) σ H Q) : tTup (tAs B.S E (evEs r xs)) σ H Q := by
  obtain ⟨ρ, h, s, R, rs, q⟩ := q
  refine ⟨ρ, h, s, R, rs, go q fun as h1 q1 ρ1 H1 vs e1 R1 rv => ?_⟩
  split at q1
  · rename_i hl
    refine ⟨by rw [Rels.length rv]; exact Nat.le_trans hl (by decide), fun p n => ?_⟩
    exact q1 ρ1 _ _ (e1.trans (Ext.more n)) (R1.more n) ⟨p, vs, rfl, .inl (.inl upd_same), Rels.mono (Ext.more n) rv⟩
  · exact q1.elim
theorem q_lst {xs : List EV.E} {σ : L2.St} {H : Hp} {Q : VK} (q : tE B.S E (stepE B.T.kit call r (.lst xs)) σ H Q) : tLst (tAs B.S E (evEs r xs)) σ H Q := by
  obtain ⟨ρ, h, s, R, rs, q⟩ := q
  refine ⟨ρ, h, s, R, rs, go q fun as h1 q1 ρ1 H1 vs e1 R1 rv => ?_⟩
  have z := fun (p : Addr) (n : H1 p = none) => newL_ok (Q := Q) R1 rv (all_mono e1 (fun _ _ y => y.mono e1) q1) n
  unfold newL at q1
  split at q1
  · rename_i hl
    exact ⟨by rw [Rels.length rv]; exact Nat.le_trans hl (by decide), fun p n => (z p n).2⟩
  · exact q1.elim
/-! ### arguments, then a call by values -/
theorem q_args {xs : List EV.E} {f : List A → Hh → Out A} {rr : List V → Hp → VK → Prop} (hop : ∀ {ρ h H as vs Q}, Rep B.S ρ h H → Rels B.S ρ H as vs → (f as h).All (QW B.S ρ H Q) (XW B.S ρ H E) → rr vs H Q)
    {σ : L2.St} {H : Hp} {Q : VK} (q : tE B.S E (fun s h => (evEs r xs s h).bind fun as h1 => f as h1) σ H Q) : tCB rr (tAs B.S E (evEs r xs)) σ H Q := by
  obtain ⟨ρ, h, s, R, rs, q⟩ := q
  refine ⟨ρ, h, s, R, rs, go q fun as h1 q1 ρ1 H1 vs e1 R1 rv => ?_⟩
  exact hop R1 rv (all_mono e1 (fun _ _ y => y.mono e1) q1)
theorem call_lenF : CallR X (.builtin "len") (fun xs H Q => ∃ a kvs, xs = [V.ref a] ∧ Rd H a (.dK kvs) ∧ Q (.int kvs.length) H) := by
  intro pins s σ H xs us Q I rx h
  obtain ⟨a, kvs, rfl, e, q⟩ := h
  cases rx with
  | cons r1 r2 =>
    cases r2
    cases r1
    exact d_len I e fun t s' I' => ⟨.int kvs.length, H, I', ⟨t, rfl⟩, q⟩
theorem e_bi (BO : BOk B) (O : Ok B k c X E) (I : Snd B k r) {f : Str} {e : Expr} {es : List Expr} {b : Bi} {xs : List EV.E} {p pos : Pos} (h1 : kindIs c.sc f .globalImplicit = true) (h2 : B.T.free.contains f = true) (h3 : biOf f = some b) (h4 : Cps B.T c (e :: es) xs) :
    PE X (.Call (.Name f p) (e :: es) [] pos) (tE B.S E (stepE B.T.kit call r (.bi b xs))) := by
  have ha := pas O I h4
  have hst : starEach (e :: es) X.env = (false, eval e X.env) :: starEach es X.env := by cases h4 with | cons z _ _ => exact star_cons z
  have hpl : (backTo pos (starEach es X.env)).any (·.1) = false := by cases h4 with | cons _ _ z => exact star_any z
  have hg := O.gl h1
  have hm := O.fr BO h2
  unfold biOf at h3
  split at h3
  · rename_i ef
    cases h3
    obtain rfl := eq_of_beq ef
    have hr : CallR X (.builtin "len") (rLenA B.S.K) := by rw [← O.K]; exact CallR.or call_len_seq call_lenF
    exact PE.imp (pe_callB hr hg hm (by decide +kernel) ha (by decide +kernel) (by decide +kernel) hst hpl) fun _ _ _ q => q_args (f := evBi B.T.kit .len) len_ok q
  split at h3
  · rename_i ef
    cases h3
    obtain rfl := eq_of_beq ef
    have hr : CallR X (.builtin "isinstance") (fun vs H Q => rIsZ B.S.K vs H Q ∨ rIsZT B.S.K vs H Q) := by rw [← O.K]; exact CallR.or call_isZ call_isZT
    exact PE.imp (pe_callB hr hg hm (by decide +kernel) ha (by decide +kernel) (by decide +kernel) hst hpl) fun _ _ _ q => q_args (f := evBi B.T.kit .isi) (isi_ok BO) q
  split at h3
  · rename_i ef
    cases h3
    obtain rfl := eq_of_beq ef
    have hr : CallR X (.builtin "all") (rAll B.S.K) := by rw [← O.K]; exact cr_all O.calm
    exact PE.imp (pe_callB hr hg hm (by decide +kernel) ha (by decide +kernel) (by decide +kernel) hst hpl) fun _ _ _ q => q_args (f := evBi B.T.kit .all) allB_ok q
  split at h3
  · rename_i ef
    cases h3
    obtain rfl := eq_of_beq ef
    have hr : CallR X (.builtin "any") (rAny B.S.K) := by rw [← O.K]; exact cr_any O.calm
    exact PE.imp (pe_callB hr hg hm (by decide +kernel) ha (by decide +kernel) (by decide +kernel) hst hpl) fun _ _ _ q => q_args (f := evBi B.T.kit .any) anyB_ok q
  · cases h3
end
end EV
set_option Elab.async false
set_option linter.all false
set_option maxRecDepth 100000
set_option maxHeartbeats 4000000
namespace EV
open PySem PySem.Spec PyProof.Rows L2 ER
theorem Ext.newN {S : Sc} {ρ : Rho} {h : Hh} {H H' : Hp} {p : Addr} (R : Rep S ρ h H) (k : LamX.ExtN H H') : Ext S ρ H (rhoNew ρ h.nx p) H' := ⟨fun l a z => by
    unfold rhoNew
    rw [if_neg (fun e => by rw [e, R.nxNone] at z; cases z)]
    exact z, fun a vs q => by
  rcases q with (q | ⟨ob, q⟩) | q
  · exact .inl (.inl (k _ _ q nofun))
  · exact .inl (.inr ⟨ob, k _ _ q nofun⟩)
  · exact .inr q, fun a o u q => k _ _ q nofun⟩
theorem Ext.new' {S : Sc} {ρ : Rho} {h : Hh} {H H' : Hp} {p : Addr} (R : Rep S ρ h H) (k : ∀ b o, H b = some o → H' b = some o) : Ext S ρ H (rhoNew ρ h.nx p) H' := Ext.newN R (LamX.ExtN.of k)
section
variable {B : Bs} {k : Nat} {r : Rec} {c : Cc} {X : Cx} {E : XK} {call : Nat → List A → Hh → Out A}
/-! ### calls of defs -/
theorem q_call {f n : Nat} {xs : List EV.E} {σ : L2.St} {H : Hp} {Q : VK} (q : tE B.S E (stepE B.T.kit call r (.call f n xs)) σ H Q) : tCall (spF B call f n) [] E (tAs B.S E (evEs r xs)) σ H Q := by
  obtain ⟨ρ, h, s, R, rs, q⟩ := q
  refine ⟨ρ, h, s, R, rs, go q fun as h1 q1 ρ1 H1 vs e1 R1 rv => ?_⟩
  split at q1
  · rename_i hl
    rw [List.append_nil]
    exact ⟨by rw [Rels.length rv]; exact hl, ρ1, h1, as, R1, rv, all_mono e1 (fun _ _ y => y.mono e1) q1⟩
  · exact q1.elim
theorem e_call (CO : CallOk B k call) (O : Ok B k c X E) (I : Snd B k r) {f : Str} {es : List Expr} {n ar : Nat} {xs : List EV.E} {p pos : Pos} (h1 : kindIs c.sc f .globalImplicit = true) (h2 : B.T.gl.lookup f = some (.fn n ar)) (h3 : okName f = true) (h4 : Cps B.T c es xs) :
    PE X (.Call (.Name f p) es [] pos) (tE B.S E (stepE B.T.kit call r (.call n ar xs))) := by
  have ha := pas O I h4
  obtain ⟨a, fd, ps, hl, hm, hk, F, hb⟩ := CO.fn f n ar h2
  have F' : FnOk X.prog X.w X.K X.mg X.base (L2.CX X.prog X.w) k a fd ps (spF B call n ar) := by rw [O.P, O.w, O.K, O.mg, O.bs]; exact F
  have hm' : X.mg f = some (.ref a) := by rw [O.mg]; exact hm
  have hk' : PySem.W.keepIn X.K (.ref a) = true := by rw [O.K]; exact hk
  have hb' : Binds X.K fd ps [] := by rw [O.K]; exact hb
  cases h4 with
  | nil =>
    refine PE.imp (pe_call0 F' O.room (O.gl h1) hm' hk' hb' .nil O.pass (okName_d h3).1) fun σ H Q q => ?_
    obtain ⟨ρ, h, s, R, rs, q⟩ := q_call q
    exact q ρ H [] Ext.refl R rfl
  | cons z1 z2 z3 => exact PE.imp (pe_call F' O.room (O.gl h1) hm' hk' hb' .nil O.pass ha (okName_d h3).1 (star_cons z1) (star_any z3)) fun _ _ _ q => q_call q
/-! ### errors made -/
theorem q_err {kw : Bool} {C : Nat} {f : Str} {x : EV.E} {Ca : Addr} (g : B.S.G C = some Ca) {σ : L2.St} {H : Hp} {Q : VK} (q : tE B.S E (stepE B.T.kit call r (.err kw C f x)) σ H Q) : tErr Ca f (tCons (tE B.S E (r.e x)) tNil) σ H Q := by
  obtain ⟨ρ, h, s, R, rs, q⟩ := q
  refine ⟨ρ, h, s, R, rs, go q fun a h1 q1 ρ1 H1 v e1 R1 rv => ?_⟩
  refine ⟨v, rfl, fun p d np nd ne => ?_⟩
  have kk : ∀ b o, H1 b = some o → upd (upd H1 d (exd d [(f, v)])) p (exo p Ca (some d)) b = some o := fun b o z => by
    rw [upd_ne (ne_of_none z np), upd_ne (ne_of_none z nd)]
    exact z
  have e2 : Ext B.S ρ1 H1 (rhoNew ρ1 h1.nx p) (upd (upd H1 d (exd d [(f, v)])) p (exo p Ca (some d))) := Ext.new' R1 kk
  refine q1 _ _ _ (e1.trans e2) (R1.new' np kk ⟨Ca, g, .inr ⟨d, [(f, v)], upd_same, by rw [upd_ne ne]; exact upd_same, ⟨v, [], rfl, rv.mono e2, rfl⟩⟩⟩) ⟨p, by unfold rhoNew; rw [if_pos rfl], rfl⟩
theorem q_err0 {C : Nat} {Ca : Addr} (g : B.S.G C = some Ca) {σ : L2.St} {H : Hp} {Q : VK} (q : tE B.S E (stepE B.T.kit call r (.err0 C)) σ H Q) : tErr0 Ca σ H Q := by
  obtain ⟨ρ, h, s, R, rs, q⟩ := q
  intro p np
  exact q _ _ _ (Ext.new R np) (R.new np ⟨Ca, g, .inl ⟨rfl, upd_same⟩⟩) ⟨p, by unfold rhoNew; rw [if_pos rfl], rfl⟩
theorem e_err (BO : BOk B) (O : Ok B k c X E) (I : Snd B k r) {f : Str} {e : Expr} {x : EV.E} {n : Nat} {fl : Str} {p pos : Pos} (h1 : kindIs c.sc f .globalImplicit = true) (h2 : B.T.gl.lookup f = some (.err n fl)) (h3 : okName f = true) (h4 : notStar e = true) (h5 : Cp B.T c e x) :
    PE X (.Call (.Name f p) [e] [] pos) (tE B.S E (stepE B.T.kit call r (.err false n fl x))) := by
  obtain ⟨Ca, fI, fd, g, hm, T⟩ := BO.err f n fl h2
  have T' : Err1Ok X.prog X.w X.K X.mg X.base Ca fl fI fd := by rw [O.P, O.w, O.K, O.mg, O.bs]; exact T
  exact PE.imp (pe_err T' O.r2 (O.gl h1) (by rw [O.mg]; exact hm) (pa_cons (I.pe O h5) pa_nil (star_cons h4)) (okName_d h3).1 (star_cons h4)) fun _ _ _ q => q_err g q
theorem e_errK (BO : BOk B) (O : Ok B k c X E) (I : Snd B k r) {f : Str} {e : Expr} {x : EV.E} {n : Nat} {fl : Str} {p pos kp : Pos} (h1 : kindIs c.sc f .globalImplicit = true) (h2 : B.T.gl.lookup f = some (.err n fl)) (h3 : okName f = true) (h5 : Cp B.T c e x) :
    PE X (.Call (.Name f p) [] [⟨some fl, e, kp⟩] pos) (tE B.S E (stepE B.T.kit call r (.err true n fl x))) := by
  obtain ⟨Ca, fI, fd, g, hm, T⟩ := BO.err f n fl h2
  have T' : Err1Ok X.prog X.w X.K X.mg X.base Ca fl fI fd := by rw [O.P, O.w, O.K, O.mg, O.bs]; exact T
  exact PE.imp (pe_errK T' O.r2 (O.gl h1) (by rw [O.mg]; exact hm) (pk_cons (I.pe O h5) pk_nil) (okName_d h3).1) fun _ _ _ q => q_err g q
theorem e_err0 (BO : BOk B) (O : Ok B k c X E) {f : Str} {n : Nat} {p pos : Pos} (h1 : kindIs c.sc f .globalImplicit = true) (h2 : B.T.gl.lookup f = some (.err0 n)) (h3 : okName f = true) :
    PE X (.Call (.Name f p) [] [] pos) (tE B.S E (stepE B.T.kit call r (.err0 n))) := by
  obtain ⟨Ca, fI, fd, g, hm, T⟩ := BO.err0 f n h2
  have T' : Err0Ok X.prog X.w X.K X.mg X.base Ca fI fd := by rw [O.P, O.w, O.K, O.mg, O.bs]; exact T
  exact PE.imp (pe_err0 T' O.r2 (O.gl h1) (by rw [O.mg]; exact hm) (okName_d h3).1) fun _ _ _ q => q_err0 g q
/-! ### methods of lists, fields of errors -/
theorem q_mt {m : Mt} {rr : V → List V → Hp → VK → Prop} {x y : EV.E} (hop : ∀ {ρ h H a b v w Q}, Rep B.S ρ h H → Rel B.S ρ H a v → Rel B.S ρ H b w → (evMt m a [b] h).All (QW B.S ρ H Q) (XW B.S ρ H E) → rr v [w] H Q)
    {σ : L2.St} {H : Hp} {Q : VK} (q : tE B.S E (stepE B.T.kit call r (.mt m x [y])) σ H Q) : tBM B.S.K "list" rr (tE B.S E (r.e x)) (tCons (tE B.S E (r.e y)) tNil) σ H Q := by
  obtain ⟨ρ, h, s, R, rs, q⟩ := q
  refine ⟨ρ, h, s, R, rs, go q fun a h1 q1 ρ1 H1 v e1 R1 rv => ?_⟩
  split at q1
  · rename_i zs ez
    obtain ⟨p, us, rfl, hs, _⟩ := lstOf_ok R1 rv ez
    refine ⟨.inl ⟨rfl, us, SqL.of hs⟩, ρ1, h1, s, R1, rs.mono e1, ?_⟩
    have q2 := Out.all_bind (all_mono e1 (fun _ _ y => y) q1)
    unfold evEs at q2
    refine go q2 fun b h2 q3 ρ2 H2 w e2 R2 rw => ?_
    have q4 : (evMt m a [b] h2).All (QW B.S ρ H Q) (XW B.S ρ1 H1 E) := q3
    exact hop R2 (rv.mono e2) rw (all_mono e2 (fun _ _ y => (y.mono e1).mono e2) q4)
  · exact q1.elim
theorem app_ok {ρ : Rho} {h : Hh} {H : Hp} {a b : A} {v w : V} {Q : VK} (R : Rep B.S ρ h H) (ra : Rel B.S ρ H a v) (rb : Rel B.S ρ H b w) (q : (evMt .app a [b] h).All (QW B.S ρ H Q) (XW B.S ρ H E)) : rAppend v [w] H Q := by
  have q : (evApp a b h).All (QW B.S ρ H Q) (XW B.S ρ H E) := q
  unfold evApp at q
  split at q
  · rename_i l
    split at q
    · rename_i ys g
      split at q
      · rename_i hl
        obtain ⟨p, us, rfl, hp, hs, rsu⟩ := lst_at R ra g
        refine ⟨p, us, w, rfl, rfl, hs, by rw [Rels.length rsu]; exact Nat.lt_of_lt_of_le hl (by decide), ?_⟩
        exact q ρ _ _ (Ext.put hs True.intro) (R.put hp hs True.intro ⟨us ++ [w], upd_same, Rels.append (Rels.mono (Ext.put hs True.intro) rsu) (Rels.one (rb.mono (Ext.put hs True.intro)))⟩) rfl
      · exact q.elim
    · exact q.elim
  · exact q.elim
theorem ext_ok {ρ : Rho} {h : Hh} {H : Hp} {a b : A} {v w : V} {Q : VK} (R : Rep B.S ρ h H) (ra : Rel B.S ρ H a v) (rb : Rel B.S ρ H b w) (q : (evMt .ext a [b] h).All (QW B.S ρ H Q) (XW B.S ρ H E)) : rExtend v [w] H Q := by
  have q : (evExt a b h).All (QW B.S ρ H Q) (XW B.S ρ H E) := q
  unfold evExt at q
  split at q
  · rename_i l
    split at q
    · rename_i ys g
      split at q
      · rename_i zs ez
        split at q
        · rename_i hl
          obtain ⟨p, us, rfl, hp, hs, rsu⟩ := lst_at R ra g
          obtain ⟨p2, us2, rfl, hs2, rsu2⟩ := lstOf_ok R rb ez
          refine ⟨p, p2, us, us2, rfl, rfl, hs, hs2, by rw [Rels.length rsu, Rels.length rsu2]; exact Nat.le_trans hl (by decide), ?_⟩
          exact q ρ _ _ (Ext.put hs True.intro) (R.put hp hs True.intro ⟨us ++ us2, upd_same, Rels.append (Rels.mono (Ext.put hs True.intro) rsu) (Rels.mono (Ext.put hs True.intro) rsu2)⟩) rfl
        · exact q.elim
      · exact q.elim
    · exact q.elim
  · exact q.elim
theorem e_mt (O : Ok B k c X E) (I : Snd B k r) {o e : Expr} {m : Str} {mk : Mt} {x y : EV.E} {ap pos : Pos} (h1 : mtOf m = some mk) (h2 : noSup o = true) (h3 : (ap.endLine == pos.line) = true) (h4 : notStar e = true) (h5 : Cp B.T c o x) (h6 : Cp B.T c e y) :
    PE X (.Call (.Attribute o m ap) [e] [] pos) (tE B.S E (stepE B.T.kit call r (.mt mk x [y]))) := by
  have ha := pa_cons (I.pe O h6) pa_nil (star_cons h4)
  have hfew : ((backTo pos (starEach [e] X.env)).all (fun x => !x.1) && (backToKw pos (keywordEach [] X.env)).all (fun x => x.1.isSome)
      && decide ([e].length + ([] : List Keyword).length + (if ([] : List Keyword).isEmpty then 0 else 1) < 30)) = true := by
    rw [star_cons h4]
    rfl
  unfold mtOf at h1
  split at h1
  · rename_i em
    cases h1
    obtain rfl := eq_of_beq em
    have := PE.imp (pe_bm PySem.F.plainAttrs_list PySem.F.slot_list_append PySem.F.type_list_append mt_append (I.pe O h5) ha (noSup_base h2) hfew h3 (star_cons h4) (by rfl)) (t' := tE B.S E (stepE B.T.kit call r (.mt .app x [y]))) fun _ _ _ q => by
      rw [O.K]
      exact q_mt app_ok q
    exact this
  split at h1
  · rename_i em
    cases h1
    obtain rfl := eq_of_beq em
    have := PE.imp (pe_bm PySem.F.plainAttrs_list PySem.F.slot_list_extend PySem.F.type_list_extend mt_extend (I.pe O h5) ha (noSup_base h2) hfew h3 (star_cons h4) (by rfl)) (t' := tE B.S E (stepE B.T.kit call r (.mt .ext x [y]))) fun _ _ _ q => by
      rw [O.K]
      exact q_mt ext_ok q
    exact this
  · cases h1
theorem e_fld (BO : BOk B) (O : Ok B k c X E) (I : Snd B k r) {o : Expr} {f : Str} {x : EV.E} {pos : Pos} (h1 : noSup o = true) (h2 : Cp B.T c o x) : PE X (.Attribute o f pos) (tE B.S E (stepE B.T.kit call r (.fld x f))) := by
  refine PE.imp (pe_xg (I.pe O h2) (noSup_base h1)) fun σ H Q q => ?_
  rw [O.K]
  obtain ⟨ρ, h, s, R, rs, q⟩ := q
  refine ⟨ρ, h, s, R, rs, go q fun a h1 q1 ρ1 H1 v e1 R1 rv => ?_⟩
  unfold evFld at q1
  split at q1
  · split at q1
    · rename_i C fs g
      split at q1
      · rename_i gf ek
        split at q1
        · rename_i eg
          split at q1
          · rename_i b el
            subst eg
            obtain ⟨p, rfl, _, z⟩ := cell_at R1 rv g
            obtain ⟨Ca, hG, z⟩ := z
            rcases z with ⟨z, _⟩ | ⟨d, vs, z1, z2, z3⟩
            · rw [z] at el
              cases el
            · obtain ⟨w, l1, l2⟩ := (RelF.look z3).1 b el
              obtain ⟨n1, n2⟩ := BO.xno C _ Ca ek hG
              exact ⟨p, Ca, d, vs, w, rfl, n2, n1, z1, z2, l1, q1 ρ1 H1 w e1 R1 l2⟩
          · exact q1.elim
        · exact q1.elim
      · exact q1.elim
    · exact q1.elim
  · exact q1.elim
end
end EV
set_option Elab.async false
set_option linter.all false
set_option maxRecDepth 100000
set_option maxHeartbeats 4000000
namespace EV
open PySem PySem.Spec PyProof.Rows L2 ER
theorem PG.imp {X : Cx} {e : Expr} {t t' : TG} (h : PG X e t) (k : ∀ v σ H Q, t' v σ H Q → t v σ H Q) : PG X e t' := ⟨fun pins s σ H v u Q I r q => h.run pins s σ H v u Q I r (k _ _ _ _ q)⟩
theorem PGs.imp {X : Cx} {e : List Expr} {t t' : TGs} (h : PGs X e t) (k : ∀ v σ H Q, t' v σ H Q → t v σ H Q) : PGs X e t' := ⟨fun pins s σ H v u Q I r q => h.run pins s σ H v u Q I r (k _ _ _ _ q)⟩
theorem PI.imp {X : Cx} {tg e : Expr} {t t' : TI} (h : PI X tg e t) (k : ∀ σ H R, t' σ H R → t σ H R) : PI X tg e t' := ⟨fun pins s σ H R I q => h.run pins s σ H R I (k _ _ _ q)⟩
theorem PI.or {X : Cx} {tg e : Expr} {t t' : TI} (h : PI X tg e t) (h' : PI X tg e t') : PI X tg e (fun σ H R => t σ H R ∨ t' σ H R) := ⟨fun pins s σ H R I q => by
  rcases q with q | q
  · exact h.run pins s σ H R I q
  · exact h'.run pins s σ H R I q⟩
/-! ### targets -/
/-- but for some slots as it was -/
def But (vs : List Nat) (σ σ' : L2.St) : Prop := σ'.length = σ.length ∧ ∀ i, i ∉ vs → σ'[i]? = σ[i]?
theorem But.refl {vs : List Nat} {σ : L2.St} : But vs σ σ := ⟨rfl, fun _ _ => rfl⟩
def gTg (S : Sc) (t : Tg) : TG := fun v σ H Q => ∃ ρ s a s', RelS S ρ H s σ ∧ Rel S ρ H a v ∧ evTg t a s = some s' ∧ ∀ σ', RelS S ρ H s' σ' → But (slotsT t) σ σ' → Q σ' H
def gTgs (S : Sc) (ts : List Tg) : TGs := fun vs σ H Q => ∃ ρ s as s', RelS S ρ H s σ ∧ Rels S ρ H as vs ∧ evTgs ts as s = some s' ∧ ∀ σ', RelS S ρ H s' σ' → But (slotsTs ts) σ σ' → Q σ' H
section
variable {B : Bs} {k : Nat} {r : Rec} {c : Cc} {X : Cx} {E : XK} {call : Nat → List A → Hh → Out A}
theorem tg_star {e : Expr} {es : List Expr} {t : Tg} {env : Env} (h : Ct c e t) : assignEach (e :: es) env = (false, assign e env) :: assignEach es env := by
  cases h <;> rfl
theorem tgs_len {env : Env} : ∀ {ts : List Tg} {es : List Expr}, Cts c es ts → (assignEach es env).length = ts.length ∧ (assignEach es env).findIdx? (·.1) = none
  | [], _, h => by cases h; exact ⟨rfl, rfl⟩
  | t :: ts, _, h => by
    cases h with
    | cons h1 h2 =>
      obtain ⟨z1, z2⟩ := tgs_len (env := env) h2
      rw [tg_star h1]
      refine ⟨by rw [List.length_cons, List.length_cons, z1], ?_⟩
      rw [List.findIdx?_cons]
      simp [z2]
theorem evTgs_len : ∀ {ts : List Tg} {as : List A} {s s' : Sl}, evTgs ts as s = some s' → as.length = ts.length
  | [], [], _, _, _ => rfl
  | [], _ :: _, _, _, e => by unfold evTgs at e; cases e
  | _ :: _, [], _, _, e => by unfold evTgs at e; cases e
  | t :: ts, x :: xs, s, s', e => by
    unfold evTgs at e
    cases q : evTg t x s with
    | none => rw [q] at e; cases e
    | some s1 =>
      rw [q, Option.bind_some] at e
      rw [List.length_cons, List.length_cons, evTgs_len e]
mutual
theorem pg (O : Ok B k c X E) : ∀ (t : Tg) {tg : Expr}, Ct c tg t → PG X tg (gTg B.S t)
  | .nm i, _, h => by
    cases h with
    | nm h1 h2 =>
      rename_i x pos
      have hN : X.N.Nodup := by rw [O.N]; exact O.nd
      have hi : X.N[i]? = some x := by rw [O.N]; exact h1
      have hx : Loc X.env.scope x ∧ (X.fn x = true ∨ X.env.scope.names.lookup x = some .local) := by
        rw [Bool.or_eq_true] at h2
        rcases h2 with h2 | h2
        · exact ⟨.inl (O.loc x (kindIs_ok h2)), .inr (O.loc x (kindIs_ok h2))⟩
        · exact ⟨.inr (O.cell x (kindIs_ok h2)).1, .inl (O.cell x (kindIs_ok h2)).2⟩
      refine PG.imp (pg_name hN hi hx.1 hx.2) fun v σ H Q q => ?_
      obtain ⟨ρ, s, a, s', rs, rv, e, k⟩ := q
      unfold evTg at e
      cases e
      exact k _ (rs.set rv) ⟨List.length_set .., fun j hj => List.getElem?_set_ne fun e => hj (by unfold slotsT; rw [e]; exact List.mem_cons_self ..)⟩
  | .tp ts, _, h => by
    cases h with
    | tp h1 =>
      obtain ⟨z1, z2⟩ := tgs_len (env := X.env) h1
      refine PG.imp (pg_tup O.calm (pgs O ts h1) z1 z2) fun v σ H Q q => ?_
      obtain ⟨ρ, s, a, s', rs, rv, e, k⟩ := q
      cases a with
      | tup xs =>
        obtain ⟨p, us, e1, hs, rus⟩ := rv
        have e : evTgs ts xs s = some s' := by unfold evTg at e; exact e
        exact ⟨p, us, e1, by rw [O.K]; exact hs, by rw [Rels.length rus]; exact evTgs_len e, ρ, s, xs, s', rs, rus, e, fun σ' r1 b1 => k σ' r1 (by unfold slotsT; exact b1)⟩
      | _ => unfold evTg at e; cases e
theorem pgs (O : Ok B k c X E) : ∀ (ts : List Tg) {es : List Expr}, Cts c es ts → PGs X es (gTgs B.S ts)
  | [], _, h => by
    cases h
    refine PGs.imp pgs_nil fun vs σ H Q q => ?_
    obtain ⟨ρ, s, as, s', rs, rv, e, k⟩ := q
    cases as with
    | nil => unfold evTgs at e; cases e; exact ⟨rv, k σ rs But.refl⟩
    | cons _ _ => unfold evTgs at e; cases e
  | t :: ts, _, h => by
    cases h with
    | cons h1 h2 =>
      refine PGs.imp (pgs_cons (pg O t h1) (pgs O ts h2) (by rw [tg_star h1]; rfl)) fun vs σ H Q q => ?_
      obtain ⟨ρ, s, as, s', rs, rv, e, k⟩ := q
      cases as with
      | nil => unfold evTgs at e; cases e
      | cons x xs =>
        obtain ⟨v, vr, e1, r1, r2⟩ := rv
        unfold evTgs at e
        cases q1 : evTg t x s with
        | none => rw [q1] at e; cases e
        | some s1 =>
          rw [q1, Option.bind_some] at e
          exact ⟨v, vr, e1, ρ, s, x, s1, rs, r1, q1, fun σ1 rs1 b1 => ⟨ρ, s1, xs, s', rs1, r2, e, fun σ2 rs2 b2 => k σ2 rs2 ⟨b2.1.trans b1.1, fun i hi => by
            unfold slotsTs at hi
            rw [b2.2 i fun z => hi (List.mem_append_right _ z), b1.2 i fun z => hi (List.mem_append_left _ z)]⟩⟩⟩
end
/-! ### what is walked -/
structure JOk (S : Sc) (ρ : Rho) (H : Hp) (j : Jt) (J : L2.It) : Prop where
  stop : ∀ {ρ' h' H' i}, Ext S ρ H ρ' H' → Rep S ρ' h' H' → j.at i h' = some none → J.stop i H'
  step : ∀ {ρ' h' H' i x}, Ext S ρ H ρ' H' → Rep S ρ' h' H' → j.at i h' = some (some x) → J.go i H' ∧ ∀ v H2, J.yld i H' v H2 → Ext S ρ' H' ρ' H2 ∧ Rep S ρ' h' H2 ∧ Rel S ρ' H2 x v
theorem none_le {S : Sc} {ρ : Rho} {H : Hp} {xs : List A} {vs : List V} {i : Nat} (rs : Rels S ρ H xs vs) (e : xs[i]? = none) : vs.length ≤ i := by
  rw [Rels.length rs]
  exact List.getElem?_eq_none_iff.mp e
theorem lst_at' {S : Sc} {ρ : Rho} {h : Hh} {H : Hp} {l : Bn} {xs : List A} {a : Addr} (R : Rep S ρ h H) (hl : ρ l = some a) (e : h.get l = some (.lst xs)) : ∃ vs, H a = some (.lst vs) ∧ Rels S ρ H xs vs := by
  obtain ⟨a', e3, vs, e4, e5⟩ := R.cell l _ e
  rw [hl] at e3
  cases e3
  exact ⟨vs, e4, e5⟩
theorem j_lst {S : Sc} {ρ : Rho} {H : Hp} {l : Bn} {a : Addr} (hl : ρ l = some a) : JOk S ρ H (.lst l) (Itl S.K a) where
  stop := fun {ρ' h' H' i} e R q => by
    unfold Jt.at at q
    dsimp only at q
    split at q
    · rename_i xs g
      obtain ⟨vs, h1, h2⟩ := lst_at' R (e.le _ _ hl) g
      exact ⟨vs, SqL.of h1, none_le h2 (Option.some.inj q)⟩
    · cases q
  step := fun {ρ' h' H' i x} e R q => by
    unfold Jt.at at q
    dsimp only at q
    split at q
    · rename_i xs g
      obtain ⟨vs, h1, h2⟩ := lst_at' R (e.le _ _ hl) g
      obtain ⟨v0, g1, g2⟩ := Rels.getA h2 (Option.some.inj q)
      refine ⟨⟨vs, v0, SqL.of h1, g1⟩, fun v H2 y => ?_⟩
      obtain ⟨rfl, y2⟩ := y
      have e2 := y2 vs (SqL.of h1)
      rw [g1] at e2
      cases e2
      exact ⟨Ext.refl, R, g2⟩
    · cases q
theorem j_tup {S : Sc} {ρ : Rho} {H : Hp} {xs : List A} {vs : List V} {a : Addr} (hs : SqT S.K H a vs) (rs : Rels S ρ H xs vs) : JOk S ρ H (.tup xs) (Itt S.K a) where
  stop := fun {ρ' h' H' i} e R q => ⟨vs, e.tu _ _ hs, none_le rs (Option.some.inj q)⟩
  step := fun {ρ' h' H' i x} e R q => by
    obtain ⟨v0, g1, g2⟩ := Rels.getA rs (Option.some.inj q)
    refine ⟨⟨vs, v0, e.tu _ _ hs, g1⟩, fun v H2 y => ?_⟩
    obtain ⟨rfl, y2⟩ := y
    have e2 := y2 vs (e.tu _ _ hs)
    rw [g1] at e2
    cases e2
    exact ⟨Ext.refl, R, g2.mono e⟩
theorem j_rng {S : Sc} {ρ : Rho} {H : Hp} {n : Nat} : JOk S ρ H (.rng n) (Itr 0 n) where
  stop := fun {ρ' h' H' i} e R q => by
    unfold Jt.at at q
    dsimp only at q
    show n ≤ i
    by_cases h : i < n
    · rw [if_pos h] at q; cases q
    · omega
  step := fun {ρ' h' H' i x} e R q => by
    unfold Jt.at at q
    dsimp only at q
    by_cases h : i < n
    · rw [if_pos h] at q
      cases q
      refine ⟨h, fun v H2 y => ?_⟩
      obtain ⟨rfl, rfl⟩ := y
      refine ⟨Ext.refl, R, ?_⟩
      show V.int (0 + (i : Int)) = V.int (i : Int)
      rw [Int.zero_add]
    · rw [if_neg h] at q; cases q
theorem j_enm {S : Sc} {ρ : Rho} {H : Hp} {l : Bn} {a : Addr} (hl : ρ l = some a) : JOk S ρ H (.enm l) (Ite S.K a) where
  stop := fun {ρ' h' H' i} e R q => by
    unfold Jt.at at q
    dsimp only at q
    split at q
    · rename_i xs g
      obtain ⟨vs, h1, h2⟩ := lst_at' R (e.le _ _ hl) g
      refine ⟨vs, SqL.of h1, none_le h2 ?_⟩
      cases z : xs[i]? with
      | none => rfl
      | some x => rw [z] at q; cases q
    · cases q
  step := fun {ρ' h' H' i x} e R q => by
    unfold Jt.at at q
    dsimp only at q
    split at q
    · rename_i xs g
      obtain ⟨vs, h1, h2⟩ := lst_at' R (e.le _ _ hl) g
      cases z : xs[i]? with
      | none => rw [z] at q; cases q
      | some y =>
        rw [z] at q
        cases q
        obtain ⟨v0, g1, g2⟩ := Rels.getA h2 z
        refine ⟨⟨vs, v0, SqL.of h1, g1⟩, fun v H2 yy => ?_⟩
        obtain ⟨T, x2, rfl, nT, rfl, y2⟩ := yy
        have e2 := y2 vs (SqL.of h1)
        rw [g1] at e2
        cases e2
        exact ⟨Ext.more nT, R.more nT, ⟨T, [.int (i : Nat), v0], rfl, .inl (.inl upd_same), ⟨.int (i : Nat), [v0], rfl, rfl, v0, [], rfl, g2.mono (Ext.more nT), rfl⟩⟩⟩
    · cases q
theorem pair_none {x y : Option A} (h : pairAt x y = none) : x = none ∨ y = none := by
  cases x with
  | none => exact .inl rfl
  | some a => cases y with
    | none => exact .inr rfl
    | some b => cases h
theorem pair_some {x y : Option A} {z : A} (h : pairAt x y = some z) : ∃ a b, x = some a ∧ y = some b ∧ z = .tup [a, b] := by
  cases x with
  | none => cases h
  | some a => cases y with
    | none => cases h
    | some b => cases h; exact ⟨a, b, rfl, rfl, rfl⟩
theorem j_zp {S : Sc} {ρ : Rho} {H : Hp} {l m : Bn} {a b : Addr} (hl : ρ l = some a) (hm : ρ m = some b) : JOk S ρ H (.zp l m) (Itz S.K a b) where
  stop := fun {ρ' h' H' i} e R q => by
    unfold Jt.at at q
    dsimp only at q
    split at q
    · rename_i xs ys g1 g2
      obtain ⟨vs, h1, h2⟩ := lst_at' R (e.le _ _ hl) g1
      obtain ⟨us, h3, h4⟩ := lst_at' R (e.le _ _ hm) g2
      refine ⟨vs, us, SqL.of h1, SqL.of h3, ?_⟩
      rcases pair_none (Option.some.inj q) with z | z
      · exact .inl (none_le h2 z)
      · exact .inr (none_le h4 z)
    · cases q
  step := fun {ρ' h' H' i x} e R q => by
    unfold Jt.at at q
    dsimp only at q
    split at q
    · rename_i xs ys g1 g2
      obtain ⟨vs, h1, h2⟩ := lst_at' R (e.le _ _ hl) g1
      obtain ⟨us, h3, h4⟩ := lst_at' R (e.le _ _ hm) g2
      obtain ⟨x1, x2, z1, z2, rfl⟩ := pair_some (Option.some.inj q)
      obtain ⟨v0, k1, k2⟩ := Rels.getA h2 z1
      obtain ⟨u0, k3, k4⟩ := Rels.getA h4 z2
      refine ⟨⟨vs, us, v0, u0, SqL.of h1, SqL.of h3, k1, k3⟩, fun v H2 yy => ?_⟩
      obtain ⟨T, y1, y2, rfl, nT, rfl, w1, w2⟩ := yy
      have e2 := w1 vs (SqL.of h1)
      have e3 := w2 us (SqL.of h3)
      rw [k1] at e2
      rw [k3] at e3
      cases e2
      cases e3
      exact ⟨Ext.more nT, R.more nT, ⟨T, [v0, u0], rfl, .inl (.inl upd_same), ⟨v0, [u0], rfl, k2.mono (Ext.more nT), u0, [], rfl, k4.mono (Ext.more nT), rfl⟩⟩⟩
    · cases q
theorem RelK.at {S : Sc} {ρ : Rho} {H : Hp} : ∀ {xs : List (A × A)} {vs : List (Key × V)} {i : Nat} {p : A × A}, RelK S ρ H xs vs → xs[i]? = some p → ∃ c v, vs[i]? = some (c, v) ∧ keyOf p.1 = some c
  | [], _, i, p, _, e => by simp at e
  | (k, y) :: r, _, 0, p, ⟨c', v, r', h1, h2, h3, h4⟩, e => by
    subst h1
    simp only [List.getElem?_cons_zero, Option.some.injEq] at e
    subst e
    exact ⟨c', v, rfl, h2⟩
  | (k, y) :: r, _, i + 1, p, ⟨c', v, r', h1, h2, h3, h4⟩, e => by
    subst h1
    simp only [List.getElem?_cons_succ] at e ⊢
    exact RelK.at h4 e
theorem rel_key {S : Sc} {ρ : Rho} {H : Hp} {a : A} {c : Key} (e : keyOf a = some c) : Rel S ρ H a (kV c) := by
  cases a <;> first | (cases e; rfl) | cases e
theorem keys_at {S : Sc} {ρ : Rho} {H ρ' H'} {h' : Hh} {l : Bn} {d : Addr} {o : Obj} {us : List (Key × V)} {oi : Option A} {i : Nat} (hl : ρ l = some d) (hd : H d = some (.frz o (.dK us))) (e : Ext S ρ H ρ' H') (R : Rep S ρ' h' H') (q : (Jt.keys l).at i h' = some oi) :
    ∃ kvs, oi = kvs[i]?.map (·.1) ∧ H' d = some (.frz o (.dK us)) ∧ RelK S ρ' H' kvs us := by
  unfold Jt.at at q
  dsimp only at q
  split at q
  · rename_i kvs g
    obtain ⟨a', e3, o', us', e4, e5⟩ := R.cell l _ g
    rw [e.le _ _ hl] at e3
    cases e3
    have z := e.fz _ _ _ hd
    rw [z] at e4
    cases e4
    exact ⟨kvs, (Option.some.inj q).symm, z, e5⟩
  · cases q
theorem j_keys {S : Sc} {ρ : Rho} {H : Hp} {l : Bn} {d : Addr} {o : Obj} {us : List (Key × V)} (hl : ρ l = some d) (hd : H d = some (.frz o (.dK us))) : JOk S ρ H (.keys l) (Itk d o us) where
  stop := fun {ρ' h' H' i} e R q => by
    obtain ⟨kvs, e1, e2, e3⟩ := keys_at hl hd e R q
    refine ⟨e2, ?_⟩
    rw [RelK.length e3]
    cases z : kvs[i]? with
    | none => exact List.getElem?_eq_none_iff.mp z
    | some p => rw [z] at e1; cases e1
  step := fun {ρ' h' H' i x} e R q => by
    obtain ⟨kvs, e1, e2, e3⟩ := keys_at hl hd e R q
    cases z : kvs[i]? with
    | none => rw [z] at e1; cases e1
    | some p =>
      rw [z] at e1
      cases e1
      obtain ⟨c, v, e4, e5⟩ := RelK.at e3 z
      refine ⟨⟨e2, ?_⟩, fun w H2 y => ?_⟩
      · exact (List.getElem?_eq_some_iff.mp e4).1
      · obtain ⟨rfl, c', v', y1, y2⟩ := y
        rw [e4] at y1
        cases y1
        rw [y2]
        exact ⟨Ext.refl, R, rel_key e5⟩
theorem j_zpT {S : Sc} {ρ : Rho} {H : Hp} {xs ys : List A} {vs us : List V} {a b : Addr} (h1 : SqT S.K H a vs) (h2 : Rels S ρ H xs vs) (h3 : SqT S.K H b us) (h4 : Rels S ρ H ys us) : JOk S ρ H (.zpT xs ys) (RZ.ItzT S.K a b) where
  stop := fun {ρ' h' H' i} e R q => by
    refine ⟨vs, us, e.tu _ _ h1, e.tu _ _ h3, ?_⟩
    rcases pair_none (Option.some.inj q) with z | z
    · exact .inl (none_le h2 z)
    · exact .inr (none_le h4 z)
  step := fun {ρ' h' H' i x} e R q => by
    obtain ⟨x1, x2, z1, z2, rfl⟩ := pair_some (Option.some.inj q)
    obtain ⟨v0, k1, k2⟩ := Rels.getA h2 z1
    obtain ⟨u0, k3, k4⟩ := Rels.getA h4 z2
    refine ⟨⟨vs, us, v0, u0, e.tu _ _ h1, e.tu _ _ h3, k1, k3⟩, fun v H2 yy => ?_⟩
    obtain ⟨T, y1, y2, rfl, nT, rfl, w1, w2⟩ := yy
    have e2 := w1 vs (e.tu _ _ h1)
    have e3 := w2 us (e.tu _ _ h3)
    rw [k1] at e2
    rw [k3] at e3
    cases e2
    cases e3
    exact ⟨Ext.more nT, R.more nT, ⟨T, [v0, u0], rfl, .inl (.inl upd_same), ⟨v0, [u0], rfl, (k2.mono e).mono (Ext.more nT), u0, [], rfl, (k4.mono e).mono (Ext.more nT), rfl⟩⟩⟩
end
end EV
set_option Elab.async false
set_option linter.all false
set_option maxRecDepth 100000
set_option maxHeartbeats 4000000
namespace EV
open PySem PySem.Spec PyProof.Rows L2 ER
def JW (S : Sc) (ρ : Rho) (H : Hp) (R : L2.It → Hp → Prop) (oj : Option Jt) (h' : Hh) : Prop := ∀ ρ' H', Ext S ρ H ρ' H' → Rep S ρ' h' H' → ∃ j, oj = some j ∧ ∀ J, JOk S ρ' H' j J → R J H'
def iA (S : Sc) (E : XK) (ev : Sl → Hh → Out (Option Jt)) : TI := fun σ H R => ∃ ρ h s, Rep S ρ h H ∧ RelS S ρ H s σ ∧ (ev s h).All (JW S ρ H R) (XW S ρ H E)
section
variable {B : Bs} {k : Nat} {r : Rec} {c : Cc} {X : Cx} {E : XK} {call : Nat → List A → Hh → Out A}
/-- a list or a tuple -/
def iSeq (K : PySem.W.Frag) (tl : TE) : TI := fun σ H R => tl σ H fun x H1 => (∃ a, x = .ref a ∧ (∃ xs, SqL K H1 a xs) ∧ R (Itl K a) H1) ∨ (∃ a, x = .ref a ∧ (∃ xs, SqT K H1 a xs) ∧ R (Itt K a) H1) ∨ ∃ d o kvs, x = .ref d ∧ H1 d = some (.frz o (.dK kvs)) ∧ R (Itk d o kvs) H1
theorem pi_seq {tg l : Expr} {tl : TE} (hl : PE X l tl) : PI X tg l (iSeq X.K tl) := by
  refine ⟨fun pins s σ H R I h => ?_⟩
  refine thn (hl.run pins s σ H _ I h) fun v s1 ⟨x, H1, I1, r1, q1⟩ => ?_
  have fin : ∀ b, b ∈ [s1.heap.objs.size] → FpOk X pins H1 b := fun b hb => by
    have e : b = s1.heap.objs.size := by simpa using hb
    subst e
    exact I1.fpOk (Nat.le_refl _) (I1.hok.fresh (Nat.le_refl _))
  rcases q1 with ⟨a, e, ⟨xs, hq⟩, q⟩ | ⟨a, e, ⟨xs, hq⟩, q⟩ | ⟨d, o, kvs, e, hd, q⟩
  · subst e
    cases r1
    obtain ⟨its, rv, p, hz⟩ := I1.list hq
    refine wpAny_pyIter_list p.isList ?_
    exact ⟨s1.heap.objs.size, [s1.heap.objs.size], _, _, H1, rfl, I1.kept (t' := s1.toks) fun b o e => Heap.get?_push_of_some _ e, turn_list a _, ⟨_, Heap.get?_push_size _ rfl, rfl, rfl⟩, fin, q⟩
  · subst e
    cases r1
    obtain ⟨its, rv, p, hz⟩ := I1.tuple hq
    refine wpAny_pyIter_tuple p ?_
    exact ⟨s1.heap.objs.size, [s1.heap.objs.size], _, _, H1, rfl, I1.kept (t' := s1.toks) fun b o e => Heap.get?_push_of_some _ e, turn_tuple a _, ⟨_, Heap.get?_push_size _ rfl, rfl, rfl⟩, fin, q⟩
  · subst e
    cases r1
    obtain ⟨hs, hgd, hx, es, ep, vs, hdt, hsz, kv, hm⟩ := I1.frzK hd
    refine iter_keys hs hgd hx hdt (pi_one (tk := s1.toks) I1 _ (turn_keys _ hdt) ⟨_, Heap.get?_push_size _ rfl, rfl, ?_⟩ q)
    rw [hsz] <;> rfl
theorem p_it (BO : BOk B) (O : Ok B k c X E) (I : Snd B k r) {tg e : Expr} {it : EV.It} (h : Ci B.T c tg e it) : PI X tg e (iA B.S E (evIt r it)) := by
  cases h with
  | seq h1 =>
    refine PI.imp (pi_seq (I.pe O h1)) fun σ H R q => ?_
    rw [O.K]
    obtain ⟨ρ, h, s, Rp, rs, q⟩ := q
    refine ⟨ρ, h, s, Rp, rs, go q fun a h1 q1 ρ1 H1 v e1 R1 rv => ?_⟩
    split at q1
    · rename_i l
      split at q1
      · rename_i xs g
        obtain ⟨p, us, rfl, hp, hs, _⟩ := lst_at R1 rv g
        obtain ⟨j, ej, k⟩ := q1 ρ1 H1 e1 R1
        cases ej
        exact .inl ⟨p, rfl, ⟨us, SqL.of hs⟩, k _ (j_lst hp)⟩
      · rename_i kvs g
        obtain ⟨p, rfl, hp, o, us, hs, rus⟩ := cell_at R1 rv g
        obtain ⟨j, ej, k⟩ := q1 ρ1 H1 e1 R1
        cases ej
        exact .inr (.inr ⟨p, o, us, rfl, hs, k _ (j_keys hp hs)⟩)
      · exact q1.elim
    · obtain ⟨p, us, rfl, hs, rus⟩ := rv
      obtain ⟨j, ej, k⟩ := q1 ρ1 H1 e1 R1
      cases ej
      exact .inr (.inl ⟨p, rfl, ⟨us, hs⟩, k _ (j_tup hs rus)⟩)
    · exact q1.elim
  | rng h1 h2 h3 h4 =>
    refine PI.imp (pi_range1 (O.gl h1) (O.fr BO h2) (pa_cons (I.pe O h4) pa_nil (star_cons h3)) (star_cons h3)) fun σ H R q => ?_
    obtain ⟨ρ, h, s, Rp, rs, q⟩ := q
    refine ⟨ρ, h, s, Rp, rs, go q fun a h1 q1 ρ1 H1 v e1 R1 rv => ?_⟩
    split at q1
    · rename_i i
      split at q1
      · rename_i hi
        obtain ⟨j, ej, k⟩ := q1 ρ1 H1 e1 R1
        cases ej
        exact ⟨i, by rw [show v = V.int i from rv], by omega, by omega, k _ j_rng⟩
      · exact q1.elim
    · exact q1.elim
  | enm h1 h2 h3 h4 =>
    refine PI.imp (pi_enum (O.gl h1) (O.fr BO h2) (pa_cons (I.pe O h4) pa_nil (star_cons h3)) (star_cons h3)) fun σ H R q => ?_
    rw [O.K]
    obtain ⟨ρ, h, s, Rp, rs, q⟩ := q
    refine ⟨ρ, h, s, Rp, rs, go q fun a h1 q1 ρ1 H1 v e1 R1 rv => ?_⟩
    split at q1
    · rename_i l
      split at q1
      · rename_i xs g
        obtain ⟨p, us, rfl, hp, hs, _⟩ := lst_at R1 rv g
        obtain ⟨j, ej, k⟩ := q1 ρ1 H1 e1 R1
        cases ej
        exact ⟨p, us, rfl, SqL.of hs, k _ (j_enm hp)⟩
      · exact q1.elim
    · exact q1.elim
  | zp h1 h2 h3 h4 h5 h6 =>
    refine PI.imp (RZ.pi_zipA (O.gl h1) (O.fr BO h2) (pa_cons (I.pe O h5) (pa_cons (I.pe O h6) pa_nil (star_cons h4)) (star_cons h3)) (star_cons h3) (by rw [star_cons h4]; rfl)) fun σ H R q => ?_
    rw [O.K]
    obtain ⟨ρ, h, s, Rp, rs, q⟩ := q
    refine ⟨ρ, h, s, Rp, rs, go q fun a h1 q1 ρ1 H1 v e1 R1 rv => ?_⟩
    refine ⟨ρ1, h1, s, R1, rs.mono e1, go (all_mono e1 (fun _ _ y => y) q1) fun b h2 q2 ρ2 H2 w e2 R2 rw => ?_⟩
    split at q2
    · rename_i l m
      split at q2
      · rename_i xs ys g1 g2
        obtain ⟨p, us, rfl, hp, hs, _⟩ := lst_at R2 (rv.mono e2) g1
        obtain ⟨p', us', rfl, hp', hs', _⟩ := lst_at R2 rw g2
        obtain ⟨j, ej, k⟩ := q2 ρ2 H2 (e1.trans e2) R2
        cases ej
        exact ⟨p, p', us, us', rfl, .inl ⟨SqL.of hs, SqL.of hs', k _ (j_zp hp hp')⟩⟩
      · exact q2.elim
    · obtain ⟨p, us, rfl, hs, rus⟩ := rv.mono e2
      obtain ⟨p', us', rfl, hs', rus'⟩ := rw
      obtain ⟨j, ej, k⟩ := q2 ρ2 H2 (e1.trans e2) R2
      cases ej
      exact ⟨p, p', us, us', rfl, .inr ⟨hs, hs', k _ (j_zpT hs rus hs' rus')⟩⟩
    · exact q2.elim
/-! ### for -/
theorem q_for {t : Tg} {it : EV.It} {b : List Sm} {D : Ends} {σ : L2.St} {H : Hp} (q : tSs B.S E (stepS r (.for t it b)) D σ H) : tFor (iA B.S E (evIt r it)) (gTg B.S t) (tSs B.S E (r.ss b)) D σ H := by
  obtain ⟨ρ, h, s, Rp, rs, q⟩ := q
  refine ⟨ρ, h, s, Rp, rs, go q fun oj h1 q1 ρ1 H1 e1 R1 => ?_⟩
  cases oj with
  | none => exact q1.elim
  | some j =>
    refine ⟨j, rfl, fun J hJ => ?_⟩
    refine ⟨fun i m σ' H' => ∃ ρ2 h2 s2, Ext B.S ρ1 H1 ρ2 H' ∧ Rep B.S ρ2 h2 H' ∧ RelS B.S ρ2 H' s2 σ' ∧ (evFor r j t b m i s2 h2).All (FW B.S ρ2 H' D) (XW B.S ρ2 H' E), ⟨turns, ρ1, h1, s, Ext.refl, R1, rs.mono e1, all_mono e1 (fun _ _ y => y.mono e1) q1⟩, ?_⟩
    rintro i m σ' H' ⟨ρ2, h2, s2, e2, R2, rs2, q2⟩
    cases m with
    | zero => exact q2.elim
    | succ m =>
      unfold evFor at q2
      split at q2
      · exact q2.elim
      · rename_i ej
        exact .inl ⟨hJ.stop e2 R2 ej, q2 ρ2 H' Ext.refl R2 σ' rs2⟩
      · rename_i x ej
        obtain ⟨g1, g2⟩ := hJ.step e2 R2 ej
        split at q2
        · exact q2.elim
        · rename_i s3 et
          refine .inr ⟨g1, fun σ4 H4 => ∃ ρ4 h4 s4, Ext B.S ρ1 H1 ρ4 H4 ∧ Rep B.S ρ4 h4 H4 ∧ RelS B.S ρ4 H4 s4 σ4 ∧ (evFor r j t b m (i + 1) s4 h4).All (FW B.S ρ4 H4 D) (XW B.S ρ4 H4 E), fun σ4 H4 z => ⟨m, Nat.lt_succ_self m, z⟩, fun v H3 y => ?_⟩
          obtain ⟨e3, R3, rv⟩ := g2 v H3 y
          refine ⟨ρ2, s2, x, s3, rs2.mono e3, rv, et, fun σ3 rs3 _ => ?_⟩
          refine ⟨ρ2, h2, s3, R3, rs3, go (all_mono e3 (fun _ _ y => y) q2) fun f h5 q5 ρ5 H5 e5 R5 => ?_⟩
          cases f with
          | nx s5 => exact fun σ5 rs5 => ⟨ρ5, h5, s5, e2.trans (e3.trans e5), R5, rs5, all_mono e5 (fun _ _ y => (y.mono e3).mono e5) q5⟩
          | ct s5 => exact fun σ5 rs5 => ⟨ρ5, h5, s5, e2.trans (e3.trans e5), R5, rs5, all_mono e5 (fun _ _ y => (y.mono e3).mono e5) q5⟩
          | bk s5 => exact fun σ5 rs5 => q5 ρ5 H5 (e3.trans e5) R5 σ5 rs5
          | rt a => exact fun v rv => q5 ρ5 H5 (e3.trans e5) R5 v rv
/-! ### comprehensions -/
theorem look_rel {env : Env} : ∀ {names : List (Str × NameKind)} {x : Str} {kd : NameKind}, names.lookup x = some kd →
    (names.map fun (n, k) => if (k == NameKind.free && env.scope.kind == .function && env.kindOf n == some .cell) then (n, NameKind.cell) else (n, k)).lookup x = some (if (kd == NameKind.free && env.scope.kind == .function && env.kindOf x == some .cell) = true then .cell else kd)
  | [], _, _, h => by simp at h
  | (n, kn) :: rest, x, kd, h => by
    show List.lookup x ((if (kn == NameKind.free && env.scope.kind == .function && env.kindOf n == some .cell) = true then (n, NameKind.cell) else (n, kn)) :: _) = _
    cases hx : x == n with
    | true =>
      simp only [List.lookup_cons, hx] at h
      cases h
      have exn := eq_of_beq hx
      subst exn
      by_cases hc : (kn == NameKind.free && env.scope.kind == .function && env.kindOf x == some .cell) = true
      · rw [if_pos hc, if_pos hc]; simp [List.lookup_cons]
      · rw [if_neg hc, if_neg hc]; simp [List.lookup_cons]
    | false =>
      simp only [List.lookup_cons, hx] at h
      by_cases hc : (kn == NameKind.free && env.scope.kind == .function && env.kindOf n == some .cell) = true
      · rw [if_pos hc]; simp only [List.lookup_cons, hx]; exact look_rel h
      · rw [if_neg hc]; simp only [List.lookup_cons, hx]; exact look_rel h
theorem ok_blk (O : Ok B k c X E) {scope : Scope} {s : Shared} {H : Hp} {C : Addr} {cl : List (Str × Addr)} {fp : List Addr} : Ok B k ⟨c.N, scope, none⟩ (X.blk s H scope (compEnvC scope cl C X.env) fp) E0 where
  P := O.P
  w := O.w
  K := O.K
  mg := O.mg
  bs := O.bs
  N := O.N
  nd := O.nd
  calm := O.calm
  room := O.room
  r2 := O.r2
  pass := passL
  own := PassesOwn.never
  loc := fun x h => by
    have z := look_rel (env := X.env) h
    rw [if_neg (by simp)] at z
    exact z
  cell := fun x h => by
    have z := look_rel (env := X.env) h
    rw [if_neg (by simp)] at z
    exact ⟨z, by show (scope.names.lookup x == some .cell) = true; rw [show scope.names.lookup x = some .cell from h]; rfl⟩
  free := fun x h => by
    have z := look_rel (env := X.env) h
    by_cases hc : (NameKind.free == NameKind.free && X.env.scope.kind == .function && X.env.kindOf x == some .cell) = true
    · rw [if_pos hc] at z; exact .inl z
    · rw [if_neg hc] at z; exact .inr z
  gi := fun x h => by
    have z := look_rel (env := X.env) h
    rw [if_neg (by simp)] at z
    exact z
  qual := fun q h => nomatch h
theorem blk_ok (O : Ok B k c X E) {scope : Scope} {own : List (Str × Nat)} (h : blkC c.N c.sc scope own = true) : BlkOk X.N X.env.scope scope own := by
  obtain ⟨a1, a2, a3, a4, a5⟩ := blkOk_by h
  rw [O.N]
  refine ⟨a1, a2, a3, fun y hy e => ?_, a5⟩
  rcases a4 y hy e with z | z
  · exact .inl (O.cell _ z).1
  · exact O.free _ z
theorem wipe_rel {S : Sc} {ρ : Rho} {H : Hp} {s : Sl} {σ : L2.St} (rs : RelS S ρ H s σ) : ∀ vs : List Nat, RelS S ρ H (wipeA s vs) (wipe σ vs)
  | [] => rs
  | v :: vs => by
    have ih := wipe_rel rs vs
    refine ⟨by unfold wipeA wipe; rw [List.length_set, List.length_set]; exact ih.1, fun i x h => ?_⟩
    unfold wipeA at h
    unfold wipe
    by_cases e : v = i
    · subst e
      by_cases hv : v < (wipeA s vs).length
      · rw [List.getElem?_set_self hv] at h; cases h
      · rw [List.getElem?_eq_none (by rw [List.length_set]; omega)] at h; cases h
    · rw [List.getElem?_set_ne e] at h ⊢
      exact ih.2 i x h
theorem wipe_at {σ : L2.St} : ∀ {vs : List Nat} {i : Nat}, (wipe σ vs)[i]? = if i ∈ vs then (if i < σ.length then some none else none) else σ[i]?
  | [], i => by simp [wipe]
  | v :: vs, i => by
    unfold wipe
    by_cases e : v = i
    · subst e
      rw [if_pos (List.mem_cons_self ..)]
      by_cases hv : v < σ.length
      · rw [if_pos hv, List.getElem?_set_self (by rw [wipe_length]; exact hv)]
      · rw [if_neg hv, List.getElem?_eq_none (by rw [List.length_set, wipe_length]; omega)]
    · rw [List.getElem?_set_ne e, wipe_at]
      by_cases hm : i ∈ vs
      · rw [if_pos hm, if_pos (List.mem_cons_of_mem _ hm)]
      · rw [if_neg hm, if_neg (by intro z; rcases List.mem_cons.mp z with z | z; exact e z.symm; exact hm z)]
theorem wipe_but {vs ws : List Nat} {σ σ2 : L2.St} (b : But ws (wipe σ vs) σ2) (hw : ∀ i ∈ ws, i ∈ vs) : wipe σ2 vs = wipe σ vs := by
  have hl : σ2.length = σ.length := by rw [b.1, wipe_length]
  apply List.ext_getElem?
  intro i
  rw [wipe_at, wipe_at, hl]
  by_cases hm : i ∈ vs
  · rw [if_pos hm, if_pos hm]
  · rw [if_neg hm, if_neg hm, b.2 i fun z => hm (hw i z), wipe_at, if_neg hm]
end
end EV
set_option Elab.async false
set_option linter.all false
set_option maxRecDepth 100000
set_option maxHeartbeats 4000000
namespace EV
open PySem PySem.Spec PyProof.Rows L2 ER
section
variable {B : Bs} {k : Nat} {r : Rec} {c : Cc} {X : Cx} {E : XK} {call : Nat → List A → Hh → Out A}
theorem PTs.imp {X : Cx} {e : List Expr} {t t' : TT} (h : PTs X e t) (k : ∀ σ H Q, t' σ H Q → t σ H Q) : PTs X e t' := ⟨fun pins s σ H Q I q => h.run pins s σ H Q I (k _ _ _ q)⟩
theorem p_conds (O : Ok B k c X E0) (I : Snd B k r) : ∀ {ifs : List Expr} {cs : List EV.E}, Cps B.T c ifs cs → cs.length ≤ 1 → PTs X ifs (tT B.S E0 (evConds r cs))
  | _, _, .nil, _ => PTs.imp pts_nil fun σ H Q q => by
    obtain ⟨ρ, h, s, R, rs, q⟩ := q
    obtain ⟨b, e, k⟩ := q
    cases e
    exact k ρ H Ext.refl R
  | _, _, .cons h1 h2 .nil, _ => PTs.imp (pts_one (I.pt O h2)) fun σ H Q q => by
    obtain ⟨ρ, h, s, R, rs, q⟩ := q
    exact ⟨ρ, h, s, R, rs, Out.all_nox q⟩
  | _, _, .cons h1 h2 (.cons h3 h4 h5), hl => by
    simp at hl
theorem nox_nox {α : Type} {P : α → Hh → Prop} {X X' : Nat → List (Str × A) → Hh → Prop} : ∀ {m : Out α}, m.nox.All P X → m.nox.All P X'
  | .ok a h, q => q
  | .exc C fs h, q => q
  | .bad, q => q
  | .pick n k, q => fun r hr => nox_nox (q r hr)
theorem conds_nox {cs : List EV.E} {s : Sl} {h : Hh} {P : A → Hh → Prop} {X X' : Nat → List (Str × A) → Hh → Prop} (q : (evConds r cs s h).All P X) : (evConds r cs s h).All P X' := by
  cases cs with
  | nil => exact q
  | cons c0 cr => cases cr with
    | nil => exact nox_nox q
    | cons _ _ => exact q.elim
theorem q_comp {x : EV.E} {t : Tg} {it : EV.It} {cs : List EV.E} {own : List Nat} (hs : ∀ i ∈ slotsT t, i ∈ own) {σ : L2.St} {H : Hp} {Q : VK} {kit : Kit} (q : tE B.S E (stepE kit call r (.comp x t it cs own)) σ H Q) :
    tLc (iA B.S E (evIt r it)) (gTg B.S t) (tT B.S E0 (evConds r cs)) (tE B.S E0 (r.e x)) own σ H Q := by
  obtain ⟨ρ, h, s, Rp, rs, q⟩ := q
  refine ⟨ρ, h, s, Rp, rs, go q fun oj h1 q1 ρ1 H1 e1 R1 => ?_⟩
  cases oj with
  | none => exact q1.elim
  | some j =>
    refine ⟨j, rfl, fun J hJ D hD => ?_⟩
    have eN : Ext B.S ρ1 H1 (rhoNew ρ1 h1.nx D) (upd H1 D (.lst [])) := Ext.new R1 hD
    refine ⟨fun i m H' => ∃ ρ2 h2, Ext B.S (rhoNew ρ1 h1.nx D) (upd H1 D (.lst [])) ρ2 H' ∧ Rep B.S ρ2 h2 H' ∧ (evComp r j t cs x (wipeA s own) h1.nx m i h2).All (QW B.S ρ2 H' Q) (XW B.S ρ2 H' E), ⟨turns, _, h1.new (.lst []), Ext.refl, R1.new hD ⟨[], upd_same, rfl⟩, all_mono (e1.trans eN) (fun _ _ y => (y.mono e1).mono eN) q1⟩, ?_⟩
    rintro i m H' ⟨ρ2, h2, e2, R2, q2⟩
    have e02 : Ext B.S ρ1 H1 ρ2 H' := eN.trans e2
    have hd2 : ρ2 h1.nx = some D := e2.le _ _ (by unfold rhoNew; rw [if_pos rfl])
    have rs2 : RelS B.S ρ2 H' (wipeA s own) (wipe σ own) := (wipe_rel (rs.mono e1) own).mono e02
    cases m with
    | zero => exact q2.elim
    | succ m =>
      unfold evComp at q2
      split at q2
      · exact q2.elim
      · rename_i ej
        exact .inl ⟨hJ.stop e02 R2 ej, q2 ρ2 H' _ Ext.refl R2 ⟨D, hd2, rfl⟩⟩
      · rename_i y ej
        obtain ⟨g1, g2⟩ := hJ.step e02 R2 ej
        split at q2
        · exact q2.elim
        · rename_i s3 et
          refine .inr ⟨g1, fun H4 => ∃ ρ4 h4, Ext B.S (rhoNew ρ1 h1.nx D) (upd H1 D (.lst [])) ρ4 H4 ∧ Rep B.S ρ4 h4 H4 ∧ (evComp r j t cs x (wipeA s own) h1.nx m (i + 1) h4).All (QW B.S ρ4 H4 Q) (XW B.S ρ4 H4 E), fun H4 z => ⟨m, Nat.lt_succ_self m, z⟩, fun v H3 yy => ?_⟩
          obtain ⟨e3, R3, rv⟩ := g2 v H3 yy
          refine ⟨ρ2, wipeA s own, y, s3, rs2.mono e3, rv, et, fun σ3 rs3 bt => ⟨wipe_but bt hs, ?_⟩⟩
          have q3' := conds_nox (X' := XW B.S ρ2 H3 E0) (Out.all_bind (all_mono e3 (fun _ _ y => y) q2))
          refine ⟨ρ2, h2, s3, R3, rs3, q3'.mono (fun b h3 q4 => ?_) fun _ _ _ y => y⟩
          split at q4
          · refine ⟨true, rfl, fun ρ3 H5 e5 R5 => ?_⟩
            simp only [if_true]
            refine ⟨ρ3, h3, s3, R5, rs3.mono e5, ?_⟩
            have q5 := Out.all_bind (all_mono e5 (fun _ _ y => y) q4)
            refine (Out.all_nox q5).mono (fun z h4 q6 ρ4 H6 w e6 R6 rw6 => ?_) fun _ _ _ y => y
            split at q6
            · rename_i acc ga
              split at q6
              · rename_i hlen
                have e26 : Ext B.S (rhoNew ρ1 h1.nx D) (upd H1 D (.lst [])) ρ4 H6 := (e2.trans e3).trans (e5.trans e6)
                have hd4 : ρ4 h1.nx = some D := e26.le _ _ (by unfold rhoNew; rw [if_pos rfl])
                obtain ⟨us, hus, rus⟩ := lst_at' R6 hd4 ga
                have eP : Ext B.S ρ4 H6 ρ4 (upd H6 D (.lst (us ++ [w]))) := Ext.put hus True.intro
                refine ⟨us, hus, ?_, ρ4, h4.put h1.nx (.lst (acc ++ [z])), e26.trans eP, R6.put hd4 hus True.intro ⟨us ++ [w], upd_same, Rels.append (Rels.mono eP rus) (Rels.one (rw6.mono eP))⟩, ?_⟩
                · rw [Rels.length rus]
                  exact Nat.lt_of_lt_of_le hlen (by decide)
                · exact all_mono (e6.trans eP) (fun _ _ y => (y.mono (e3.trans e5)).mono (e6.trans eP)) q6
              · exact q6.elim
            · exact q6.elim
          · refine ⟨false, rfl, fun ρ3 H5 e5 R5 => ?_⟩
            simp only [Bool.false_eq_true, if_false]
            exact ⟨ρ3, h3, (e2.trans e3).trans e5, R5, all_mono e5 (fun _ _ y => y.mono (e3.trans e5)) q4⟩
          · exact q4.elim
end
end EV
set_option Elab.async false
set_option linter.all false
set_option maxRecDepth 100000
set_option maxHeartbeats 4000000
namespace EV
open PySem PySem.Spec PyProof.Rows L2 ER
section
variable {B : Bs} {k : Nat} {r : Rec} {c : Cc} {X : Cx} {E : XK} {call : Nat → List A → Hh → Out A}
theorem e_bare (BO : BOk B) (O : Ok B k c X E) {f : Str} {n : Nat} {p pos : Pos} (h1 : kindIs c.sc f .globalImplicit = true) (h2 : B.T.gl.lookup f = some (.bare n)) (h3 : okName f = true) :
    PE X (.Call (.Name f p) [] [] pos) (tE B.S E (stepE B.T.kit call r (.err0 n))) := by
  obtain ⟨Ca, bmB, Bn, newId, initId, g, hm, F, hx, hk⟩ := BO.bare f n h2
  exact PE.imp (pe_bare F (by rw [O.K]; exact hx) (by rw [O.mg]; exact hm) (by rw [O.K]; exact hk) (O.gl h1) (okName_d h3).1) fun _ _ _ q => q_err0 g q
/-! ### a dict made: it stays as it is -/
def tFrz (t : TE) : TE := fun σ H Q => t σ H fun v H1 => ∃ a u, v = .ref a ∧ H1 a = some u ∧ Mut (some u) ∧ ∀ od, Q v (upd H1 a (.frz od u))
theorem pe_frz {e : Expr} {t : TE} (h : PE X e t) : PE X e (tFrz t) := by
  refine ⟨fun pins s σ H Q I hq => ?_⟩
  refine thn (h.run pins s σ H _ I hq) fun u s1 ⟨v, H1, I1, r1, a, o, e, hv, mu, q⟩ => ?_
  obtain ⟨od, I2⟩ := I1.lock hv mu
  exact ⟨v, _, I2, r1, q od⟩
theorem upd2 {H : Hp} {p : Addr} {o o' : HO} : upd (upd H p o) p o' = upd H p o' := by
  funext b
  by_cases e : b = p
  · rw [e, upd_same, upd_same]
  · rw [upd_ne e, upd_ne e, upd_ne e]
theorem e_dct {x : Str} {j j' : Nat} {p p' pos : Pos} : PE X (.Dict [some (.Constant (.str x) j p)] [.Constant .none j' p'] pos) (tE B.S E (stepE B.T.kit call r (.dct (.str x) .non))) := by
  refine PE.imp (pe_frz (pe_disp (pps_cons pe_str pe_non pps_nil) rfl rfl (by simp) (by show 1 ≤ 15; decide))) fun σ H Q q => ?_
  obtain ⟨ρ, h, s, R, rs, q⟩ := q
  intro a na
  refine ⟨upd_same, [(.inr x, .non)], rfl, by show 1 ≤ 15; decide, a, _, rfl, upd_same, True.intro, fun od => ?_⟩
  rw [upd2, upd2]
  exact q _ _ _ (Ext.new R na) (R.new na ⟨od, _, upd_same, .inr x, .non, [], rfl, rfl, rfl, rfl⟩) ⟨a, by unfold rhoNew; rw [if_pos rfl], rfl⟩
theorem e_lam (BO : BOk B) (O : Ok B k c X E) {q : Str} {n : Nat} {params : Arguments} {body : Expr} {scope : Scope} {pos : Pos} (h1 : c.q = some q) (h2 : B.T.lam n = some ⟨q ++ "<lambda>", params, body, scope⟩) (h3 : ∀ env, defaultsOf params env = ([], [])) (h4 : (scope.names.all fun y => !(y.2 == NameKind.free)) = true) :
    PE X (.Lambda params body scope pos) (tE B.S E (stepE B.T.kit call r (.lam n))) := by
  obtain ⟨hq, ca, P, hc, TB, hm, hu⟩ := O.qual q h1
  subst hq
  refine PE.imp (pe_lam TB hc hm hu (h3 _) fun y hy => ?_) fun σ H Q q => ?_
  · have z := List.all_eq_true.mp h4 y hy
    simpa using z
  · obtain ⟨ρ, h, s, R, rs, q⟩ := q
    refine ⟨BO.tabs _ H R.fo, fun H1 f ca eN T1 nf nf1 hco => ?_⟩
    have eN2 : LamX.ExtN H (upd H1 f (LamO ⟨X.env.qual ++ "<lambda>", params, body, scope⟩ f ca)) := fun b o e n => by
      have z := eN b o e n
      rw [upd_ne (ne_of_none z nf1)]
      exact z
    have fo1 : B.S.Φ h.cnt (upd H1 f (LamO ⟨X.env.qual ++ "<lambda>", params, body, scope⟩ f ca)) := BO.lamF _ H _ R.fo eN2 (T1.ext fun b o e => by rw [upd_ne (ne_of_none e nf1)]; exact e)
    have hco2 : upd H1 f (LamO ⟨X.env.qual ++ "<lambda>", params, body, scope⟩ f ca) ca = some (LamX.CodeO ca (X.env.qual ++ "<lambda>")) := by rw [upd_ne (ne_of_none hco nf1)]; exact hco
    exact q _ _ _ (Ext.newN R eN2) (R.newN nf eN2 fo1 ⟨_, ca, BO.lamT _ _ h2, upd_same, hco2⟩) ⟨f, by unfold rhoNew; rw [if_pos rfl], rfl⟩
/-- a call of a local name: each lambda in turn -/
def tAnyLam (B : Bs) (call : Nat → List A → Hh → Out A) (i : Nat) (E : XK) (ta : TE) : TE := fun σ H Q => ∃ n t, B.T.lam n = some t ∧ tCallLam i t (spF B call n 1) E ta σ H Q
theorem e_callL (BO : BOk B) (CO : CallOk B k call) (O : Ok B k c X E) (I : Snd B k r) {x : Str} {i : Nat} {e : Expr} {y : EV.E} {p pos : Pos} (h1 : c.N[i]? = some x) (h2 : visB c.sc x = true) (h3 : okName x = true) (h4 : notStar e = true) (h5 : Cp B.T c e y) :
    PE X (.Call (.Name x p) [e] [] pos) (tE B.S E (stepE B.T.kit call r (.callL i y))) := by
  have key : PE X (.Call (.Name x p) [e] [] pos) (tAnyLam B call i E (tE B.S E (r.e y))) := by
    refine ⟨fun pins s σ H Q J hq => ?_⟩
    obtain ⟨n, t, hn, hq⟩ := hq
    have F : LamRun X.prog X.w X.K X.mg X.base k t (spF B call n 1) := by rw [O.P, O.w, O.K, O.mg, O.bs]; exact CO.lam n t hn
    exact (pe_callLam F O.room (by rw [O.N]; exact h1) (O.vis h2) O.pass (I.pe O h5) (okName_d h3).1 (okName_d h3).2 (star_cons h4)).run pins s σ H Q J hq
  refine PE.imp key fun σ H Q q => ?_
  obtain ⟨ρ, h, s, R, rs, q⟩ := q
  unfold stepE at q
  dsimp only at q
  split at q
  · rename_i l es
    split at q
    · rename_i n g
      obtain ⟨v, es1, rv⟩ := rs.2 i _ es
      obtain ⟨f, rfl, hf, t, ca, hn, hfo, hco⟩ := cell_at R rv g
      refine ⟨n, t, BO.lamS n t hn, f, es1, ⟨ca, hfo⟩, ρ, h, s, R, rs, go q fun a h1 q1 ρ1 H1 v1 e1 R1 rv1 => ?_⟩
      split at q1
      · rename_i m g1
        split at q1
        · rename_i em
          subst em
          obtain ⟨f2, ef, hf2, t2, ca2, hn2, hfo2, hco2⟩ := cell_at R1 (rv.mono e1) g1
          cases ef
          rw [hn] at hn2
          cases hn2
          exact ⟨ca2, hfo2, hco2, rfl, ρ1, h1, [a], R1, Rels.one rv1, all_mono e1 (fun _ _ y => y.mono e1) q1⟩
        · exact q1.elim
      · exact q1.elim
    · exact q.elim
  · exact q.elim
theorem ix_dict (hu : X.A.units + 1 < cLine) : IxR X rIxD := by
  intro a b pins s σ H x y v u Q I rx ry h hs
  obtain ⟨d, w, rfl, g, q⟩ := h
  cases rx
  have hT := dict_typeIs I g
  unfold subscriptTail
  refine wpAny_bind ?_
  rw [getitemInPython_of_ne hT.not_modules]
  refine wpAny_bind (wpAny_specialOf hT PySem.F.slot_dict_getitem.lookup ?_)
  have fin : wpAny (model X.prog X.w) X.A (subscripted b false (.ref d) u) (fun r s₃ => wpAny (model X.prog X.w) X.A (letTemporaryGo a (.ref d) r >>= fun _ => pure r) (EP X pins σ Q) X.xe s₃) X.xe s := by
    rw [hs]
    exact wpAny_operating (wpAny_mono (d_getItem (Q := EP X pins σ Q) hu I g ry fun w' s' I' r' => ⟨w, H, I', r', q⟩) (fun r s₃ h₃ => wpAny_bind (wpAny_letTemporaryGo (wpAny_pure h₃))) fun _ _ x => x)
  first
    | exact wpAny_pure (wpAny_bind fin)
    | exact wpAny_bind (wpAny_pure (wpAny_bind fin))
    | exact wpAny_bind fin
theorem e_idx (O : Ok B k c X E) (I : Snd B k r) {a b : Expr} {x y : EV.E} {pos : Pos} (h0 : (match b with | .Slice _ _ _ _ => false | .Tuple _ _ _ => false | _ => true) = true) (h1 : Cp B.T c a x) (h2 : Cp B.T c b y) : PE X (.Subscript a b pos) (tE B.S E (stepE B.T.kit call r (.idx x y))) := by
  have hu : X.A.units + 64 < cLine := O.room.units
  have hx : IxR X (fun v w H Q => (rIxL B.S.K v w H Q ∨ rIxT B.S.K v w H Q) ∨ rIxD v w H Q) := by
    rw [← O.K]
    exact IxR.or (IxR.or ix_list ix_tup) (ix_dict (by omega))
  refine PE.imp (pe_ix hx (I.pe O h1) (I.pe O h2) fun o i => ?_) fun σ H Q q => two idx_ok q
  cases h2 <;> rfl
end
end EV
set_option Elab.async false
set_option linter.all false
set_option maxRecDepth 100000
set_option maxHeartbeats 4000000
namespace EV
open PySem PySem.Spec PyProof.Rows L2 ER
section
variable {B : Bs} {k : Nat} {r : Rec} {c : Cc} {X : Cx} {E : XK} {call : Nat → List A → Hh → Out A}
theorem pl {e : Expr} {x : EV.E} (hp : plainT e = true) (h : PE X e (tE B.S E (stepE B.T.kit call r x))) : PE X e (tE B.S E (stepE B.T.kit call r x)) ∧ PT X e (tT B.S E (stepE B.T.kit call r x)) := ⟨h, pt_plain hp h⟩
theorem e_comp (BO : BOk B) (O : Ok B k c X E) (I : Snd B k r) {elt tg iter : Expr} {ifs : List Expr} {scope : Scope} {pos : Pos} {x : EV.E} {t : Tg} {it : EV.It} {cs : List EV.E} {own : List (Str × Nat)} (h1 : blkC c.N c.sc scope own = true) (h2 : (match iter with | .Set _ _ _ => false | _ => true) = true)
    (h3 : Ci B.T c tg iter it) (h4 : Ct ⟨c.N, scope, none⟩ tg t) (h5 : ((slotsT t).all fun i => (own.map (·.2)).contains i) = true) (h6 : Cps B.T ⟨c.N, scope, none⟩ ifs cs) (h7 : cs.length ≤ 1) (h8 : Cp B.T ⟨c.N, scope, none⟩ elt x) :
    PE X (.ListComp elt [⟨tg, iter, ifs, 0⟩] scope pos) (tE B.S E (stepE B.T.kit call r (.comp x t it cs (own.map (·.2))))) := by
  refine PE.imp (pe_lc O.calm (by rw [O.N]; exact O.nd) (p_it BO O I h3) (blk_ok O h1) (fun s H C cl fp => pg (ok_blk O) t h4) (fun s H C cl fp => p_conds (ok_blk O) I h6 h7) (fun s H C cl fp => I.pe (ok_blk O) h8) fun v => ?_) fun σ H Q q => q_comp (fun i hi => ?_) q
  · cases iter <;> first | rfl | cases h2
  · have z := List.all_eq_true.mp h5 i hi
    simpa using z
theorem e_of (BO : BOk B) (CO : CallOk B k call) (I : Snd B k r) (O : Ok B k c X E) {e : Expr} {x : EV.E} (h : Cp B.T c e x) : PE X e (tE B.S E (stepE B.T.kit call r x)) ∧ PT X e (tT B.S E (stepE B.T.kit call r x)) := by
  cases h with
  | var h1 h2 h3 => exact pl rfl (e_var O h1 h2 h3)
  | glob h1 h2 h3 h4 =>
    obtain ⟨C, v, rfl, g, hm⟩ := BO.glv _ _ _ h2 h3
    exact pl rfl (e_cst (pe_glob (O.gl h1) (by rw [O.mg]; exact hm) (v := .ref v) rfl (okName_d h4).1) fun ρ H => ⟨v, g, rfl⟩)
  | tyn h1 h2 h3 =>
    obtain ⟨z1, z2, z3⟩ := ty_boot h3
    exact pl rfl (e_cst (pe_bltn (O.gl h1) (O.fr BO h2) z1 (v := .ty _) rfl z2 z3) fun ρ H => rfl)
  | int => exact pl rfl (e_cst pe_int fun ρ H => rfl)
  | str => exact pl rfl (e_cst pe_str fun ρ H => rfl)
  | bl => exact pl rfl (e_cst pe_bl fun ρ H => rfl)
  | non => exact pl rfl (e_cst pe_non fun ρ H => rfl)
  | bin h1 h2 h3 => exact pl rfl (e_bin O I h1 h2 h3)
  | cmp h1 h2 h3 h4 => exact e_cmp O I h1 h2 h3 h4
  | isN h1 => exact e_isN O I h1
  | notN h1 => exact e_notN O I h1
  | and2 h1 h2 => exact ⟨PE.imp (pe_and (I.pe O h1) (pe_one (I.pe O h2))) fun _ _ _ q => q_and q, PT.imp (PW.pt (pw_and (I.pt O h1) (pw_and1 (I.pt O h2)))) fun _ _ _ q => t_and q⟩
  | andN h1 h2 => exact ⟨PE.imp (pe_and (I.pe O h1) (I.pe O h2)) fun _ _ _ q => q_and q, PT.imp (PW.pt (pw_and (I.pt O h1) (pw_of (I.pt O h2)))) fun _ _ _ q => t_and q⟩
  | or2 h1 h2 => exact ⟨PE.imp (pe_or (I.pe O h1) (pe_one (I.pe O h2))) fun _ _ _ q => q_or q, PT.imp (PW.pt (pw_or (I.pt O h1) (pw_or1 (I.pt O h2)))) fun _ _ _ q => t_or q⟩
  | orN h1 h2 => exact ⟨PE.imp (pe_or (I.pe O h1) (I.pe O h2)) fun _ _ _ q => q_or q, PT.imp (PW.pt (pw_or (I.pt O h1) (pw_of (I.pt O h2)))) fun _ _ _ q => t_or q⟩
  | not h1 => exact ⟨PE.imp (pe_not (I.pe O h1)) fun _ _ _ q => q_not q, PT.imp (pt_not (I.pt O h1)) fun _ _ _ q => t_not q⟩
  | neg => exact pl rfl (PE.imp (pe_un un_neg pe_int) fun σ H Q q => by
    obtain ⟨ρ, h, s, R, rs, q⟩ := q
    exact ⟨_, rfl, q ρ H _ Ext.refl R rfl⟩)
  | ife h1 h2 h3 => exact ⟨PE.imp (pe_ifExp (I.pt O h1) (I.pe O h2) (I.pe O h3)) fun _ _ _ q => q_ife q, PT.imp (pt_ifE (I.pt O h1) (I.pt O h2) (I.pt O h3)) fun _ _ _ q => t_ife q⟩
  | tup h1 => exact pl rfl (PE.imp (pe_tup (pas O I h1)) fun _ _ _ q => q_tup q)
  | lst h1 => exact pl rfl (PE.imp (pe_lst (pas O I h1)) fun _ _ _ q => q_lst q)
  | idx h0 h1 h2 => exact pl rfl (e_idx O I h0 h1 h2)
  | bi h1 h2 h3 h4 => exact pl rfl (e_bi BO O I h1 h2 h3 h4)
  | call h1 h2 h3 h4 => exact pl rfl (e_call CO O I h1 h2 h3 h4)
  | err h1 h2 h3 h4 h5 => exact pl rfl (e_err BO O I h1 h2 h3 h4 h5)
  | errK h1 h2 h3 h4 => exact pl rfl (e_errK BO O I h1 h2 h3 h4)
  | err0 h1 h2 h3 => exact pl rfl (e_err0 BO O h1 h2 h3)
  | bare h1 h2 h3 => exact pl rfl (e_bare BO O h1 h2 h3)
  | dct => exact pl rfl e_dct
  | lam h1 h2 h3 h4 => exact pl rfl (e_lam BO O h1 h2 h3 h4)
  | callL h1 h2 h3 h4 h5 => exact pl rfl (e_callL BO CO O I h1 h2 h3 h4 h5)
  | mt h1 h2 h3 h4 h5 h6 => exact pl rfl (e_mt O I h1 h2 h3 h4 h5 h6)
  | fld h1 h2 => exact pl rfl (e_fld BO O I h1 h2)
  | comp h1 h2 h3 h4 h5 h6 h7 h8 => exact pl rfl (e_comp BO O I h1 h2 h3 h4 h5 h6 h7 h8)
/-! ### statements -/
theorem sw_no {e : Expr} {tg : Option Expr} {l : Nat} {env : Env} (h : notComp e = true) : swapsWith e tg l env = pure false := by
  cases e <;> first | rfl | cases h
theorem q_asg {t : Tg} {x : EV.E} {D : Ends} {σ : L2.St} {H : Hp} {m : Sl → Hh → Out A} (q : tSs B.S E (fun s h => (m s h).bind fun a h1 => match evTg t a s with | some s1 => .ok (.nx s1) h1 | none => .bad) D σ H) : tAsg (tE B.S E m) (gTg B.S t) D σ H := by
  obtain ⟨ρ, h, s, R, rs, q⟩ := q
  refine ⟨ρ, h, s, R, rs, go q fun a h1 q1 ρ1 H1 v e1 R1 rv => ?_⟩
  split at q1
  · rename_i s1 et
    exact ⟨ρ1, s, a, s1, rs.mono e1, rv, et, fun σ' rs' _ => q1 ρ1 H1 e1 R1 σ' rs'⟩
  · exact q1.elim
theorem s_of (BO : BOk B) (CO : CallOk B k call) (I : Snd B k r) (O : Ok B k c X E) {st : Stmt} {x : Sm} (h : Cs B.T c st x) : PS X st (tSs B.S E (stepS r x)) := by
  cases h with
  | asg h1 h2 h3 h4 =>
    rename_i tg e t x pos
    have hst : (assignEach [tg] X.env).map (·.2) = [assign tg X.env] := by rw [tg_star h3]; rfl
    have hsw : swapsWithSole [tg] e pos.line X.env = pure false := sw_no h1
    have hss : swappedStores [tg] e X.env = pure none := by
      cases h3 with
      | nm _ _ => cases e <;> rfl
      | tp _ => cases e <;> first | rfl | cases h2
    exact PS.imp (ps_asg (I.pe O h4) (pg O t h3) hsw hss hst) fun D σ H q => q_asg (x := x) q
  | asgC g1 g2 g3 g4 h1 h2 h3 h4 h5 h6 h7 h8 =>
    rename_i y i elt tg iter ifs scope py pos spos x t it cs own
    have hyl : X.env.scope.names.lookup y = some .local := O.loc y (kindIs_ok g2)
    have lc : PS X (.Assign [.Name y py] (.ListComp elt [⟨tg, iter, ifs, 0⟩] scope pos) spos) (tAsg (tLc (iA B.S E (evIt r it)) (gTg B.S t) (tT B.S E0 (evConds r cs)) (tE B.S E0 (r.e x)) (own.map (·.2))) (gName i)) := by
      refine ⟨fun pins s σ H D J hq => ?_⟩
      exact (ps_setLc O.calm (by rw [O.N]; exact O.nd) (by rw [O.N]; exact g1) hyl (sw_true J.ok.kind hyl g3 g4) (p_it BO O I h3) (blk_ok O h1) (fun s H C cl fp => pg (ok_blk O) t h4) (fun s H C cl fp => p_conds (ok_blk O) I h6 h7) (fun s H C cl fp => I.pe (ok_blk O) h8) (fun v => by cases iter <;> first | rfl | cases h2)).run pins s σ H D J hq
    refine PS.imp lc fun D σ H q => q_comp (kit := B.T.kit) (call := call) (fun i hi => by simpa using List.all_eq_true.mp h5 i hi) ?_
    obtain ⟨ρ, h, s, R, rs, q⟩ := q
    exact ⟨ρ, h, s, R, rs, go q fun a h1 q1 ρ1 H1 v e1 R1 rv => q1 ρ1 H1 e1 R1 _ ((rs.mono e1).set rv)⟩
  | ex h1 h2 =>
    refine PS.imp (ps_expr (I.pe O h2) (sw_no h1)) fun D σ H q => ?_
    obtain ⟨ρ, h, s, R, rs, q⟩ := q
    exact ⟨ρ, h, s, R, rs, go q fun a h1 q1 ρ1 H1 v e1 R1 rv => q1 ρ1 H1 e1 R1 σ (rs.mono e1)⟩
  | ret h1 =>
    refine PS.imp (ps_ret (I.pe O h1)) fun D σ H q => ?_
    obtain ⟨ρ, h, s, R, rs, q⟩ := q
    exact ⟨ρ, h, s, R, rs, go q fun a h1 q1 ρ1 H1 v e1 R1 rv => q1 ρ1 H1 e1 R1 v rv⟩
  | ife h1 h2 h3 =>
    refine PS.imp (ps_if (I.pt O h1) (I.ss O h2) (I.ss O h3)) fun D σ H q => ?_
    obtain ⟨ρ, h, s, R, rs, q⟩ := q
    refine ⟨ρ, h, s, R, rs, go q fun a h1 q1 => ?_⟩
    split at q1
    · exact ⟨true, rfl, fun ρ1 H1 e1 R1 => by dsimp only; rw [if_pos rfl]; exact ⟨ρ1, h1, s, R1, rs.mono e1, all_mono e1 (fun _ _ y => y.mono e1) q1⟩⟩
    · exact ⟨false, rfl, fun ρ1 H1 e1 R1 => by dsimp only; rw [if_neg Bool.false_ne_true]; exact ⟨ρ1, h1, s, R1, rs.mono e1, all_mono e1 (fun _ _ y => y.mono e1) q1⟩⟩
    · exact q1.elim
  | «for» h0 h1 h2 h3 =>
    rename_i tg iter b t it bs pos
    exact PS.imp (ps_for O.own O.calm (p_it BO O I h1) (pg O t h2) (I.ss O h3) fun v => by cases iter <;> first | rfl | cases h0) fun D σ H q => q_for q
  | pass =>
    refine PS.imp ps_pass fun D σ H q => ?_
    obtain ⟨ρ, h, s, R, rs, q⟩ := q
    exact q ρ H Ext.refl R σ rs
theorem ss_of (BO : BOk B) (CO : CallOk B k call) (I : Snd B k r) (O : Ok B k c X E) {l : List Stmt} {xs : List Sm} (h : Css B.T c l xs) : PSs X l (tSs B.S E (stepSs r xs)) := by
  cases h with
  | nil =>
    refine PSs.imp pss_nil fun D σ H q => ?_
    obtain ⟨ρ, h, s, R, rs, q⟩ := q
    exact q ρ H Ext.refl R σ rs
  | cons h1 h2 =>
    refine PSs.imp (pss_cons (s_of BO CO I O h1) (I.ss O h2)) fun D σ H q => ?_
    obtain ⟨ρ, h, s, R, rs, q⟩ := q
    refine ⟨ρ, h, s, R, rs, go q fun f h1 q1 ρ1 H1 e1 R1 => ?_⟩
    cases f with
    | nx s1 => exact fun σ1 rs1 => ⟨ρ1, h1, s1, R1, rs1, all_mono e1 (fun _ _ y => y.mono e1) q1⟩
    | rt a => exact fun v rv => q1 ρ1 H1 e1 R1 v rv
    | bk s1 => exact fun σ1 rs1 => q1 ρ1 H1 e1 R1 σ1 rs1
    | ct s1 => exact fun σ1 rs1 => q1 ρ1 H1 e1 R1 σ1 rs1
theorem snd_evR (BO : BOk B) (CO : CallOk B k call) : ∀ n, Snd B k (evR B.T.kit call n)
  | 0 => ⟨fun O h => ⟨fun pins s σ H Q I q => by obtain ⟨_, _, _, _, _, q⟩ := q; exact q.elim⟩, fun O h => ⟨fun pins s σ H Q I q => by obtain ⟨_, _, _, _, _, q⟩ := q; exact q.elim⟩, fun O h => ⟨fun pins s σ H D I q => by obtain ⟨_, _, _, _, _, q⟩ := q; exact q.elim⟩⟩
  | n + 1 => ⟨fun O h => (e_of BO CO (snd_evR BO CO n) O h).1, fun O h => (e_of BO CO (snd_evR BO CO n) O h).2, fun O h => ss_of BO CO (snd_evR BO CO n) O h⟩
end
end EV
set_option Elab.async false
set_option linter.all false
set_option maxRecDepth 100000
set_option maxHeartbeats 4000000
namespace EV
open PySem PySem.Spec PyProof.Rows L2 ER
section
variable {B : Bs} {k : Nat} {E : XK}
/-- what a context asks where its body makes lambdas -/
def QOk (B : Bs) (qual : Str) (cd : Value) (qo : Option Str) : Prop := ∀ q, qo = some q → qual ++ ".<locals>." = q ∧ ∃ ca P, cd = .ref ca ∧ LamX.TabB B.base B.mg ca P ∧ (P, q ++ "<lambda>") ∈ B.tabs ∧ ∀ p ∈ B.tabs, p.1 = P → p.2 = q ++ "<lambda>"
theorem ok_cx {qual : Str} {scope : Scope} {N ps : List Str} {f : Addr} {cd : Value} {A : Around} {outer : List Env} {s : Shared} {H : Hp} {qo : Option Str} (S : FnScope N ps scope) (hr : Room k (A.deeper (envOfC qual scope s.heap.objs.size f cd))) (h2 : 2 ≤ k) (hq : QOk B qual cd qo) :
    Ok B k ⟨N, scope, qo⟩ (cxOf (L2.CX B.P B.w) B.P B.w B.S.K B.mg B.base N qual scope f cd A outer s H E) E where
  P := rfl
  w := rfl
  K := rfl
  mg := rfl
  bs := rfl
  N := rfl
  nd := S.nd
  calm := rfl
  room := hr
  r2 := hr.mono h2
  pass := passes_call (takes_of (E := E) rfl rfl rfl rfl) fun _ _ _ _ h => h
  own := passes_of (X := cxOf (L2.CX B.P B.w) B.P B.w B.S.K B.mg B.base N qual scope f cd A outer s H E) rfl
  loc := fun _ h => h
  cell := fun _ h => ⟨h, rfl⟩
  free := fun _ h => .inr h
  gi := fun _ h => h
  qual := hq
theorem start_rel {S : Sc} {ρ : Rho} {H : Hp} {as : List A} {vs : List V} {N : List Str} {n : Nat} (hn : n = N.length) (r : Rels S ρ H as vs) : RelS S ρ H (as.map some ++ List.replicate (n - as.length) none) (L2.start N vs) := by
  have hl := Rels.length r
  refine ⟨by unfold L2.start; simp [hl, hn], fun i x e => ?_⟩
  unfold L2.start
  by_cases hi : i < as.length
  · rw [List.getElem?_append_left (by simpa using hi)] at e
    rw [List.getElem?_map] at e
    cases z : as[i]? with
    | none => rw [z] at e; cases e
    | some a =>
      rw [z] at e
      cases e
      obtain ⟨v, e1, e2⟩ := Rels.getA r z
      refine ⟨v, ?_, e2⟩
      rw [List.getElem?_append_left (by simpa [hl] using hi), List.getElem?_map, e1]
      rfl
  · rw [List.getElem?_append_right (by simpa using hi)] at e
    rw [List.getElem?_replicate] at e
    split at e <;> cases e
/-- a def of the text -/
def DefD (B : Bs) (fns : List Fn) (x : Str) (f n : Nat) : Prop :=
  ∃ (a : Addr) (name qual : Str) (params : Arguments) (body : List Stmt) (scope : Scope) (dV kV doc pm cdv ct oc : Value) (an od : Option Addr) (osl : Array (Option Value)) (N ps : List Str) (fn : Fn) (qo : Option Str),
    fns[f]? = some fn ∧ fn.lam = none ∧ fn.names = N.length ∧ ps.length = n ∧ B.mg x = some (.ref a) ∧ PySem.W.keepIn B.S.K (.ref a) = true ∧ B.S.K.lookup a = some ⟨oc, od, .func (PySem.W.fnOf name qual params body scope dV kV doc pm an cdv ct), osl⟩ ∧ PySem.W.codeIn B.S.K cdv qual = true ∧ FnScope N ps scope ∧
    Binds B.S.K (PySem.W.fnOf name qual params body scope dV kV doc pm an cdv ct) ps [] ∧ Css B.T ⟨N, scope, qo⟩ body fn.body ∧ QOk B qual cdv qo
/-- a def whose promise is given -/
def PickD (B : Bs) (k : Nat) (g : List A → Hh → Out A) (x : Str) (f n : Nat) : Prop :=
  ∃ a fd ps, ps.length = n ∧ B.mg x = some (.ref a) ∧ PySem.W.keepIn B.S.K (.ref a) = true ∧ FnOk B.P B.w B.S.K B.mg B.base (L2.CX B.P B.w) k a fd ps (spF B (fun _ => g) f n) ∧ Binds B.S.K fd ps []
def LamD (B : Bs) (fns : List Fn) (n : Nat) (t : LamT) : Prop :=
  ∃ (fn : Fn) (e : EV.E) (N : List Str) (x : Str), fns[n]? = some fn ∧ fn.lam = some e ∧ fn.names = N.length ∧ FnScope N [x] t.scope ∧ (∀ (pm cv ctv u : Value), bindArgs (PySem.W.kla_fn "<lambda>" t.q t.params t.body t.scope [] pm cv ctv) ⟨[u], []⟩ = pure [(x, u)]) ∧ Cp B.T ⟨N, t.scope, none⟩ t.body e
theorem spF_bad {f n : Nat} {vs : List V} {H : Hp} {Q : VK} {E : XK} (h : spF B (fun _ _ _ => .bad) f n vs H Q E) : False := by
  obtain ⟨_, ρ, h, as, _, _, q⟩ := h
  exact q
theorem fn_bad {P : Program} {w : World} {K : PySem.W.Frag} {mg : Str → Option Value} {base : Heap} {CX : CXT} {a : Addr} {fd : FuncData} {ps : List Str} {f n : Nat} : FnOk P w K mg base CX k a fd ps (spF B (fun _ _ _ => .bad) f n) :=
  ⟨fun vs H Q E q => (spF_bad q).elim, fun _ _ _ _ _ _ _ _ _ _ _ _ _ q => (spF_bad q).elim⟩
theorem call_ok {F : Nat} {fns : List Fn} {pick : Nat → Option (List A → Hh → Out A)} {k0 : Nat} (h2 : 2 ≤ k0) (BO : BOk B) (defs : ∀ x f n, B.T.gl.lookup x = some (.fn f n) → (∃ g, pick f = some g ∧ PickD B k0 g x f n) ∨ (pick f = none ∧ DefD B fns x f n)) (lams : ∀ n t, B.T.lam n = some t → pick n = none ∧ LamD B fns n t) :
    ∀ d, CallOk B (k0 + d) (evC F B.T.kit fns pick d)
  | 0 => ⟨fun x f n hx => by
      rcases defs x f n hx with ⟨g, hp, a, fd, ps, e1, e2, e3, FF, hb⟩ | ⟨hp, a, name, qual, params, body, scope, dV, kV, doc, pm, cdv, ct, oc, an, od, osl, N, ps, fn, qo, d1, d2, d3, d4, d5, d6, d7, d8, d9, d10, d11, d12⟩
      · exact ⟨a, fd, ps, e1, e2, e3, fn_bad, hb⟩
      · exact ⟨a, _, ps, d4, d5, d6, fn_bad, d10⟩, fun n t ht => fun _ _ _ _ _ _ _ _ _ _ _ _ _ _ _ q => (spF_bad q).elim⟩
  | d + 1 => by
    have CO := call_ok (F := F) h2 BO defs lams d
    have SN : Snd B (k0 + d) (evR B.T.kit (evC F B.T.kit fns pick d) F) := snd_evR BO CO F
    refine ⟨fun x f n hx => ?_, fun n t ht => ?_⟩
    · rcases defs x f n hx with ⟨g, hp, a, fd, ps, e1, e2, e3, FF, hb⟩ | ⟨hp, a, name, qual, params, body, scope, dV, kV, doc, pm, cdv, ct, oc, an, od, osl, N, ps, fn, qo, d1, d2, d3, d4, d5, d6, d7, d8, d9, d10, d11, d12⟩
      · refine ⟨a, fd, ps, e1, e2, e3, (FF.mono (by omega)).imp fun vs H Q E q => ?_, hb⟩
        obtain ⟨hl, ρ, h, as, R, rs, q⟩ := q
        unfold evC at q
        rw [hp] at q
        exact ⟨hl, ρ, h, as, R, rs, q⟩
      · refine ⟨a, _, ps, d4, d5, d6, fn_of (k := k0 + d) d7 d8 d9 (fun vs H Q E q => by rw [q.1, d4]) fun A outer s H vs Q E hr q => ?_, d10⟩
        refine ⟨_, SN.ss (ok_cx (E := E) d9 hr (by omega) d12) d11, ?_⟩
        obtain ⟨hl, ρ, h, as, R, rs, q⟩ := q
        unfold evC at q
        rw [hp] at q
        dsimp only at q
        rw [d1] at q
        dsimp only at q
        rw [d2] at q
        dsimp only at q
        refine ⟨ρ, h, _, R, start_rel d3 rs, go q fun fl h1 q1 ρ1 H1 e1 R1 => ?_⟩
        cases fl with
        | nx s1 => exact fun σ1 rs1 => q1 ρ1 H1 _ e1 R1 rfl
        | rt a => exact fun v rv => q1 ρ1 H1 _ e1 R1 rv
        | bk s1 => exact q1.elim
        | ct s1 => exact q1.elim
    · obtain ⟨hp, fn, e, N, x, l1, l2, l3, l4, l5, l6⟩ := lams n t ht
      refine lam_run (k := k0 + d) (N := N) (x := x) l4 l5 fun A outer s H E f c v Q hr q => ?_
      refine ⟨_, SN.pe (ok_cx (E := E) (qo := none) l4 hr (by omega) (fun _ z => nomatch z)) l6, ?_⟩
      obtain ⟨hl, ρ, h, as, R, rs, q⟩ := q
      unfold evC at q
      rw [hp] at q
      dsimp only at q
      rw [l1] at q
      dsimp only at q
      rw [l2] at q
      exact ⟨ρ, h, _, R, start_rel l3 rs, q⟩
end
end EV
set_option Elab.async false
set_option linter.all false
set_option maxRecDepth 100000
set_option maxHeartbeats 4000000
namespace EV
open PySem PySem.Spec PyProof.Rows L2 ER
/-! ### the text read into the little language, the derivation beside it -/
abbrev Obs := List (Nat × LamT)
def OO (T : Tb) (o : Obs) : Prop := ∀ p ∈ o, T.lam p.1 = some p.2
theorem OO.l {T : Tb} {a b : Obs} (h : OO T (a ++ b)) : OO T a := fun p hp => h p (List.mem_append_left _ hp)
theorem OO.r {T : Tb} {a b : Obs} (h : OO T (a ++ b)) : OO T b := fun p hp => h p (List.mem_append_right _ hp)
structure RE (T : Tb) (c : Cc) (e : Expr) where
  x : E
  o : Obs
  ok : OO T o → Cp T c e x
structure REs (T : Tb) (c : Cc) (e : List Expr) where
  x : List E
  o : Obs
  ok : OO T o → Cps T c e x
structure RI (T : Tb) (c : Cc) (tg e : Expr) where
  x : It
  o : Obs
  ok : OO T o → Ci T c tg e x
structure RT (c : Cc) (e : Expr) where
  x : Tg
  ok : Ct c e x
structure RTs (c : Cc) (e : List Expr) where
  x : List Tg
  ok : Cts c e x
structure RS (T : Tb) (c : Cc) (e : Stmt) where
  x : Sm
  o : Obs
  ok : OO T o → Cs T c e x
structure RSs (T : Tb) (c : Cc) (e : List Stmt) where
  x : List Sm
  o : Obs
  ok : OO T o → Css T c e x
structure Ck (T : Tb) where
  e : (c : Cc) → (e : Expr) → Option (RE T c e)
  t : (c : Cc) → (e : Expr) → Option (RT c e)
  ss : (c : Cc) → (l : List Stmt) → Option (RSs T c l)
section
variable {T : Tb}
def cTs (k : Ck T) (c : Cc) : (es : List Expr) → Option (RTs c es)
  | [] => some ⟨[], .nil⟩
  | e :: es => match k.t c e, cTs k c es with
    | some a, some b => some ⟨a.x :: b.x, .cons a.ok b.ok⟩
    | _, _ => none
def stepT (k : Ck T) (c : Cc) (e : Expr) : Option (RT c e) := match e with
  | .Name x pos => if h : c.N[c.N.idxOf x]? = some x ∧ (kindIs c.sc x .local || kindIs c.sc x .cell) = true then some ⟨.nm (c.N.idxOf x), .nm h.1 h.2⟩ else none
  | .Tuple es n pos => match cTs k c es with
    | some r => some ⟨.tp r.x, .tp r.ok⟩
    | none => none
  | _ => none
def cEs (k : Ck T) (c : Cc) : (es : List Expr) → Option (REs T c es)
  | [] => some ⟨[], [], fun _ => .nil⟩
  | e :: es => if h : notStar e = true then match k.e c e, cEs k c es with
      | some a, some b => some ⟨a.x :: b.x, a.o ++ b.o, fun q => .cons h (a.ok q.l) (b.ok q.r)⟩
      | _, _ => none
    else none
def cName (T : Tb) (c : Cc) (x : Str) (pos : Pos) : Option (RE T c (.Name x pos)) :=
  if ho : okName x = true then
    if hv : visB c.sc x = true then (if h : c.N[c.N.idxOf x]? = some x then some ⟨.var (c.N.idxOf x), [], fun _ => .var h hv ho⟩ else none)
    else if hg : kindIs c.sc x .globalImplicit = true then
      match ht : T.gl.lookup x with
      | some g => match hv : g.val with
        | some a => some ⟨.cst a, [], fun _ => .glob hg ht hv ho⟩
        | none => none
      | none => if hf : T.free.contains x = true then (match hn : tyOf? x with
          | some n => some ⟨.cst (.ty n), [], fun _ => .tyn hg hf hn⟩
          | none => none) else none
    else none
  else none
def cCallN (k : Ck T) (c : Cc) (f : Str) (p : Pos) (es : List Expr) (pos : Pos) : Option (RE T c (.Call (.Name f p) es [] pos)) :=
  if ho : okName f = true then
    if hg : kindIs c.sc f .globalImplicit = true then
      match ht : T.gl.lookup f with
      | some (.fn n ar) => match cEs k c es with
        | some r => some ⟨.call n ar r.x, r.o, fun q => .call hg ht ho (r.ok q)⟩
        | none => none
      | some (.err n fl) => match es with
        | [e] => if hs : notStar e = true then (match k.e c e with
            | some r => some ⟨.err false n fl r.x, r.o, fun q => .err hg ht ho hs (r.ok q)⟩
            | none => none) else none
        | _ => none
      | some (.err0 n) => match es with
        | [] => some ⟨.err0 n, [], fun _ => .err0 hg ht ho⟩
        | _ => none
      | some (.bare n) => match es with
        | [] => some ⟨.err0 n, [], fun _ => .bare hg ht ho⟩
        | _ => none
      | some (.cls _) => none
      | none => if hf : T.free.contains f = true then (match hb : biOf f with
          | some b => match es with
            | e :: r => match cEs k c (e :: r) with
              | some q => some ⟨.bi b q.x, q.o, fun z => .bi hg hf hb (q.ok z)⟩
              | none => none
            | [] => none
          | none => none) else none
    else if hv : visB c.sc f = true then (if h : c.N[c.N.idxOf f]? = some f then (match es with
        | [e] => if hs : notStar e = true then (match k.e c e with
            | some r => some ⟨.callL (c.N.idxOf f) r.x, r.o, fun q => .callL h hv ho hs (r.ok q)⟩
            | none => none) else none
        | _ => none) else none)
    else none
  else none
def cSeq (k : Ck T) (c : Cc) (tg e : Expr) : Option (RI T c tg e) := match k.e c e with
  | some r => some ⟨.seq r.x, r.o, fun q => .seq (r.ok q)⟩
  | none => none
def cEnm (k : Ck T) (c : Cc) (tg : Expr) (f : Str) (p : Pos) (a : Expr) (pos : Pos) : Option (RI T c tg (.Call (.Name f p) [a] [] pos)) := match tg with
  | .Tuple ts kk tp => if he : f = "enumerate" ∧ kindIs c.sc "enumerate" .globalImplicit = true ∧ T.free.contains "enumerate" = true ∧ notStar a = true then
      match k.e c a with
      | some r => some ⟨.enm r.x, r.o, fun q => by rw [he.1]; exact .enm he.2.1 he.2.2.1 he.2.2.2 (r.ok q)⟩
      | none => none
    else cSeq k c _ _
  | _ => cSeq k c _ _
def cIt (k : Ck T) (c : Cc) (tg e : Expr) : Option (RI T c tg e) := match e with
  | .Call (.Name f p) [a] [] pos =>
    if hr : f = "range" ∧ kindIs c.sc "range" .globalImplicit = true ∧ T.free.contains "range" = true ∧ notStar a = true then
      match k.e c a with
      | some r => some ⟨.rng r.x, r.o, fun q => by rw [hr.1]; exact .rng hr.2.1 hr.2.2.1 hr.2.2.2 (r.ok q)⟩
      | none => none
    else cEnm k c tg f p a pos
  | .Call (.Name f p) [a, b] [] pos => match tg with
    | .Tuple ts kk tp => if hz : f = "zip" ∧ kindIs c.sc "zip" .globalImplicit = true ∧ T.free.contains "zip" = true ∧ notStar a = true ∧ notStar b = true then
        match k.e c a, k.e c b with
        | some r, some u => some ⟨.zp r.x u.x, r.o ++ u.o, fun q => by rw [hz.1]; exact .zp hz.2.1 hz.2.2.1 hz.2.2.2.1 hz.2.2.2.2 (r.ok q.l) (u.ok q.r)⟩
        | _, _ => none
      else cSeq k c _ _
    | _ => cSeq k c _ _
  | e => cSeq k c tg e
def nset (e : Expr) : Bool := match e with | .Set _ _ _ => false | _ => true
/-- the names of a comprehension's own -/
def ownOf (N : List Str) (scope : Scope) : List (Str × Nat) := (scope.names.filter fun y => (y.2 == .local || y.2 == .cell) && N.contains y.1).map fun y => (y.1, N.idxOf y.1)
structure RC (T : Tb) (c : Cc) (elt tg iter : Expr) (ifs : List Expr) (scope : Scope) where
  x : E
  t : Tg
  it : It
  cs : List E
  own : List (Str × Nat)
  o : Obs
  h1 : blkC c.N c.sc scope own = true
  h2 : nset iter = true
  h3 : OO T o → Ci T c tg iter it
  h4 : Ct ⟨c.N, scope, none⟩ tg t
  h5 : ((slotsT t).all fun i => (own.map (·.2)).contains i) = true
  h6 : OO T o → Cps T ⟨c.N, scope, none⟩ ifs cs
  h7 : cs.length ≤ 1
  h8 : OO T o → Cp T ⟨c.N, scope, none⟩ elt x
def cComp (k : Ck T) (c : Cc) (elt tg iter : Expr) (ifs : List Expr) (scope : Scope) : Option (RC T c elt tg iter ifs scope) :=
  match cIt k c tg iter, k.t ⟨c.N, scope, none⟩ tg, cEs k ⟨c.N, scope, none⟩ ifs, k.e ⟨c.N, scope, none⟩ elt with
  | some i, some t, some cs, some x =>
    if h : blkC c.N c.sc scope (ownOf c.N scope) = true ∧ nset iter = true ∧ ((slotsT t.x).all fun i => ((ownOf c.N scope).map (·.2)).contains i) = true ∧ cs.x.length ≤ 1 then
      some ⟨x.x, t.x, i.x, cs.x, ownOf c.N scope, i.o ++ (cs.o ++ x.o), h.1, h.2.1, fun q => i.ok q.l, t.ok, h.2.2.1, fun q => cs.ok q.r.l, h.2.2.2, fun q => x.ok q.r.r⟩
    else none
  | _, _, _, _ => none
def stepC (ln : Pos → Nat) (k : Ck T) (c : Cc) (e : Expr) : Option (RE T c e) := match e with
  | .Name x pos => cName T c x pos
  | .Constant (.int i) j pos => some ⟨.cst (.int i), [], fun _ => .int⟩
  | .Constant (.str x) j pos => some ⟨.cst (.str x), [], fun _ => .str⟩
  | .Constant (.bool b) j pos => some ⟨.cst (.bl b), [], fun _ => .bl⟩
  | .Constant .none j pos => some ⟨.cst .non, [], fun _ => .non⟩
  | .BinOp a op b pos => match ho : opOf op, k.e c a, k.e c b with
    | some o, some x, some y => some ⟨.bin o x.x y.x, x.o ++ y.o, fun q => .bin ho (x.ok q.l) (y.ok q.r)⟩
    | _, _, _ => none
  | .Compare a [.Is] [.Constant .none j p2] pos => match k.e c a with
    | some x => some ⟨.cmp .isN x.x (.cst .non), x.o, fun q => .isN (x.ok q)⟩
    | none => none
  | .Compare a [.IsNot] [.Constant .none j p2] pos => match k.e c a with
    | some x => some ⟨.cmp .notN x.x (.cst .non), x.o, fun q => .notN (x.ok q)⟩
    | none => none
  | .Compare a [op] [b] pos => match ho : cmpOf op, k.e c a, k.e c b with
    | some o, some x, some y => if hm : behindInMarks op b = false then some ⟨.cmp o x.x y.x, x.o ++ y.o, fun q => .cmp ho hm (x.ok q.l) (y.ok q.r)⟩ else none
    | _, _, _ => none
  | .BoolOp .And [a, b] pos => match k.e c a, k.e c b with
    | some x, some y => some ⟨.and x.x y.x, x.o ++ y.o, fun q => .and2 (x.ok q.l) (y.ok q.r)⟩
    | _, _ => none
  | .BoolOp .And (a :: b :: d :: r) pos => match k.e c a, k.e c (.BoolOp .And (b :: d :: r) pos) with
    | some x, some y => some ⟨.and x.x y.x, x.o ++ y.o, fun q => .andN (x.ok q.l) (y.ok q.r)⟩
    | _, _ => none
  | .BoolOp .Or [a, b] pos => match k.e c a, k.e c b with
    | some x, some y => some ⟨.or x.x y.x, x.o ++ y.o, fun q => .or2 (x.ok q.l) (y.ok q.r)⟩
    | _, _ => none
  | .BoolOp .Or (a :: b :: d :: r) pos => match k.e c a, k.e c (.BoolOp .Or (b :: d :: r) pos) with
    | some x, some y => some ⟨.or x.x y.x, x.o ++ y.o, fun q => .orN (x.ok q.l) (y.ok q.r)⟩
    | _, _ => none
  | .UnaryOp .Not a pos => match k.e c a with
    | some x => some ⟨.not x.x, x.o, fun q => .not (x.ok q)⟩
    | none => none
  | .UnaryOp .USub (.Constant (.int i) j p) pos => some ⟨.cst (.int (-i)), [], fun _ => .neg⟩
  | .IfExp t a b pos => match k.e c t, k.e c a, k.e c b with
    | some u, some x, some y => some ⟨.ife u.x x.x y.x, u.o ++ (x.o ++ y.o), fun q => .ife (u.ok q.l) (x.ok q.r.l) (y.ok q.r.r)⟩
    | _, _, _ => none
  | .Tuple es n pos => match cEs k c es with
    | some r => some ⟨.tup r.x, r.o, fun q => .tup (r.ok q)⟩
    | none => none
  | .List es pos => match cEs k c es with
    | some r => some ⟨.lst r.x, r.o, fun q => .lst (r.ok q)⟩
    | none => none
  | .Subscript a b pos => if h : (match b with | .Slice _ _ _ _ => false | .Tuple _ _ _ => false | _ => true) = true then (match k.e c a, k.e c b with
      | some x, some y => some ⟨.idx x.x y.x, x.o ++ y.o, fun q => .idx h (x.ok q.l) (y.ok q.r)⟩
      | _, _ => none) else none
  | .Call (.Name f p) [] [⟨some fl, a, kp⟩] pos => if ho : okName f = true ∧ kindIs c.sc f .globalImplicit = true then (match ht : T.gl.lookup f with
      | some (.err n fl') => if hf : fl' = fl then (match k.e c a with
          | some x => some ⟨.err true n fl x.x, x.o, fun q => .errK ho.2 (by rw [ht, hf]) ho.1 (x.ok q)⟩
          | none => none) else none
      | _ => none) else none
  | .Call (.Name f p) es [] pos => cCallN k c f p es pos
  | .Call (.Attribute o m ap) [a] [] pos => match hm : mtOf m, k.e c o, k.e c a with
    | some kd, some x, some y => if h : noSup o = true ∧ (ap.endLine == pos.line) = true ∧ notStar a = true then some ⟨.mt kd x.x [y.x], x.o ++ y.o, fun q => .mt hm h.1 h.2.1 h.2.2 (x.ok q.l) (y.ok q.r)⟩ else none
    | _, _, _ => none
  | .Attribute o f pos => if h : noSup o = true then (match k.e c o with
      | some x => some ⟨.fld x.x f, x.o, fun q => .fld h (x.ok q)⟩
      | none => none) else none
  | .Dict [some (.Constant (.str x) j p)] [.Constant .none j' p'] pos => some ⟨.dct (.str x) .non, [], fun _ => .dct⟩
  | .Lambda ⟨po, ar, va, ko, [], kw, []⟩ body scope pos => match hq : c.q with
    | some q => if h : (scope.names.all fun y => !(y.2 == NameKind.free)) = true then some ⟨.lam (ln pos), [(ln pos, ⟨q ++ "<lambda>", ⟨po, ar, va, ko, [], kw, []⟩, body, scope⟩)], fun z => .lam hq (z _ (List.mem_singleton.mpr rfl)) (fun env => rfl) h⟩ else none
    | none => none
  | .ListComp elt [⟨tg, iter, ifs, 0⟩] scope pos => match cComp k c elt tg iter ifs scope with
    | some r => some ⟨.comp r.x r.t r.it r.cs (r.own.map (·.2)), r.o, fun q => .comp r.h1 r.h2 (r.h3 q) r.h4 r.h5 (r.h6 q) r.h7 (r.h8 q)⟩
    | none => none
  | _ => none
def cS (k : Ck T) (c : Cc) (st : Stmt) : Option (RS T c st) := match st with
  | .Assign [.Name y py] (.ListComp elt [⟨tg, iter, ifs, 0⟩] scope pos) spos => match cComp k c elt tg iter ifs scope with
    | some r => if h : c.N[c.N.idxOf y]? = some y ∧ kindIs c.sc y .local = true ∧ (py.line == pos.line) = true ∧ (scope.names.any fun (n, k) => n == y && (k == .local || k == .cell)) = false then
        some ⟨.asgC (c.N.idxOf y) r.x r.t r.it r.cs (r.own.map (·.2)), r.o, fun q => .asgC h.1 h.2.1 h.2.2.1 h.2.2.2 r.h1 r.h2 (r.h3 q) r.h4 r.h5 (r.h6 q) r.h7 (r.h8 q)⟩ else none
    | none => none
  | .Assign [tg] e pos => if h : notComp e = true ∧ (match tg, e with | .Tuple _ _ _, .Tuple _ _ _ => false | _, _ => true) = true then (match k.t c tg, k.e c e with
      | some t, some x => some ⟨.asg t.x x.x, x.o, fun q => .asg h.1 h.2 t.ok (x.ok q)⟩
      | _, _ => none) else none
  | .Expr e pos => if h : notComp e = true then (match k.e c e with
      | some x => some ⟨.ex x.x, x.o, fun q => .ex h (x.ok q)⟩
      | none => none) else none
  | .Return (some e) pos => match k.e c e with
    | some x => some ⟨.ret x.x, x.o, fun q => .ret (x.ok q)⟩
    | none => none
  | .If t a b pos => match k.e c t, k.ss c a, k.ss c b with
    | some x, some as, some bs => some ⟨.ife x.x as.x bs.x, x.o ++ (as.o ++ bs.o), fun q => .ife (x.ok q.l) (as.ok q.r.l) (bs.ok q.r.r)⟩
    | _, _, _ => none
  | .For tg iter b [] pos => if h : (match iter with | .Set _ _ _ => false | _ => true) = true then (match cIt k c tg iter, k.t c tg, k.ss c b with
      | some i, some t, some bs => some ⟨.for t.x i.x bs.x, i.o ++ bs.o, fun q => .for h (i.ok q.l) t.ok (bs.ok q.r)⟩
      | _, _, _ => none) else none
  | .Pass pos => some ⟨.pass, [], fun _ => .pass⟩
  | _ => none
def stepCs (k : Ck T) (c : Cc) : (l : List Stmt) → Option (RSs T c l)
  | [] => some ⟨[], [], fun _ => .nil⟩
  | st :: r => match cS k c st, k.ss c r with
    | some x, some xs => some ⟨x.x :: xs.x, x.o ++ xs.o, fun q => .cons (x.ok q.l) (xs.ok q.r)⟩
    | _, _ => none
end
def ck (T : Tb) (ln : Pos → Nat) : Nat → Ck T
  | 0 => ⟨fun _ _ => none, fun _ _ => none, fun _ _ => none⟩
  | n + 1 => ⟨stepC ln (ck T ln n), stepT (ck T ln n), stepCs (ck T ln n)⟩
/-- read: as given -/
theorem css_by {T : Tb} {ln : Pos → Nat} {n : Nat} {c : Cc} {l : List Stmt} {xs : List Sm} {o : Obs} (h : ((ck T ln n).ss c l).map (fun r => (r.x, r.o)) = some (xs, o)) (q : OO T o) : Css T c l xs := by
  cases z : (ck T ln n).ss c l with
  | none => rw [z] at h; cases h
  | some r => rw [z] at h; cases h; exact r.ok q
theorem cp_by {T : Tb} {ln : Pos → Nat} {n : Nat} {c : Cc} {e : Expr} {x : E} {o : Obs} (h : ((ck T ln n).e c e).map (fun r => (r.x, r.o)) = some (x, o)) (q : OO T o) : Cp T c e x := by
  cases z : (ck T ln n).e c e with
  | none => rw [z] at h; cases h
  | some r => rw [z] at h; cases h; exact r.ok q
end EV
set_option Elab.async false
set_option linter.all false
set_option maxRecDepth 100000
set_option maxHeartbeats 4000000
namespace EV
open PySem PySem.Spec PyProof.Rows L2 ER
/-! ### outcomes checked -/
def Out.chk {α : Type} (p : α → Hh → Bool) : Out α → Bool
  | .ok a h => p a h
  | .exc _ _ _ => false
  | .bad => false
  | .pick n k => (List.range n).all fun r => Out.chk p (k r)
theorem Out.chk_all {α : Type} {p : α → Hh → Bool} {X : Nat → List (Str × A) → Hh → Prop} : ∀ {m : Out α}, m.chk p = true → m.All (fun a h => p a h = true) X
  | .ok a h, q => q
  | .exc _ _ _, q => nomatch (show false = true from q)
  | .bad, q => nomatch (show false = true from q)
  | .pick n k, q => fun r hr => Out.chk_all (List.all_eq_true.mp q r (List.mem_range.mpr hr))
/-! ### a new start: what is no longer asked for is let go -/
section
variable {S : Sc} {ρ : Rho} {h : Hh} {H : Hp}
theorem Rep.none {m : Nat} (R : Rep S ρ h H) (hm : h.cnt ≤ m) : Rep S (fun _ => .none) ⟨.z, .e, m⟩ H where
  cell := fun l c q => by
    have z : Tr.get l .e = some c := q
    rw [Tr.get_e] at z
    cases z
  dom := fun l a q => nomatch q
  inj := fun l l' a q => nomatch q
  fresh := fun l c q => by
    have z : Tr.get l .e = some c := q
    rw [Tr.get_e] at z
    cases z
  fo := S.wid _ _ _ R.fo hm
  foF := fun l a q => nomatch q
theorem one_get {c c' : Cell} {l : Bn} (q : Tr.get l (.b (some c) .e .e) = some c') : l = .z ∧ c' = c := by
  cases l with
  | z => exact ⟨rfl, (Option.some.inj q).symm⟩
  | s i =>
    have z : Tr.get i .e = some c' := q
    rw [Tr.get_e] at z
    cases z
  | t i =>
    have z : Tr.get i .e = some c' := q
    rw [Tr.get_e] at z
    cases z
theorem Rep.one {m : Nat} {l : Bn} {a : Addr} {c : Cell} (R : Rep S ρ h H) (hm : h.cnt ≤ m) (hl : ρ l = some a) (hc : ∀ ρ', COk S ρ' H c a) : Rep S (fun j => if j = .z then some a else .none) ⟨.s .z, .b (some c) .e .e, m⟩ H where
  cell := fun l c' q => by
    obtain ⟨rfl, rfl⟩ := one_get q
    exact ⟨a, if_pos rfl, hc _⟩
  dom := fun l b q => by
    by_cases e : l = .z
    · subst e; exact ⟨c, rfl⟩
    · rw [if_neg e] at q; cases q
  inj := fun l l' b q q' => by
    by_cases e : l = .z
    · by_cases e' : l' = .z
      · rw [e, e']
      · rw [if_neg e'] at q'; cases q'
    · rw [if_neg e] at q; cases q
  fresh := fun l c' q => by
    obtain ⟨rfl, rfl⟩ := one_get q
    exact Nat.lt.base 0
  fo := S.wid _ _ _ R.fo hm
  foF := fun l b q => by
    by_cases e : l = .z
    · rw [if_pos e] at q
      cases q
      exact R.foF _ _ hl
    · rw [if_neg e] at q; cases q
end
/-! ### readings by cases -/
theorem ps_ex {ι : Type} {X : Cx} {st : Stmt} {t : ι → TS} (h : ∀ i, PS X st (t i)) : PS X st (fun D σ H => ∃ i, t i D σ H) := ⟨fun pins s σ H D I q => by
  obtain ⟨i, q⟩ := q
  exact (h i).run pins s σ H D I q⟩
theorem pss_ex {ι : Type} {X : Cx} {l : List Stmt} {t : ι → TS} (h : ∀ i, PSs X l (t i)) : PSs X l (fun D σ H => ∃ i, t i D σ H) := ⟨fun pins s σ H D I q => by
  obtain ⟨i, q⟩ := q
  exact (h i).run pins s σ H D I q⟩
theorem pe_ex {ι : Type} {X : Cx} {e : Expr} {t : ι → TE} (h : ∀ i, PE X e (t i)) : PE X e (fun σ H Q => ∃ i, t i σ H Q) := ⟨fun pins s σ H D I q => by
  obtain ⟨i, q⟩ := q
  exact (h i).run pins s σ H D I q⟩
end EV
set_option Elab.async false
set_option linter.all false
set_option maxRecDepth 100000
set_option maxHeartbeats 4000000
namespace K01
open PySem PySem.Spec PyProof.Rows L2 ER EV
def irOne : List Sm := [EV.Sm.ret (EV.E.idx (EV.E.var 1) (EV.E.call 2 2 [EV.E.var 0, EV.E.bi (EV.Bi.len) [EV.E.var 1]]))]
def irSame : List Sm := [EV.Sm.ife
   (EV.E.bi (EV.Bi.isi) [EV.E.var 1, EV.E.cst (EV.A.ty 5)])
   [EV.Sm.ife
      (EV.E.or
        (EV.E.not (EV.E.bi (EV.Bi.isi) [EV.E.var 0, EV.E.cst (EV.A.ty 5)]))
        (EV.E.cmp (EV.Cop.ne) (EV.E.bi (EV.Bi.len) [EV.E.var 0]) (EV.E.bi (EV.Bi.len) [EV.E.var 1])))
      [EV.Sm.ret (EV.E.cst (EV.A.bl false))]
      [],
    EV.Sm.ret
      (EV.E.bi
        (EV.Bi.all)
        [EV.E.comp
           (EV.E.and
             (EV.E.cmp (EV.Cop.inn) (EV.E.var 2) (EV.E.var 0))
             (EV.E.call 1 2 [EV.E.idx (EV.E.var 0) (EV.E.var 2), EV.E.idx (EV.E.var 1) (EV.E.var 2)]))
           (EV.Tg.nm 2)
           (EV.It.seq (EV.E.var 1))
           []
           [2]])]
   [],
 EV.Sm.ife
   (EV.E.bi (EV.Bi.isi) [EV.E.var 1, EV.E.tup [EV.E.cst (EV.A.ty 3), EV.E.cst (EV.A.ty 4)]])
   [EV.Sm.ife
      (EV.E.or
        (EV.E.cmp
          (EV.Cop.ne)
          (EV.E.bi (EV.Bi.isi) [EV.E.var 0, EV.E.cst (EV.A.ty 3)])
          (EV.E.bi (EV.Bi.isi) [EV.E.var 1, EV.E.cst (EV.A.ty 3)]))
        (EV.E.cmp
          (EV.Cop.ne)
          (EV.E.bi (EV.Bi.isi) [EV.E.var 0, EV.E.cst (EV.A.ty 4)])
          (EV.E.bi (EV.Bi.isi) [EV.E.var 1, EV.E.cst (EV.A.ty 4)])))
      [EV.Sm.ret (EV.E.cst (EV.A.bl false))]
      [],
    EV.Sm.ret
      (EV.E.and
        (EV.E.cmp (EV.Cop.eq) (EV.E.bi (EV.Bi.len) [EV.E.var 0]) (EV.E.bi (EV.Bi.len) [EV.E.var 1]))
        (EV.E.bi
          (EV.Bi.all)
          [EV.E.comp
             (EV.E.call 1 2 [EV.E.var 3, EV.E.var 4])
             (EV.Tg.tp [EV.Tg.nm 3, EV.Tg.nm 4])
             (EV.It.zp (EV.E.var 0) (EV.E.var 1))
             []
             [3, 4]]))]
   [],
 EV.Sm.ife
   (EV.E.bi (EV.Bi.isi) [EV.E.var 1, EV.E.cst (EV.A.ty 0)])
   [EV.Sm.ret
      (EV.E.and
        (EV.E.bi (EV.Bi.isi) [EV.E.var 0, EV.E.cst (EV.A.ty 0)])
        (EV.E.and
          (EV.E.cmp
            (EV.Cop.eq)
            (EV.E.bi (EV.Bi.isi) [EV.E.var 0, EV.E.cst (EV.A.ty 1)])
            (EV.E.bi (EV.Bi.isi) [EV.E.var 1, EV.E.cst (EV.A.ty 1)]))
          (EV.E.cmp (EV.Cop.eq) (EV.E.var 0) (EV.E.var 1))))]
   [],
 EV.Sm.ret
   (EV.E.and
     (EV.E.not
       (EV.E.bi
         (EV.Bi.isi)
         [EV.E.var 0,
          EV.E.tup [EV.E.cst (EV.A.ty 0), EV.E.cst (EV.A.ty 3), EV.E.cst (EV.A.ty 4), EV.E.cst (EV.A.ty 5)]]))
     (EV.E.cmp (EV.Cop.eq) (EV.E.var 0) (EV.E.var 1)))]
def irFirst : List Sm := [EV.Sm.asg
   (EV.Tg.nm 1)
   (EV.E.lst
     [EV.E.tup
        [EV.E.lst
           [EV.E.err false 1 { cps := #[105, 110, 100, 101, 120] } (EV.E.var 0),
            EV.E.err true 1 { cps := #[105, 110, 100, 101, 120] } (EV.E.var 0)],
         EV.E.lam 6]]),
 EV.Sm.ex
   (EV.E.mt
     (EV.Mt.app)
     (EV.E.var 1)
     [EV.E.tup
        [EV.E.lst
           [EV.E.err false 2 { cps := #[109, 97, 110, 121] } (EV.E.var 0),
            EV.E.err true 2 { cps := #[109, 97, 110, 121] } (EV.E.var 0)],
         EV.E.lam 7]]),
 EV.Sm.ex
   (EV.E.mt
     (EV.Mt.app)
     (EV.E.var 1)
     [EV.E.tup
        [EV.E.lst
           [EV.E.err false 3 { cps := #[115, 105, 122, 101] } (EV.E.var 0),
            EV.E.err true 3 { cps := #[115, 105, 122, 101] } (EV.E.var 0)],
         EV.E.lam 8]]),
 EV.Sm.ex
   (EV.E.mt
     (EV.Mt.app)
     (EV.E.var 1)
     [EV.E.tup
        [EV.E.lst
           [EV.E.err false 4 { cps := #[114, 111, 119] } (EV.E.var 0),
            EV.E.err true 4 { cps := #[114, 111, 119] } (EV.E.var 0)],
         EV.E.lam 9]]),
 EV.Sm.ex
   (EV.E.mt
     (EV.Mt.app)
     (EV.E.var 1)
     [EV.E.tup
        [EV.E.lst
           [EV.E.err false 5 { cps := #[109, 97, 110, 121] } (EV.E.var 0),
            EV.E.err true 5 { cps := #[109, 97, 110, 121] } (EV.E.var 0)],
         EV.E.lam 10]]),
 EV.Sm.ex
   (EV.E.mt
     (EV.Mt.app)
     (EV.E.var 1)
     [EV.E.tup
        [EV.E.lst
           [EV.E.err false 6 { cps := #[115, 105, 122, 101] } (EV.E.var 0),
            EV.E.err true 6 { cps := #[115, 105, 122, 101] } (EV.E.var 0)],
         EV.E.lam 11]]),
 EV.Sm.ex
   (EV.E.mt
     (EV.Mt.app)
     (EV.E.var 1)
     [EV.E.tup
        [EV.E.lst
           [EV.E.err false 7 { cps := #[112, 111, 119, 101, 114] } (EV.E.var 0),
            EV.E.err true 7 { cps := #[112, 111, 119, 101, 114] } (EV.E.var 0)],
         EV.E.lam 12]]),
 EV.Sm.ex
   (EV.E.mt
     (EV.Mt.app)
     (EV.E.var 1)
     [EV.E.tup
        [EV.E.lst
           [EV.E.err false 8 { cps := #[105, 110, 100, 101, 120] } (EV.E.var 0),
            EV.E.err true 8 { cps := #[105, 110, 100, 101, 120] } (EV.E.var 0)],
         EV.E.lam 13]]),
 EV.Sm.ex
   (EV.E.mt
     (EV.Mt.app)
     (EV.E.var 1)
     [EV.E.tup
        [EV.E.lst
           [EV.E.err false 9 { cps := #[116, 104, 105, 110, 103] } (EV.E.var 0),
            EV.E.err true 9 { cps := #[116, 104, 105, 110, 103] } (EV.E.var 0)],
         EV.E.lam 14]]),
 EV.Sm.ret (EV.E.var 1)]
def irOthers : List Sm := [EV.Sm.asg
   (EV.Tg.nm 1)
   (EV.E.lst
     [EV.E.tup
        [EV.E.lst
           [EV.E.err false 10 { cps := #[116, 104, 105, 110, 103] } (EV.E.var 0),
            EV.E.err true 10 { cps := #[116, 104, 105, 110, 103] } (EV.E.var 0)],
         EV.E.lam 17]]),
 EV.Sm.ex
   (EV.E.mt
     (EV.Mt.app)
     (EV.E.var 1)
     [EV.E.tup
        [EV.E.lst
           [EV.E.err false 12 { cps := #[105, 110, 100, 101, 120] } (EV.E.var 0),
            EV.E.err true 12 { cps := #[105, 110, 100, 101, 120] } (EV.E.var 0)],
         EV.E.lam 18]]),
 EV.Sm.ex
   (EV.E.mt
     (EV.Mt.app)
     (EV.E.var 1)
     [EV.E.tup
        [EV.E.lst
           [EV.E.err false 14 { cps := #[105, 110, 100, 101, 120] } (EV.E.var 0),
            EV.E.err true 14 { cps := #[105, 110, 100, 101, 120] } (EV.E.var 0)],
         EV.E.lam 19]]),
 EV.Sm.ex
   (EV.E.mt
     (EV.Mt.app)
     (EV.E.var 1)
     [EV.E.tup
        [EV.E.lst
           [EV.E.err false 15 { cps := #[114, 111, 119] } (EV.E.var 0),
            EV.E.err true 15 { cps := #[114, 111, 119] } (EV.E.var 0)],
         EV.E.lam 20]]),
 EV.Sm.ex
   (EV.E.mt
     (EV.Mt.app)
     (EV.E.var 1)
     [EV.E.tup
        [EV.E.lst
           [EV.E.err false 16 { cps := #[119, 111, 114, 100] } (EV.E.var 0),
            EV.E.err true 16 { cps := #[119, 111, 114, 100] } (EV.E.var 0)],
         EV.E.lam 21]]),
 EV.Sm.ex
   (EV.E.mt
     (EV.Mt.app)
     (EV.E.var 1)
     [EV.E.tup
        [EV.E.lst
           [EV.E.err false 17 { cps := #[119, 111, 114, 100] } (EV.E.var 0),
            EV.E.err true 17 { cps := #[119, 111, 114, 100] } (EV.E.var 0)],
         EV.E.lam 22]]),
 EV.Sm.ex
   (EV.E.mt
     (EV.Mt.app)
     (EV.E.var 1)
     [EV.E.tup
        [EV.E.lst
           [EV.E.err false 19 { cps := #[97, 116] } (EV.E.var 0), EV.E.err true 19 { cps := #[97, 116] } (EV.E.var 0)],
         EV.E.lam 23]]),
 EV.Sm.ex
   (EV.E.mt
     (EV.Mt.app)
     (EV.E.var 1)
     [EV.E.tup
        [EV.E.lst
           [EV.E.err false 20 { cps := #[108, 105, 110, 101] } (EV.E.var 0),
            EV.E.err true 20 { cps := #[108, 105, 110, 101] } (EV.E.var 0)],
         EV.E.lam 24]]),
 EV.Sm.ex
   (EV.E.mt
     (EV.Mt.app)
     (EV.E.var 1)
     [EV.E.tup
        [EV.E.lst
           [EV.E.err false 22 { cps := #[119, 97, 121] } (EV.E.var 0),
            EV.E.err true 22 { cps := #[119, 97, 121] } (EV.E.var 0)],
         EV.E.lam 25]]),
 EV.Sm.ex
   (EV.E.mt
     (EV.Mt.app)
     (EV.E.var 1)
     [EV.E.tup
        [EV.E.lst
           [EV.E.err false 23 { cps := #[112, 108, 97, 99, 101] } (EV.E.var 0),
            EV.E.err true 23 { cps := #[112, 108, 97, 99, 101] } (EV.E.var 0)],
         EV.E.lam 26]]),
 EV.Sm.ret (EV.E.var 1)]
def irClasses : List Sm := [EV.Sm.asg
   (EV.Tg.nm 1)
   (EV.E.lst
     [EV.E.bi (EV.Bi.isi) [EV.E.var 0, EV.E.cst (EV.A.glo 1)],
      EV.E.bi (EV.Bi.isi) [EV.E.var 0, EV.E.cst (EV.A.glo 2)],
      EV.E.bi (EV.Bi.isi) [EV.E.var 0, EV.E.cst (EV.A.glo 3)],
      EV.E.bi (EV.Bi.isi) [EV.E.var 0, EV.E.cst (EV.A.glo 4)]]),
 EV.Sm.ex
   (EV.E.mt
     (EV.Mt.ext)
     (EV.E.var 1)
     [EV.E.lst
        [EV.E.bi (EV.Bi.isi) [EV.E.var 0, EV.E.cst (EV.A.glo 5)],
         EV.E.bi (EV.Bi.isi) [EV.E.var 0, EV.E.cst (EV.A.glo 6)],
         EV.E.bi (EV.Bi.isi) [EV.E.var 0, EV.E.cst (EV.A.glo 7)],
         EV.E.bi (EV.Bi.isi) [EV.E.var 0, EV.E.cst (EV.A.glo 8)]]]),
 EV.Sm.ex
   (EV.E.mt
     (EV.Mt.ext)
     (EV.E.var 1)
     [EV.E.lst
        [EV.E.bi (EV.Bi.isi) [EV.E.var 0, EV.E.cst (EV.A.glo 9)],
         EV.E.bi (EV.Bi.isi) [EV.E.var 0, EV.E.cst (EV.A.glo 10)],
         EV.E.bi (EV.Bi.isi) [EV.E.var 0, EV.E.cst (EV.A.glo 12)]]]),
 EV.Sm.ex (EV.E.mt (EV.Mt.app) (EV.E.var 1) [EV.E.bi (EV.Bi.isi) [EV.E.var 0, EV.E.cst (EV.A.glo 14)]]),
 EV.Sm.ex
   (EV.E.mt
     (EV.Mt.ext)
     (EV.E.var 1)
     [EV.E.lst
        [EV.E.bi (EV.Bi.isi) [EV.E.var 0, EV.E.cst (EV.A.glo 15)],
         EV.E.bi (EV.Bi.isi) [EV.E.var 0, EV.E.cst (EV.A.glo 16)],
         EV.E.bi (EV.Bi.isi) [EV.E.var 0, EV.E.cst (EV.A.glo 17)],
         EV.E.bi (EV.Bi.isi) [EV.E.var 0, EV.E.cst (EV.A.glo 19)]]]),
 EV.Sm.ex
   (EV.E.mt
     (EV.Mt.ext)
     (EV.E.var 1)
     [EV.E.lst
        [EV.E.bi (EV.Bi.isi) [EV.E.var 0, EV.E.cst (EV.A.glo 20)],
         EV.E.bi (EV.Bi.isi) [EV.E.var 0, EV.E.cst (EV.A.glo 22)],
         EV.E.bi (EV.Bi.isi) [EV.E.var 0, EV.E.cst (EV.A.glo 23)],
         EV.E.bi (EV.Bi.isi) [EV.E.var 0, EV.E.cst (EV.A.glo 11)]]]),
 EV.Sm.ex
   (EV.E.mt
     (EV.Mt.ext)
     (EV.E.var 1)
     [EV.E.lst
        [EV.E.bi (EV.Bi.isi) [EV.E.var 0, EV.E.cst (EV.A.glo 13)],
         EV.E.bi (EV.Bi.isi) [EV.E.var 0, EV.E.cst (EV.A.glo 18)],
         EV.E.bi (EV.Bi.isi) [EV.E.var 0, EV.E.cst (EV.A.glo 21)]]]),
 EV.Sm.ret (EV.E.var 1)]
def irLoop : List Sm := [EV.Sm.asg (EV.Tg.nm 3) (EV.E.lst [EV.E.call 2 2 [EV.E.var 1, EV.E.cst (EV.A.int 9)]]),
 EV.Sm.asg
   (EV.Tg.nm 4)
   (EV.E.lst
     [EV.E.cst (EV.A.int 0),
      EV.E.cst (EV.A.int (-1)),
      EV.E.cst (EV.A.bl true),
      EV.E.cst (EV.A.non),
      EV.E.cst (EV.A.str { cps := #[] }),
      EV.E.cst (EV.A.str { cps := #[97, 32, 98] }),
      EV.E.tup [EV.E.cst (EV.A.str { cps := #[114, 101, 100] }), EV.E.cst (EV.A.int 0)],
      EV.E.dct (EV.A.str { cps := #[120] }) (EV.A.non),
      EV.E.bin (EV.Bop.add) (EV.E.bin (EV.Bop.pow) (EV.E.cst (EV.A.int 10)) (EV.E.cst (EV.A.int 29))) (EV.E.var 2),
      EV.E.var 3]),
 EV.Sm.asg (EV.Tg.nm 5) (EV.E.call 0 2 [EV.E.var 1, EV.E.bin (EV.Bop.add) (EV.E.var 4) (EV.E.lst [EV.E.var 3])]),
 EV.Sm.asg (EV.Tg.nm 6) (EV.E.bin (EV.Bop.add) (EV.E.call 3 1 [EV.E.var 5]) (EV.E.call 4 1 [EV.E.var 5])),
 EV.Sm.for
   (EV.Tg.tp [EV.Tg.nm 7, EV.Tg.tp [EV.Tg.nm 8, EV.Tg.nm 9]])
   (EV.It.enm (EV.E.var 6))
   [EV.Sm.for
      (EV.Tg.nm 10)
      (EV.It.seq (EV.E.var 8))
      [EV.Sm.ife
         (EV.E.or
           (EV.E.not (EV.E.bi (EV.Bi.isi) [EV.E.var 10, EV.E.cst (EV.A.glo 0)]))
           (EV.E.or
             (EV.E.not (EV.E.bi (EV.Bi.isi) [EV.E.var 10, EV.E.cst (EV.A.ty 7)]))
             (EV.E.not (EV.E.call 1 2 [EV.E.callL 9 (EV.E.var 10), EV.E.var 5]))))
         [EV.Sm.ret (EV.E.cst (EV.A.bl false))]
         [],
       EV.Sm.ife
         (EV.E.bi
           (EV.Bi.isi)
           [EV.E.var 10, EV.E.tup [EV.E.cst (EV.A.ty 8), EV.E.cst (EV.A.ty 9), EV.E.cst (EV.A.ty 10)]])
         [EV.Sm.ret (EV.E.cst (EV.A.bl false))]
         [],
       EV.Sm.ife
         (EV.E.cmp
           (EV.Cop.ne)
           (EV.E.call 5 1 [EV.E.var 10])
           (EV.E.comp
             (EV.E.cmp (EV.Cop.eq) (EV.E.var 13) (EV.E.var 7))
             (EV.Tg.nm 13)
             (EV.It.rng (EV.E.cst (EV.A.int 23)))
             []
             [13]))
         [EV.Sm.ret (EV.E.cst (EV.A.bl false))]
         []]],
 EV.Sm.asg (EV.Tg.nm 11) (EV.E.lst [EV.E.err0 11, EV.E.err0 13, EV.E.err0 18, EV.E.err0 21]),
 EV.Sm.for
   (EV.Tg.tp [EV.Tg.nm 7, EV.Tg.nm 10])
   (EV.It.enm (EV.E.var 11))
   [EV.Sm.asgC
      12
      (EV.E.cmp (EV.Cop.eq) (EV.E.var 13) (EV.E.bin (EV.Bop.add) (EV.E.var 7) (EV.E.cst (EV.A.int 19))))
      (EV.Tg.nm 13)
      (EV.It.rng (EV.E.cst (EV.A.int 23)))
      []
      [13],
    EV.Sm.ife
      (EV.E.or
        (EV.E.not (EV.E.bi (EV.Bi.isi) [EV.E.var 10, EV.E.cst (EV.A.glo 0)]))
        (EV.E.cmp (EV.Cop.ne) (EV.E.call 5 1 [EV.E.var 10]) (EV.E.var 12)))
      [EV.Sm.ret (EV.E.cst (EV.A.bl false))]
      []]]
def irLams : List (Option E) := [some (EV.E.fld (EV.E.var 0) { cps := #[105, 110, 100, 101, 120] }),
 some (EV.E.fld (EV.E.var 0) { cps := #[109, 97, 110, 121] }),
 some (EV.E.fld (EV.E.var 0) { cps := #[115, 105, 122, 101] }),
 some (EV.E.fld (EV.E.var 0) { cps := #[114, 111, 119] }),
 some (EV.E.fld (EV.E.var 0) { cps := #[109, 97, 110, 121] }),
 some (EV.E.fld (EV.E.var 0) { cps := #[115, 105, 122, 101] }),
 some (EV.E.fld (EV.E.var 0) { cps := #[112, 111, 119, 101, 114] }),
 some (EV.E.fld (EV.E.var 0) { cps := #[105, 110, 100, 101, 120] }),
 some (EV.E.fld (EV.E.var 0) { cps := #[116, 104, 105, 110, 103] }),
 none,
 none,
 some (EV.E.fld (EV.E.var 0) { cps := #[116, 104, 105, 110, 103] }),
 some (EV.E.fld (EV.E.var 0) { cps := #[105, 110, 100, 101, 120] }),
 some (EV.E.fld (EV.E.var 0) { cps := #[105, 110, 100, 101, 120] }),
 some (EV.E.fld (EV.E.var 0) { cps := #[114, 111, 119] }),
 some (EV.E.fld (EV.E.var 0) { cps := #[119, 111, 114, 100] }),
 some (EV.E.fld (EV.E.var 0) { cps := #[119, 111, 114, 100] }),
 some (EV.E.fld (EV.E.var 0) { cps := #[97, 116] }),
 some (EV.E.fld (EV.E.var 0) { cps := #[108, 105, 110, 101] }),
 some (EV.E.fld (EV.E.var 0) { cps := #[119, 97, 121] }),
 some (EV.E.fld (EV.E.var 0) { cps := #[112, 108, 97, 99, 101] })]

def errF : List (Option Str) := [none, some "index", some "many", some "size", some "row", some "many", some "size", some "power", some "index", some "thing", some "thing", none, some "index", none, some "index", some "row", some "word", some "word", none, some "at", some "line", none, some "way", some "place"]
def kit : Kit := ⟨[([0], [7]), ([1, 0], [7]), ([2, 0], [7]), ([3, 0], [7]), ([4, 0], [7]), ([5, 0], [7]), ([6, 0], [7]), ([7, 0], [7]), ([8, 0], [7]), ([9, 0], [7]), ([10, 0], [7]), ([11, 0], [7]), ([12, 0], [7]), ([13, 0], [7]), ([14, 0], [7]), ([15, 0], [7]), ([16, 0], [7]), ([17, 0], [7]), ([18, 0], [7]), ([19, 0], [7]), ([20, 0], [7]), ([21, 0], [7]), ([22, 0], [7]), ([23, 0], [7])], errF⟩
def fns : List Fn := ⟨2, irOne, none⟩ :: ⟨5, irSame, none⟩ :: ⟨0, [], none⟩ :: ⟨2, irFirst, none⟩ :: ⟨2, irOthers, none⟩ :: ⟨2, irClasses, none⟩ :: irLams.map fun e => ⟨1, [], e⟩
def take : List A → Hh → Out A
  | [.glo 99, .int n], h => if 0 < n ∧ n ≤ 1000 ∧ h.cnt < 1000 then .pick n.toNat fun r => .ok (.int r) ⟨h.nx, h.t, h.cnt + 1⟩ else .bad
  | _, _ => .bad
def pick (f : Nat) : Option (List A → Hh → Out A) := if f = 2 then some take else none
def call : Nat → List A → Hh → Out A := evC 1000 kit fns pick 20
def h0 (m : Nat) : Hh := ⟨.z, .e, m⟩
def st (c : Cell) (m : Nat) : Hh := ⟨.s .z, .b (some c) .e .e, m⟩
def slots (tu : Option A) (one : Option A) : Sl := [none, some (.glo 99), tu, none, none, one] ++ List.replicate 8 none
/-- the loop goes on, the spring where it was, few draws -/
def isNx (m : Nat) : Fl → Hh → Bool
  | .nx s, h => (match (s[1]? : Option (Option A)) with
    | some (some (.glo 99)) => true
    | _ => false) && (s.length == 14 && decide (h.cnt ≤ m))
  | _, _ => false
/-- what the draw of a turn gives -/
def menuI (t : Int) : List Int := [0, -1, 10 ^ 29 + t]
def good (t : Int) (a : A) (h : Hh) : Bool := match a with
  | .int i => (menuI t).contains i
  | .bl b => b
  | .non => true
  | .str x => x == "" || x == "a b"
  | .tup [.str x, .int i] => x == "red" && i == 0
  | .loc l => match h.get l with
    | some (.lst [.int r]) => [0, 1, 2, 3, 4, 5, 6, 7, 8].contains r
    | some (.dct [(.str x, .non)]) => x == "x"
    | _ => false
  | _ => false
def drew (t : Int) (m : Nat) : Fl → Hh → Bool
  | .nx s, h => (match (s[1]? : Option (Option A)), (s[5]? : Option (Option A)) with
    | some (some (.glo 99)), some (some a) => good t a h
    | _, _ => false) && (s.length == 14 && decide (h.cnt ≤ m))
  | _, _ => false
/-- one statement, then what is behind it -/
def thr (r : Rec) (x : Sm) (k : Sl → Hh → Out Fl) (s : Sl) (h : Hh) : Out Fl := (stepS r x s h).bind fun f h1 => match f with
  | .nx s1 => k s1 h1
  | f => .ok f h1
def rr : Rec := evR kit call 1000
def ir (i : Nat) : Sm := irLoop.getD i .pass
def runA : Sl → Hh → Out Fl := thr rr (ir 0) (thr rr (ir 1) (stepS rr (ir 2)))
def partA (t : Int) (m : Nat) : Out Fl := runA (slots (some (.int t)) none) (h0 m)
def irRet : E := .and (.bi .isi [.err0 0, .cst (.ty 7)]) (.not (.bi .any [.call 5 1 [.err0 0]]))
def isT : A → Bool
  | .bl b => b
  | _ => false
def partB (a : A) (h : Hh) : Out Fl := rr.ss (irLoop.drop 3) (slots none (some a)) h
end K01
set_option Elab.async false
set_option linter.all false
set_option maxRecDepth 100000
set_option maxHeartbeats 4000000
namespace K01
open PySem PySem.Spec PyProof.Rows L2 ER EV
def P : Program := PySem.Challenge.pw_tallytold_k01_errors_made
def fdIn (x : Str) : List Stmt → Option (Arguments × List Stmt × Scope)
  | [] => none
  | .FunctionDef n a b _ _ _ s _ _ _ :: r => if n = x then some (a, b, s) else fdIn x r
  | _ :: r => fdIn x r
def fd (x : Str) : Arguments × List Stmt × Scope := (fdIn x P.main.body).getD (⟨[], [], none, [], [], none, []⟩, [], ⟨.function, [], false, false, []⟩)
def gl : List (Str × GV) := [("TallyError", .bare 0), ("BadAtom", .err 1 "index"), ("BadCount", .err 2 "many"), ("BadSize", .err 3 "size"), ("BadRow", .err 4 "row"), ("BadMany", .err 5 "many"), ("TooGreat", .err 6 "size"), ("BadPower", .err 7 "power"), ("BadTerm", .err 8 "index"), ("BadOperand", .err 9 "thing"), ("BadPattern", .err 10 "thing"), ("Unsettled", .err0 11), ("BadCounts", .err 12 "index"), ("Misfit", .err0 13), ("BadOffer", .err 14 "index"), ("TooFew", .err 15 "row"), ("BadName", .err 16 "word"), ("NoWatch", .err 17 "word"), ("NoDeed", .err0 18), ("BadText", .err 19 "at"), ("BadLine", .err 20 "line"), ("Tangled", .err0 21), ("BadWay", .err 22 "way"), ("BadPlace", .err 23 "place"),
  ("_law_one", .fn 0 2), ("_law_same", .fn 1 2), ("_law_take", .fn 2 2), ("_law_first", .fn 3 1), ("_law_others", .fn 4 1), ("_law_classes", .fn 5 1)]
def free : List Str := ["isinstance", "len", "all", "any", "range", "enumerate", "zip", "int", "bool", "str", "list", "tuple", "dict", "ValueError", "LookupError", "TypeError", "ArithmeticError", "super"]
/-- lambdas by their lines -/
def ln (p : Pos) : Nat := p.line - 140
def T0 : Tb := ⟨gl, free, kit, fun _ => none⟩
def cc (x : Str) (ps more : List Str) (q : Option Str) : Cc := ⟨ps ++ more, (fd x).2.2, q⟩
def cOne : Cc := cc "_law_one" ["_law_spring_here", "_law_things"] [] none
def cSame : Cc := cc "_law_same" ["_law_found", "_law_due"] ["_law_key", "_law_x", "_law_y"] none
def cFirst : Cc := cc "_law_first" ["_law_one_here"] ["_law_found"] (some "_law_first.<locals>.")
def cOthers : Cc := cc "_law_others" ["_law_one_here"] ["_law_found"] (some "_law_others.<locals>.")
def cClasses : Cc := cc "_law_classes" ["_law_e"] ["_law_found"] none
def cLaw : Cc := cc "law" ["_law_script"] ["_law_spring_here", "_law_turn", "_law_held", "_law_some", "_law_one_here", "_law_found", "_law_k", "_law_made", "_law_field", "_law_e", "_law_bare", "_law_due", "_law_spot"] none
def rd (T : Tb) (c : Cc) (l : List Stmt) : Option (List Sm × Obs) := ((ck T ln 60).ss c l).map fun r => (r.x, r.o)
def lawLoop : List Stmt := match (fd "law").2.1 with
  | [_, .For _ _ b _ _, _] => b
  | _ => []
end K01
set_option Elab.async false
set_option linter.all false
set_option maxRecDepth 100000
set_option maxHeartbeats 4000000
namespace K01
open PySem PySem.Spec PyProof.Rows L2 ER EV
/-- the law's spring: the list at a, the great numbers at G, the little ones at L, at most m draws -/
def Spr (H : Hp) (a G L : Addr) (m : Nat) : Prop :=
  ∃ (gs ls : List Int) (cur n : Int), H a = some (.lst [.ref G, .int cur, .ref L, .int n]) ∧ H G = some (.lst (gs.map V.int)) ∧ H L = some (.lst (ls.map V.int)) ∧ G ≠ a ∧ L ≠ a ∧ G ≠ L ∧ 0 ≤ cur ∧ (∀ g ∈ gs, 0 < g) ∧ 0 ≤ n ∧ n ≤ m
/-- all but a and G as it was -/
def ButS (H H' : Hp) (a G : Addr) : Prop := ∀ b o, b ≠ a → b ≠ G → H b = some o → H' b = some o
def spTake : Sp := fun vs H Q _ => ∃ (a G L : Addr) (most : Int) (m : Nat), vs = [.ref a, .int most] ∧ 0 < most ∧ most ≤ 1000 ∧ m < 2000 ∧ Spr H a G L m ∧ ∀ (r : Int) (H' : Hp), 0 ≤ r → r < most → ButS H H' a G → Spr H' a G L (m + 1) → Q (.int r) H'
def sTake : Stmt := P.main.body.getD 29 (.Pass ⟨0, 0, 0, 0⟩)
def nTake : List Str := ["_law_spring_here", "_law_most", "_law_figure", "_law_cell", "_law_first_here", "_law_second"]
theorem scTake : FnScope nTake ["_law_spring_here", "_law_most"] (defScope sTake) := ⟨rfl, rfl, rfl, by decide +kernel, rfl, by decide +kernel, by decide +kernel⟩
section
variable {K : PySem.W.Frag} {σ : L2.St} {H : Hp} {Q : VK}
theorem ixr {a : Addr} {xs : List V} {n : Int} {v : V} (h0 : σ[0]? = some (some (.ref a))) (ha : H a = some (.lst xs)) (hv : atI xs n = some v) (q : Q v H) : tOp (rIxL K) (tVar 0) (tC (.int n)) σ H Q := ⟨_, h0, a, xs, n, v, rfl, rfl, SqL.of ha, hv, q⟩
theorem pop_at {g : V} {gs : List V} : seqIndex? 0 (g :: gs).length = some 0 := by
  unfold seqIndex?
  simp
end
section
variable {B : Bs} {k : Nat} {Pr : Program} {w : World} {K : PySem.W.Frag} {mg : Str → Option Value} {base : Heap} {f : Addr} {fd : FuncData} {cd : Value} {A : Around} {outer : List Env} {s : Shared} {H : Hp} {E : XK}
abbrev xTake (Pr : Program) (w : World) (K : PySem.W.Frag) (mg : Str → Option Value) (base : Heap) (f : Addr) (cd : Value) (A : Around) (outer : List Env) (s : Shared) (H : Hp) (E : XK) : Cx := cxOf (L2.CX Pr w) Pr w K mg base nTake "_law_take" (defScope sTake) f cd A outer s H E
theorem ix_take {Pr : Program} {w : World} {K : PySem.W.Frag} {mg : Str → Option Value} {base : Heap} {f : Addr} {cd : Value} {A : Around} {outer : List Env} {s : Shared} {H : Hp} {E : XK} (n : Int) {p1 p2 p3 : Pos} {j : Nat} :
    PE (xTake Pr w K mg base f cd A outer s H E) (.Subscript (.Name "_law_spring_here" p1) (.Constant (.int n) j p2) p3) (tOp (rIxL K) (tVar 0) (tC (.int n))) := pe_ix ix_list (pv 0) pe_int fun _ _ => rfl
def rInt1 : List V → Hp → VK → Prop := fun xs H Q => (∃ i, xs = [.int i] ∧ Q (.int i) H) ∨ ∃ k, xs = [.bl k] ∧ Q (.int (if k then 1 else 0)) H
theorem ci_take {Pr : Program} {w : World} {K : PySem.W.Frag} {mg : Str → Option Value} {base : Heap} {f : Addr} {cd : Value} {A : Around} {outer : List Env} {s : Shared} {H : Hp} {E : XK} (mi : mg "int" = none) {e : Expr} {te : TE} {p pos : Pos} (h : PE (xTake Pr w K mg base f cd A outer s H E) e te)
    (hs : starEach [e] (xTake Pr w K mg base f cd A outer s H E).env = (false, eval e (xTake Pr w K mg base f cd A outer s H E).env) :: starEach [] (xTake Pr w K mg base f cd A outer s H E).env) : PE (xTake Pr w K mg base f cd A outer s H E) (.Call (.Name "int" p) [e] [] pos) (tCB rInt1 (tCons te tNil)) := pe_callTy call_int1 rfl mi (by decide +kernel) (pa_cons h pa_nil hs) (he := hs)
theorem lay_ints : ∀ ls : List Int, PyData.canLayAll0 (ls.map PyData.int) = true ∧ PyData.depthAll (ls.map PyData.int) ≤ 1
  | [] => ⟨rfl, by decide⟩
  | i :: r => by
    obtain ⟨h1, h2⟩ := lay_ints r
    refine ⟨?_, ?_⟩
    · show (PyData.canLay0 (.int i) && PyData.canLayAll0 (r.map PyData.int)) = true
      rw [h1]
      rfl
    · show max (PyData.depth (.int i)) (PyData.depthAll (r.map PyData.int)) ≤ 1
      have : PyData.depth (.int i) ≤ 1 := by simp [PyData.depth]
      omega
theorem shaped_ints (ls : List Int) : SeqAt.shaped (.list (ls.map PyData.int)) = true := by
  obtain ⟨h1, h2⟩ := lay_ints ls
  unfold SeqAt.shaped
  rw [Bool.and_eq_true]
  refine ⟨h1, decide_eq_true ?_⟩
  show PyData.depthAll (ls.map PyData.int) + 1 ≤ 64
  omega
theorem dp_ints {H : Hp} {a : Addr} {ls : List Int} (h : H a = some (.lst (ls.map V.int))) : Dp K H (.ref a) (.list (ls.map PyData.int)) := .lst (SqL.of h) (by
  clear h
  induction ls with
  | nil => exact .nil
  | cons i r ih => exact .cons (.int i) ih)
theorem eqv_nil (ls : List Int) : PyData.eqv (.list (ls.map PyData.int)) (.list []) = ls.isEmpty := by
  cases ls <;> rfl
theorem tail4 (mi : mg "int" = none) : ∃ t, PSs (xTake Pr w K mg base f cd A outer s H E) ((defBody sTake).drop 4) t ∧ ∀ (a L : Addr) (most n c : Int) (v0 v1 : V) (x2 x4 x5 : Option V) (H2 : Hp) (D : Ends), 0 < most → most ≤ 1000 → 0 ≤ n → n ≤ 2000 → H2 a = some (.lst [v0, v1, .ref L, .int n]) →
      (∀ (r : Int), 0 ≤ r → r < most → D.rt (.int r) H2) → t D [some (.ref a), some (.int most), x2, some (.int c), x4, x5] H2 := by
  refine ⟨_, pss_cons (ps_set (i := 4) scTake.nd rfl (.inl rfl) (pe_op op_mod (pe_op op_pow (ci_take mi (pe_op op_add (pe_op op_add (pe_op op_mod (ci_take mi (pv 3) rfl) pe_int) (pe_op op_mul pe_int (ix_take 3))) pe_int) rfl) pe_int) pe_int))
    (pss_cons (ps_set (i := 5) scTake.nd rfl (.inl rfl) (pe_op op_mod (ci_take mi (pe_op op_add (pe_op op_mul (pv 4) pe_int) (pe_op op_mul pe_int (ix_take 3))) rfl) pe_int))
    (pss_one (ps_ret (pe_op op_mod (pe_op op_fdiv (pe_op op_mod (ci_take mi (pe_op op_add (pe_op op_mul (pv 5) pe_int) pe_int) rfl) pe_int) pe_int) (pv 1))))), ?_⟩
  intro a L most n c v0 v1 x2 x4 x5 H2 D hm0 hm1 hn0 hn1 ha hQ
  have b1 : 0 ≤ c % 1000003 := Int.emod_nonneg _ (by decide)
  have b2 : c % 1000003 < 1000003 := Int.emod_lt_of_pos _ (by decide)
  refine ⟨_, rfl, .inl ⟨c, rfl, c, 1000003, rfl, rfl, (by show (0 : Int) < 1000003; decide), ixr rfl ha (v := .int n) rfl ⟨7919, n, rfl, rfl, .inl ⟨by decide, by decide⟩, _, _, rfl, rfl, _, _, rfl, rfl, .inl ⟨_, rfl, _, 5, rfl, rfl, ⟨by decide, by decide, ?_⟩, _, 2147483629, rfl, rfl, (by show (0 : Int) < 2147483629; decide), ?_⟩⟩⟩⟩
  · omega
  refine ⟨_, rfl, _, 48271, rfl, rfl, .inr ⟨by decide, by decide⟩, ixr rfl ha (v := .int n) rfl ⟨6011, n, rfl, rfl, .inl ⟨by decide, by decide⟩, _, _, rfl, rfl, .inl ⟨_, rfl, _, 2147483587, rfl, rfl, (by show (0 : Int) < 2147483587; decide), ?_⟩⟩⟩
  refine ⟨_, rfl, _, 69621, rfl, rfl, .inr ⟨by decide, by decide⟩, _, 19, rfl, rfl, .inl ⟨_, rfl, _, 1000000007, rfl, rfl, (by show (0 : Int) < 1000000007; decide), _, 5, rfl, rfl, ⟨by decide, by decide⟩, _, rfl, _, most, rfl, rfl, hm0, ?_⟩⟩
  exact hQ _ (Int.emod_nonneg _ (by omega)) (Int.emod_lt_of_pos _ hm0)
theorem tail3 (hr : Room k (A.deeper (envOfC "_law_take" (defScope sTake) s.heap.objs.size f cd))) (mi : mg "int" = none) (ml : mg "len" = none) :
    ∃ t, PSs (xTake Pr w K mg base f cd A outer s H E) ((defBody sTake).drop 3) t ∧ ∀ (a L : Addr) (most n : Int) (ls : List Int) (v0 v1 : V) (H2 : Hp) (D : Ends), 0 < most → most ≤ 1000 → 0 ≤ n → n ≤ 2000 → H2 a = some (.lst [v0, v1, .ref L, .int n]) → H2 L = some (.lst (ls.map V.int)) →
      (∀ (r : Int) (H' : Hp), 0 ≤ r → r < most → (∀ b o, H2 b = some o → H' b = some o) → D.rt (.int r) H') → t D (L2.start nTake [.ref a, .int most]) H2 := by
  have hu : (xTake Pr w K mg base f cd A outer s H E).A.units + 64 < cLine := hr.units
  obtain ⟨t4, h4, k4⟩ := tail4 (Pr := Pr) (w := w) (K := K) (mg := mg) (base := base) (f := f) (cd := cd) (A := A) (outer := outer) (s := s) (H := H) (E := E) mi
  refine ⟨_, pss_cons (ps_set (i := 3) scTake.nd rfl (.inl rfl) (pe_ifExp (pt_cmpR (op_eqD hu) (ix_take 2) (pe_lst pa_nil) (nomark _)) (pe_op op_mul pe_int (ix_take 3))
        (pe_ix ix_list (ix_take 2) (pe_op op_mod (ci_take mi (ix_take 3) rfl) (pe_callB call_len_seq rfl ml boot_len (pa_cons (ix_take 2) pa_nil))) fun _ _ => rfl))) h4, ?_⟩
  intro a L most n ls v0 v1 H2 D hm0 hm1 hn0 hn1 ha hL hQ
  refine ixr rfl ha (v := .ref L) rfl ⟨by decide, fun p np => ?_⟩
  have kp : ∀ b o, H2 b = some o → upd H2 p (.lst []) b = some o := fun b o e => by rw [upd_ne (ne_of_none e np)]; exact e
  have a3 := kp _ _ ha
  have L3 := kp _ _ hL
  refine ⟨_, .list [], dp_ints L3, .lst (SqL.of upd_same) .nil, shaped_ints ls, rfl, _, rfl, ?_⟩
  rw [eqv_nil]
  cases ls with
  | nil =>
    rw [if_pos (show ([] : List Int).isEmpty = true from rfl)]
    refine ixr (a := a) rfl a3 (v := .int n) rfl ⟨17, n, rfl, rfl, .inl ⟨by decide, by decide⟩, ?_⟩
    exact k4 a L most n _ v0 v1 none none none _ D hm0 hm1 hn0 hn1 a3 fun r h1 h2 => hQ r _ h1 h2 kp
  | cons i r =>
    rw [if_neg (by simp)]
    have hl : (0 : Int) < (((i :: r).map V.int).length : Nat) := by simp
    refine ixr (a := a) rfl a3 (v := .ref L) rfl (ixr (a := a) rfl a3 (v := .int n) rfl (.inl ⟨n, rfl, ixr (a := a) rfl a3 (v := .ref L) rfl ⟨L, _, rfl, .inl (SqL.of L3), n, _, rfl, rfl, hl, ?_⟩⟩))
    have hk0 := Int.emod_nonneg n (show (((i :: r).map V.int).length : Int) ≠ 0 by omega)
    have hk1 := Int.emod_lt_of_pos n hl
    obtain ⟨j, hj⟩ := Int.eq_ofNat_of_zero_le hk0
    have hjl : j < (i :: r).length := by
      rw [hj, List.length_map] at hk1
      omega
    refine ⟨L, _, _, _, rfl, rfl, SqL.of L3, (by rw [hj]; exact atI_cell hjl), ?_⟩
    exact k4 a L most n _ v0 v1 none none none _ D hm0 hm1 hn0 hn1 a3 fun r h1 h2 => hQ r _ h1 h2 kp
/-- the whole of take -/
theorem walk_take (hr : Room k (A.deeper (envOfC "_law_take" (defScope sTake) s.heap.objs.size f cd))) (mi : mg "int" = none) (ml : mg "len" = none) :
    ∃ t, PSs (xTake Pr w K mg base f cd A outer s H E) (defBody sTake) t ∧ ∀ (vs : List V) (H : Hp) (Q : VK) (E : XK), spTake vs H Q E → t { nx := fun _ H' => Q .non H', rt := Q } (L2.start nTake vs) H := by
  have hu : (xTake Pr w K mg base f cd A outer s H E).A.units + 64 < cLine := hr.units
  obtain ⟨t3, h3, k3⟩ := tail3 (Pr := Pr) (w := w) (K := K) (mg := mg) (base := base) (f := f) (cd := cd) (A := A) (outer := outer) (s := s) (H := H) (E := E) hr mi ml
  obtain ⟨t2, h2, k2⟩ : ∃ t, PSs (xTake Pr w K mg base f cd A outer s H E) ((defBody sTake).drop 2) t ∧ ∀ (a G L : Addr) (most n cur : Int) (ls gs : List Int) (H2 : Hp) (D : Ends), 0 < most → most ≤ 1000 → 0 ≤ n → n ≤ 2000 → 0 ≤ cur → G ≠ a → L ≠ a → G ≠ L → (∀ g ∈ gs, 0 < g) → H2 a = some (.lst [.ref G, .int cur, .ref L, .int n]) → H2 G = some (.lst (gs.map V.int)) → H2 L = some (.lst (ls.map V.int)) →
      (∀ (r : Int) (H' : Hp), 0 ≤ r → r < most → ButS H2 H' a G → Spr H' a G L n.toNat → D.rt (.int r) H') → t D (L2.start nTake [.ref a, .int most]) H2 := by
    refine ⟨_, pss_cons (ps_if (pt_cmpR op_gt (ix_take 1) pe_int (nomark _))
      (pss_cons (ps_set (i := 2) scTake.nd rfl (.inl rfl) (pe_op op_mod (ci_take mi (ix_take 1) rfl) (pv 1))) (pss_cons (ps_asg (pe_op op_fdiv (ix_take 1) (pv 1)) (pg_sub (pv 0) pe_int set_list)) (pss_one (ps_ret (pv 2))))) pss_nil) h3, ?_⟩
    intro a G L most n cur ls gs H2 D hm0 hm1 hn0 hn1 hc nG nL nGL hgs ha hG hL hQ
    refine ixr (a := a) rfl ha (v := .int cur) rfl ⟨cur, 0, rfl, rfl, _, rfl, ?_⟩
    by_cases hp : 0 < cur
    · dsimp only
      rw [if_pos (show decide (0 < cur) = true from decide_eq_true hp)]
      refine ixr (a := a) rfl ha (v := .int cur) rfl (.inl ⟨cur, rfl, _, rfl, cur, most, rfl, rfl, hm0, ?_⟩)
      refine ixr (a := a) rfl ha (v := .int cur) rfl ⟨_, rfl, cur, most, rfl, rfl, ⟨hm0, by omega⟩, _, rfl, a, _, 1, 1, rfl, rfl, ha, rfl, _, rfl, ?_⟩
      refine hQ _ _ (Int.emod_nonneg _ (by omega)) (Int.emod_lt_of_pos _ hm0) (fun b o h1 h2 e => by rw [upd_ne h1]; exact e) ⟨gs, ls, cur / most, n, by rw [upd_same]; rfl, by rw [upd_ne nG]; exact hG, by rw [upd_ne nL]; exact hL, nG, nL, nGL, Int.ediv_nonneg hc (by omega), hgs, hn0, by omega⟩
    · dsimp only
      rw [if_neg (show ¬ decide (0 < cur) = true by simpa using hp)]
      refine k3 a L most n ls _ _ H2 D hm0 hm1 hn0 hn1 ha hL fun r H' h1 h2 kp => ?_
      exact hQ r H' h1 h2 (fun b o _ _ e => kp b o e) ⟨gs, ls, cur, n, kp _ _ ha, kp _ _ hG, kp _ _ hL, nG, nL, nGL, hc, hgs, hn0, by omega⟩
  refine ⟨_, pss_cons (ps_asg (pe_op op_add (ix_take 3) pe_int) (pg_sub (pv 0) pe_int set_list)) (pss_cons (ps_if (PW.pt (pw_and (pt_cmpR op_eq (ix_take 1) pe_int (nomark _)) (pw_and1 (pt_cmpR (op_neD hu) (ix_take 0) (pe_lst pa_nil) (nomark _)))))
      (pss_one (ps_asg (pe_bm PySem.F.plainAttrs_list PySem.F.slot_list_pop PySem.F.type_list_pop mt_popAt (ix_take 0) (pa_cons pe_int pa_nil)) (pg_sub (pv 0) pe_int set_list))) pss_nil) h2), ?_⟩
  intro vs H Q E hsp
  obtain ⟨a, G, L, most, m, rfl, hm0, hm1, hm, ⟨gs, ls, cur, n, ha, hG, hL, nG, nL, nGL, hc, hgs, hn0, hn1⟩, hQ⟩ := hsp
  refine ixr (a := a) rfl ha (v := .int n) rfl ⟨n, 1, rfl, rfl, _, rfl, a, _, 3, 3, rfl, rfl, ha, rfl, ?_⟩
  generalize hH1 : upd H a (.lst ([V.ref G, .int cur, .ref L, .int n].set 3 (.int (n + 1)))) = H1
  have ha1 : H1 a = some (.lst [.ref G, .int cur, .ref L, .int (n + 1)]) := by rw [← hH1, upd_same]; rfl
  have hb1 : ∀ b, b ≠ a → H1 b = H b := fun b hb => by rw [← hH1, upd_ne hb]
  have hG1 : H1 G = some (.lst (gs.map V.int)) := by rw [hb1 G nG]; exact hG
  have hL1 : H1 L = some (.lst (ls.map V.int)) := by rw [hb1 L nL]; exact hL
  have fin : ∀ (r : Int) (H2 H' : Hp), 0 ≤ r → r < most → ButS H1 H2 a G → ButS H2 H' a G → Spr H' a G L (n + 1).toNat → Q (.int r) H' := fun r H2 H' h1 h2 b1 b2 sp => by
    refine hQ r H' h1 h2 (fun b o e1 e2 e => b2 b o e1 e2 (b1 b o e1 e2 (by rw [hb1 b e1]; exact e))) ?_
    obtain ⟨gs', ls', c', n', q1, q2, q3, q4, q5, q6, q7, q8, q9, q10⟩ := sp
    exact ⟨gs', ls', c', n', q1, q2, q3, q4, q5, q6, q7, q8, q9, by omega⟩
  refine ixr (a := a) rfl ha1 (v := .int cur) rfl ⟨rfl, _, rfl, ?_⟩
  by_cases h0 : cur = 0
  · subst h0
    dsimp only
    rw [if_pos (show decide (V.int 0 = V.int 0) = true from decide_eq_true rfl)]
    refine ixr (a := a) rfl ha1 (v := .ref G) rfl ⟨by decide, fun p np => ?_⟩
    have kp : ∀ b o, H1 b = some o → upd H1 p (.lst []) b = some o := fun b o e => by rw [upd_ne (ne_of_none e np)]; exact e
    refine ⟨_, .list [], dp_ints (kp _ _ hG1), .lst (SqL.of upd_same) .nil, shaped_ints gs, rfl, _, rfl, ?_⟩
    rw [eqv_nil]
    cases gs with
    | nil =>
      rw [if_neg (show ¬ (!([] : List Int).isEmpty) = true by decide)]
      exact k2 a G L most (n + 1) 0 ls [] _ _ hm0 hm1 (by omega) (by omega) (by omega) nG nL nGL hgs (kp _ _ ha1) (kp _ _ hG1) (kp _ _ hL1) fun r H' h1 h2 b sp => fin r _ H' h1 h2 (fun b o _ _ e => kp b o e) b sp
    | cons g r =>
      rw [if_pos (show (!(g :: r).isEmpty) = true from rfl)]
      have hG2 := kp _ _ hG1
      have ha2 := kp _ _ ha1
      refine ixr (a := a) rfl ha2 (v := .ref G) rfl ⟨?_, G, _, 0, 0, .int g, rfl, rfl, hG2, by decide, by decide, pop_at, rfl, ?_⟩
      · exact .inl ⟨rfl, _, SqL.of hG2⟩
      have ha3 : upd (upd H1 p (.lst [])) G (.lst (((g :: r).map V.int).eraseIdx 0)) a = some (.lst [.ref G, .int 0, .ref L, .int (n + 1)]) := by rw [upd_ne (Ne.symm nG)]; exact ha2
      refine ⟨_, rfl, a, _, 1, 1, rfl, rfl, ha3, rfl, ?_⟩
      have hg : 0 < g := hgs g (List.mem_cons_self ..)
      refine k2 a G L most (n + 1) g ls r _ _ hm0 hm1 (by omega) (by omega) (by omega) nG nL nGL (fun x hx => hgs x (List.mem_cons_of_mem _ hx)) (by rw [upd_same]; rfl) (by rw [upd_ne nG, upd_same]; rfl) (by rw [upd_ne nL, upd_ne (Ne.symm nGL)]; exact kp _ _ hL1) fun r' H' h1 h2 b sp => fin r' _ H' h1 h2 (fun b o e1 e2 e => by rw [upd_ne e1, upd_ne e2]; exact kp b o e) b sp
  · dsimp only
    rw [if_neg (show ¬ decide (V.int cur = V.int 0) = true from fun z => h0 (by cases of_decide_eq_true z; rfl))]
    rw [if_neg (by decide)]
    exact k2 a G L most (n + 1) cur ls gs _ _ hm0 hm1 (by omega) (by omega) hc nG nL nGL hgs ha1 hG1 hL1 fun r H' h1 h2 b sp => fin r _ H' h1 h2 (fun b o _ _ e => e) b sp
theorem ok_take (F : FunD K "_law_take" "_law_take" (defArgs sTake) (defBody sTake) (defScope sTake) [] [] f fd) (mi : mg "int" = none) (ml : mg "len" = none) : FnOk Pr w K mg base (L2.CX Pr w) 2 f fd ["_law_spring_here", "_law_most"] spTake := by
  refine F.ok (k := 1) scTake (fun vs H Q E h => ?_) (fun cdv A outer s H vs Q E hr h => ?_)
  · obtain ⟨a, G, L, most, m, rfl, _⟩ := h
    rfl
  · obtain ⟨t, h1, h2⟩ := walk_take (Pr := Pr) (w := w) (K := K) (mg := mg) (base := base) (f := f) (cd := cdv) (A := A) (outer := outer) (s := s) (H := H) (E := E) hr mi ml
    exact ⟨t, h1, h2 vs H Q E h⟩
end
end K01
set_option Elab.async false
set_option linter.all false
set_option maxRecDepth 100000
set_option maxHeartbeats 4000000
namespace K01
open PySem PySem.Spec PyProof.Rows L2 ER EV
def sSpring : Stmt := P.main.body.getD 26 (.Pass ⟨0, 0, 0, 0⟩)
def nSpring : List Str := ["_law_script", "_law_little", "_law_cell"]
theorem scSpring : FnScope nSpring ["_law_script"] (defScope sSpring) := ⟨rfl, rfl, rfl, by decide +kernel, rfl, by decide +kernel, by decide +kernel⟩
theorem sqL_new {K : PySem.W.Frag} {H : Hp} {p : Addr} {o : HO} (n : H p = none) : ∀ a vs, SqL K H a vs → SqL K (upd H p o) a vs := fun a vs q => by
  rcases q with (q | ⟨ob, q⟩) | q
  · exact .inl (.inl (by rw [upd_ne (ne_of_none q n)]; exact q))
  · exact .inl (.inr ⟨ob, by rw [upd_ne (ne_of_none q n)]; exact q⟩)
  · exact .inr q
/-- a list of the numbers that p takes -/
theorem lc_run {K : PySem.W.Frag} {σ : L2.St} {H : Hp} {Q : VK} {a : Addr} {ns : List Int} {tl : TE} {tt : TT} {te : TE} (p : Int → Bool) (htl : ∀ R : VK, R (.ref a) H → tl σ H R) (hs : SqL K H a (ns.map V.int)) (hz : ns.length ≤ 63)
    (htt : ∀ (z : Int) (H' : Hp) (R : Bool → Hp → Prop), R (p z) H' → tt ((wipe σ [2]).set 2 (some (.int z))) H' R) (hte : ∀ (z : Int) (H' : Hp) (R : VK), R (.int z) H' → te ((wipe σ [2]).set 2 (some (.int z))) H' R)
    (hw : ∀ z : Int, wipe ((wipe σ [2]).set 2 (some (.int z))) [2] = wipe σ [2])
    (q : ∀ D, H D = none → Q (.ref D) (upd H D (.lst ((ns.filter p).map V.int)))) : tLc (iList K tl) (gName 2) tt te [2] σ H Q := by
  refine htl _ ⟨a, rfl, ⟨_, hs⟩, fun D hD => ⟨fun i m H' => m = ns.length - i ∧ i ≤ ns.length ∧ H' = upd H D (.lst (((ns.take i).filter p).map V.int)), ⟨ns.length, rfl, Nat.zero_le _, rfl⟩, ?_⟩⟩
  rintro i m H' ⟨rfl, hi, rfl⟩
  have hs' : SqL K (upd H D (.lst (((ns.take i).filter p).map V.int))) a (ns.map V.int) := sqL_new hD _ _ hs
  by_cases he : i = ns.length
  · subst he
    refine .inl ⟨⟨_, hs', by rw [List.length_map]; exact Nat.le_refl _⟩, ?_⟩
    rw [List.take_length]
    exact q D hD
  · have hlt : i < ns.length := by omega
    have hx : (ns.map V.int)[i]? = some (V.int ns[i]) := by rw [List.getElem?_map, List.getElem?_eq_getElem hlt]; rfl
    have htake : ns.take (i + 1) = ns.take i ++ [ns[i]] := by rw [List.take_succ, List.getElem?_eq_getElem hlt]; rfl
    refine .inr ⟨⟨_, _, hs', hx⟩, fun H2 => H2 = upd H D (.lst (((ns.take (i + 1)).filter p).map V.int)), fun H2 z => ⟨ns.length - (i + 1), by omega, rfl, hlt, z⟩, fun x H2 y => ?_⟩
    obtain ⟨rfl, y⟩ := y
    have ex := y _ hs'
    rw [hx] at ex
    cases ex
    refine ⟨hw _, htt _ _ _ ?_⟩
    by_cases hp : p ns[i] = true
    · rw [if_pos hp]
      refine hte _ _ _ ⟨_, upd_same, ?_, ?_⟩
      · have h1 : ((ns.take i).filter p).length ≤ (ns.take i).length := List.length_filter_le _ _
        have h2 : (ns.take i).length ≤ i := by rw [List.length_take]; omega
        rw [List.length_map, sizeLine_eq]
        omega
      · rw [upd2, htake, List.filter_append, List.map_append]
        have : [ns[i]].filter p = [ns[i]] := by simp [hp]
        rw [this]
        rfl
    · rw [if_neg hp, htake, List.filter_append]
      have : [ns[i]].filter p = [] := by simp [hp]
      rw [this, List.append_nil]
def spSpring (K : PySem.W.Frag) : Sp := fun vs H Q _ => ∃ (a : Addr) (ns : List Int), vs = [.ref a] ∧ ns.length ≤ 63 ∧ SqL K H a (ns.map V.int) ∧ ∀ (S G L : Addr) (H' : Hp), (∀ b o, H b = some o → H' b = some o) → H S = none → H G = none → H L = none → Spr H' S G L 0 → Q (.ref S) H'
theorem seq_asg {te : TE} {g : TG} {u : TS} {D : Ends} {σ : L2.St} {H : Hp} (h : te σ H (fun x H1 => g x σ H1 (u D))) : tSeq (tAsg te g) u D σ H := h
theorem ret_cons {t1 : TE} {t2 : TA} {D : Ends} {σ : L2.St} {H : Hp} (h : t1 σ H fun v H1 => t2 σ H1 fun vs H2 => tLst (fun _ H Q => Q (v :: vs) H) σ H2 D.rt) : tRet (tLst (tCons t1 t2)) D σ H := h
section
variable {k : Nat} {Pr : Program} {w : World} {K : PySem.W.Frag} {mg : Str → Option Value} {base : Heap} {f : Addr} {fd : FuncData} {cd : Value} {A : Around} {outer : List Env} {s : Shared} {H : Hp} {E : XK}
abbrev xSpr (Pr : Program) (w : World) (K : PySem.W.Frag) (mg : Str → Option Value) (base : Heap) (f : Addr) (cd : Value) (A : Around) (outer : List Env) (s : Shared) (H : Hp) (E : XK) : Cx := cxOf (L2.CX Pr w) Pr w K mg base nSpring "_law_spring" (defScope sSpring) f cd A outer s H E
theorem walk_spring (mi : mg "int" = none) :
    ∃ t, PSs (xSpr Pr w K mg base f cd A outer s H E) (defBody sSpring) t ∧ ∀ (vs : List V) (H : Hp) (Q : VK) (E : XK), spSpring K vs H Q E → t { nx := fun _ H' => Q .non H', rt := Q } (L2.start nSpring vs) H := by
  refine ⟨_, pss_cons (ps_setLc (i := 1) (own := [("_law_cell", 2)]) rfl scSpring.nd rfl rfl (sw_true rfl rfl rfl (by decide +kernel)) (pi_list (pv 0)) (blkOk_by (by show blkC nSpring (defScope sSpring) _ _ = true; decide +kernel)) (fun s H C cl fp => pg_name (i := 2) scSpring.nd rfl (.inl rfl) (.inr rfl))
      (fun s H C cl fp => pts_one (pt_cmpR op_lt (pv 2) (pe_op op_pow pe_int pe_int) (nomark _))) (fun s H C cl fp => pe_callTy call_int1 rfl mi (by decide +kernel) (pa_cons (pv 2) pa_nil)))
    (pss_one (ps_ret (pe_lst (pa_cons (pe_lc (own := [("_law_cell", 2)]) rfl scSpring.nd (pi_list (pv 0)) (blkOk_by (by show blkC nSpring (defScope sSpring) _ _ = true; decide +kernel)) (fun s H C cl fp => pg_name (i := 2) scSpring.nd rfl (.inl rfl) (.inr rfl))
      (fun s H C cl fp => pts_one (pt_cmpR op_ge (pv 2) (pe_op op_pow pe_int pe_int) (nomark _))) (fun s H C cl fp => pe_callTy call_int1 rfl mi (by decide +kernel) (pa_cons (pv 2) pa_nil))) (pa_cons pe_int (pa_cons (pv 1) (pa_cons pe_int pa_nil))))))), ?_⟩
  intro vs H Q E hsp
  obtain ⟨a, ns, rfl, hl, hs, hQ⟩ := hsp
  refine seq_asg (lc_run (K := K) (σ := L2.start nSpring [V.ref a]) (a := a) (ns := ns) (fun z => decide (z < 10 ^ 18)) (fun R h => ⟨_, rfl, h⟩) hs hl (fun z H' R h => ⟨_, rfl, 10, 18, rfl, rfl, ⟨by decide, by decide, by decide⟩, z, _, rfl, rfl, _, rfl, h⟩) (fun z H' R h => ⟨_, rfl, .inl ⟨z, rfl, h⟩⟩) (fun z => rfl) fun L nL => ?_)
  refine ret_cons (lc_run (K := K) (σ := [some (V.ref a), some (V.ref L), none]) (a := a) (ns := ns) (fun z => decide (10 ^ 18 ≤ z)) (fun R h => ⟨_, rfl, h⟩) (sqL_new nL _ _ hs) hl (fun z H' R h => ⟨_, rfl, 10, 18, rfl, rfl, ⟨by decide, by decide, by decide⟩, z, _, rfl, rfl, _, rfl, h⟩) (fun z H' R h => ⟨_, rfl, .inl ⟨z, rfl, h⟩⟩) (fun z => rfl) fun G nG => ?_)
  refine ⟨_, rfl, by show 4 ≤ sizeLine; rw [sizeLine_eq]; omega, fun S nS => ?_⟩
  have nGL : G ≠ L := fun z => by
    rw [z, upd_same] at nG
    cases nG
  rw [upd_ne nGL] at nG
  have nSG : S ≠ G := fun z => by
    rw [z, upd_same] at nS
    cases nS
  rw [upd_ne nSG] at nS
  have nSL : S ≠ L := fun z => by
    rw [z, upd_same] at nS
    cases nS
  rw [upd_ne nSL] at nS
  refine hQ S G L _ (fun b o e => by rw [upd_ne (ne_of_none e nS), upd_ne (ne_of_none e nG), upd_ne (ne_of_none e nL)]; exact e) nS nG nL ⟨ns.filter fun z => decide (10 ^ 18 ≤ z), ns.filter fun z => decide (z < 10 ^ 18), 0, 0, upd_same, ?_, ?_, Ne.symm nSG, Ne.symm nSL, nGL, by omega, fun g hg => ?_, by omega, by omega⟩
  · rw [upd_ne (Ne.symm nSG), upd_same]
  · rw [upd_ne (Ne.symm nSL), upd_ne (Ne.symm nGL), upd_same]
  · have z := of_decide_eq_true (List.mem_filter.mp hg).2
    omega
theorem ok_spring (F : FunD K "_law_spring" "_law_spring" (defArgs sSpring) (defBody sSpring) (defScope sSpring) [] [] f fd) (mi : mg "int" = none) : FnOk Pr w K mg base (L2.CX Pr w) 2 f fd ["_law_script"] (spSpring K) := by
  refine F.ok (k := 1) scSpring (fun vs H Q E h => ?_) (fun cdv A outer s H vs Q E hr h => ?_)
  · obtain ⟨a, ns, rfl, _⟩ := h
    rfl
  · obtain ⟨t, h1, h2⟩ := walk_spring (Pr := Pr) (w := w) (K := K) (mg := mg) (base := base) (f := f) (cd := cdv) (A := A) (outer := outer) (s := s) (H := H) (E := E) mi
    exact ⟨t, h1, h2 vs H Q E h⟩
end
end K01
set_option Elab.async false
set_option linter.all false
set_option maxRecDepth 100000
set_option maxHeartbeats 4000000
namespace K01
open PySem PySem.Spec PyProof.Rows L2 ER EV
/-! ### the scene: the spring and the tables stand apart -/
theorem tabs_stay {T : List (Addr × Str)} {H H' : Hp} (t : LamX.Tabs T H) (k : ∀ p ∈ T, H' p.1 = H p.1) (x : ∀ b φ, H b = some (.ext φ) → H' b = some (.ext φ)) : LamX.Tabs T H' := fun p hp => by
  obtain ⟨ps, h1, h2, h3⟩ := t p hp
  refine ⟨ps, by rw [k p hp]; exact h1, h2, fun pos cv hc => ?_⟩
  obtain ⟨c, e1, e2⟩ := h3 pos cv hc
  exact ⟨c, e1, x _ _ e2⟩
def scene (K : PySem.W.Frag) (Gt : Nat → Option Addr) (lam : Nat → Option LamT) (tabs : List (Addr × Str)) (off : Nat) (a G L : Addr) : Sc where
  K := K
  G := fun n => if n = 99 then some a else Gt n
  lam := lam
  F := a :: G :: L :: tabs.map (·.1)
  Φ := fun m H => Spr H a G L (off + m) ∧ LamX.Tabs tabs H
  stab := fun m H H' ⟨⟨gs, ls, cur, n, q1, q2, q3, q4⟩, t⟩ k x => ⟨⟨gs, ls, cur, n, by rw [k a (by simp)]; exact q1, by rw [k G (by simp)]; exact q2, by rw [k L (by simp)]; exact q3, q4⟩, tabs_stay t (fun p hp => k p.1 (by simp; exact .inr (.inr (.inr ⟨p.2, hp⟩)))) x⟩
  trk := fun m H ⟨⟨gs, ls, cur, n, q1, q2, q3, q4⟩, t⟩ b hb => by
    simp only [List.mem_cons] at hb
    rcases hb with rfl | rfl | rfl | hb
    · exact ⟨_, q1⟩
    · exact ⟨_, q2⟩
    · exact ⟨_, q3⟩
    · obtain ⟨p, hp, rfl⟩ := List.mem_map.mp hb
      obtain ⟨ps, h1, _⟩ := t p hp
      exact ⟨_, h1⟩
  wid := fun m m' H ⟨⟨gs, ls, cur, n, q1, q2, q3, q4, q5, q6, q7, q8, q9, q10⟩, t⟩ h => ⟨⟨gs, ls, cur, n, q1, q2, q3, q4, q5, q6, q7, q8, q9, by omega⟩, t⟩
section
variable {K : PySem.W.Frag} {Gt : Nat → Option Addr} {lam : Nat → Option LamT} {tabs : List (Addr × Str)} {off : Nat} {a G L : Addr}
theorem scene_lamF {m : Nat} {H H' : Hp} (h : (scene K Gt lam tabs off a G L).Φ m H) (e : LamX.ExtN H H') (t : LamX.Tabs tabs H') : (scene K Gt lam tabs off a G L).Φ m H' := by
  obtain ⟨⟨gs, ls, cur, n, q1, q2, q3, q4⟩, _⟩ := h
  exact ⟨⟨gs, ls, cur, n, e _ _ q1 nofun, e _ _ q2 nofun, e _ _ q3 nofun, q4⟩, t⟩
/-- behind a draw -/
theorem drawn {ρ : Rho} {h : Hh} {H H' : Hp} (R : Rep (scene K Gt lam tabs off a G L) ρ h H) (b : ButS H H' a G) (sp : Spr H' a G L (off + (h.cnt + 1))) : Ext (scene K Gt lam tabs off a G L) ρ H ρ H' ∧ Rep (scene K Gt lam tabs off a G L) ρ ⟨h.nx, h.t, h.cnt + 1⟩ H' := by
  obtain ⟨⟨gs, ls, cur, n, q1, q2, q3, q4⟩, t⟩ := R.fo
  have ne : ∀ c o, H c = some o → (∀ xs, o ≠ .lst xs) → H' c = some o := fun c o e n => b c o (fun z => by rw [z, q1] at e; cases e; exact n _ rfl) (fun z => by rw [z, q2] at e; cases e; exact n _ rfl) e
  have eX : Ext (scene K Gt lam tabs off a G L) ρ H ρ H' := ⟨fun _ _ z => z, fun c vs q => by
    rcases q with (q | ⟨ob, q⟩) | q
    · exact .inl (.inl (ne _ _ q nofun))
    · exact .inl (.inr ⟨ob, ne _ _ q nofun⟩)
    · exact .inr q, fun c o u q => ne _ _ q nofun⟩
  refine ⟨eX, ⟨fun l c q => ?_, R.dom, R.inj, R.fresh, ⟨sp, fun p hp => ?_⟩, R.foF⟩⟩
  · obtain ⟨d, e1, e2⟩ := R.cell l c q
    refine ⟨d, e1, e2.stay eX fun x o z hz => ?_⟩
    have nF := R.foF l d e1
    rcases hz with rfl | ⟨φ, rfl⟩
    · exact b _ _ (fun z => nF (by rw [z]; exact List.mem_cons_self ..)) (fun z => nF (by rw [z]; exact List.mem_cons_of_mem _ (List.mem_cons_self ..))) z
    · exact ne _ _ z nofun
  · obtain ⟨ps, h1, h2, h3⟩ := t p hp
    refine ⟨ps, ne _ _ h1 nofun, h2, fun pos cv hc => ?_⟩
    obtain ⟨c, e1, e2⟩ := h3 pos cv hc
    exact ⟨c, e1, ne _ _ e2 nofun⟩
theorem take_sp {B : Bs} (ho : off ≤ 500) (hS : B.S = scene K Gt lam tabs off a G L) {f : Nat} {vs : List V} {H : Hp} {Q : VK} {E : XK} (h : spF B (fun _ => take) f 2 vs H Q E) : spTake vs H Q E := by
  obtain ⟨hl, ρ, h, as, R, rs, q⟩ := h
  replace q : (take as h).All (QW B.S ρ H Q) (XW B.S ρ H E) := q
  unfold take at q
  split at q
  · rename_i n
    split at q
    · rename_i hn
      obtain ⟨v1, r1, rfl, e1, v2, r2, rfl, e2, e3⟩ := rs
      rw [hS] at R e1 e2
      obtain ⟨a', g1, rfl⟩ := e1
      have ea : a' = a := by
        have z : (if (99 : Nat) = 99 then some a else Gt 99) = some a' := g1
        rw [if_pos rfl] at z
        exact (Option.some.inj z).symm
      subst ea
      rw [show v2 = V.int n from e2, show r2 = [] from e3]
      refine ⟨a', G, L, n, off + h.cnt, rfl, hn.1, hn.2.1, by omega, R.fo.1, fun r H' h1 h2 b sp => ?_⟩
      obtain ⟨eX, R'⟩ := drawn R b sp
      have z := q r.toNat (by omega)
      have hr : ((r.toNat : Nat) : Int) = r := by omega
      rw [← hr]
      rw [hS] at z
      exact z ρ H' _ eX R' rfl
    · exact q.elim
  · exact q.elim
end
end K01
set_option Elab.async false
set_option linter.all false
set_option maxRecDepth 100000
set_option maxHeartbeats 4000000
namespace K01
open PySem PySem.Spec PyProof.Rows L2 ER EV
def obsF : Obs := ((rd T0 cFirst (fd "_law_first").2.1).map (·.2)).getD []
def obsO : Obs := ((rd T0 cOthers (fd "_law_others").2.1).map (·.2)).getD []
def T : Tb := ⟨gl, free, kit, fun n => (obsF ++ obsO).lookup n⟩
theorem keys : (obsF ++ obsO).map (·.1) = [6, 7, 8, 9, 10, 11, 12, 13, 14, 17, 18, 19, 20, 21, 22, 23, 24, 25, 26] := by kernel_rfl
theorem look_of {l : Obs} (h : (l.map (·.1)).Nodup) : ∀ p ∈ l, l.lookup p.1 = some p.2 := by
  induction l with
  | nil => intro p hp; cases hp
  | cons x r ih =>
    intro p hp
    rw [List.map_cons, List.nodup_cons] at h
    rcases List.mem_cons.mp hp with rfl | hp
    · simp [List.lookup]
    · have ne : p.1 ≠ x.1 := fun z => h.1 (by rw [← z]; exact List.mem_map.mpr ⟨p, hp, rfl⟩)
      have eb : (p.1 == x.1) = false := by simpa using ne
      simp only [List.lookup, eb]
      exact ih h.2 p hp
theorem oo : OO T (obsF ++ obsO) := look_of (by rw [keys]; decide)
theorem rOne : ((ck T ln 60).ss cOne (fd "_law_one").2.1).map (fun r => (r.x, r.o)) = some (irOne, []) := by kernel_rfl
theorem rSame : ((ck T ln 60).ss cSame (fd "_law_same").2.1).map (fun r => (r.x, r.o)) = some (irSame, []) := by kernel_rfl
theorem rClasses : ((ck T ln 60).ss cClasses (fd "_law_classes").2.1).map (fun r => (r.x, r.o)) = some (irClasses, []) := by kernel_rfl
theorem rFirst : ((ck T ln 60).ss cFirst (fd "_law_first").2.1).map (fun r => (r.x, r.o)) = some (irFirst, obsF) := by kernel_rfl
theorem rOthers : ((ck T ln 60).ss cOthers (fd "_law_others").2.1).map (fun r => (r.x, r.o)) = some (irOthers, obsO) := by kernel_rfl
theorem rLoop : ((ck T ln 60).ss cLaw lawLoop).map (fun r => (r.x, r.o)) = some (irLoop, []) := by kernel_rfl
end K01
set_option Elab.async false
set_option linter.all false
set_option maxRecDepth 100000
set_option maxHeartbeats 4000000
namespace K01
open PySem PySem.Spec PyProof.Rows L2 ER EV
def lamAt (i : Nat) : LamT := ((obsF ++ obsO).getD i (0, ⟨"", ⟨[], [], none, [], [], none, []⟩, .Name "" ⟨0, 0, 0, 0⟩, ⟨.function, [], false, false, []⟩⟩)).2
def okL (t : LamT) : Prop := ∀ (pm cv ctv u : Value), bindArgs (PySem.W.kla_fn "<lambda>" t.q t.params t.body t.scope [] pm cv ctv) ⟨[u], []⟩ = pure [(("_law_e" : Str), u)]
theorem scopes : ((obsF ++ obsO).all fun p => decide (p.2.scope = ⟨.function, [("_law_e", .local)], false, false, []⟩)) = true := by decide +kernel
theorem scL : FnScope ["_law_e"] ["_law_e"] ⟨.function, [("_law_e", .local)], false, false, []⟩ := ⟨rfl, rfl, rfl, by decide +kernel, rfl, by decide +kernel, by decide +kernel⟩
/-- what is asked of the i-th lambda -/
def LamI (i n : Nat) (e : EV.E) : Prop := okL (lamAt i) ∧ fns[n]? = some ⟨1, [], some e⟩ ∧ ((ck T ln 20).e ⟨["_law_e"], (lamAt i).scope, none⟩ (lamAt i).body).map (fun r => (r.x, r.o)) = some (e, [])
theorem lamI0 : LamI 0 6 (.fld (.var 0) "index") := ⟨by unfold okL; intro pm cv ctv u; kernel_rfl, by kernel_rfl, by kernel_rfl⟩
theorem lamI1 : LamI 1 7 (.fld (.var 0) "many") := ⟨by unfold okL; intro pm cv ctv u; kernel_rfl, by kernel_rfl, by kernel_rfl⟩
theorem lamI2 : LamI 2 8 (.fld (.var 0) "size") := ⟨by unfold okL; intro pm cv ctv u; kernel_rfl, by kernel_rfl, by kernel_rfl⟩
theorem lamI3 : LamI 3 9 (.fld (.var 0) "row") := ⟨by unfold okL; intro pm cv ctv u; kernel_rfl, by kernel_rfl, by kernel_rfl⟩
theorem lamI4 : LamI 4 10 (.fld (.var 0) "many") := ⟨by unfold okL; intro pm cv ctv u; kernel_rfl, by kernel_rfl, by kernel_rfl⟩
theorem lamI5 : LamI 5 11 (.fld (.var 0) "size") := ⟨by unfold okL; intro pm cv ctv u; kernel_rfl, by kernel_rfl, by kernel_rfl⟩
theorem lamI6 : LamI 6 12 (.fld (.var 0) "power") := ⟨by unfold okL; intro pm cv ctv u; kernel_rfl, by kernel_rfl, by kernel_rfl⟩
theorem lamI7 : LamI 7 13 (.fld (.var 0) "index") := ⟨by unfold okL; intro pm cv ctv u; kernel_rfl, by kernel_rfl, by kernel_rfl⟩
theorem lamI8 : LamI 8 14 (.fld (.var 0) "thing") := ⟨by unfold okL; intro pm cv ctv u; kernel_rfl, by kernel_rfl, by kernel_rfl⟩
theorem lamI9 : LamI 9 17 (.fld (.var 0) "thing") := ⟨by unfold okL; intro pm cv ctv u; kernel_rfl, by kernel_rfl, by kernel_rfl⟩
theorem lamI10 : LamI 10 18 (.fld (.var 0) "index") := ⟨by unfold okL; intro pm cv ctv u; kernel_rfl, by kernel_rfl, by kernel_rfl⟩
theorem lamI11 : LamI 11 19 (.fld (.var 0) "index") := ⟨by unfold okL; intro pm cv ctv u; kernel_rfl, by kernel_rfl, by kernel_rfl⟩
theorem lamI12 : LamI 12 20 (.fld (.var 0) "row") := ⟨by unfold okL; intro pm cv ctv u; kernel_rfl, by kernel_rfl, by kernel_rfl⟩
theorem lamI13 : LamI 13 21 (.fld (.var 0) "word") := ⟨by unfold okL; intro pm cv ctv u; kernel_rfl, by kernel_rfl, by kernel_rfl⟩
theorem lamI14 : LamI 14 22 (.fld (.var 0) "word") := ⟨by unfold okL; intro pm cv ctv u; kernel_rfl, by kernel_rfl, by kernel_rfl⟩
theorem lamI15 : LamI 15 23 (.fld (.var 0) "at") := ⟨by unfold okL; intro pm cv ctv u; kernel_rfl, by kernel_rfl, by kernel_rfl⟩
theorem lamI16 : LamI 16 24 (.fld (.var 0) "line") := ⟨by unfold okL; intro pm cv ctv u; kernel_rfl, by kernel_rfl, by kernel_rfl⟩
theorem lamI17 : LamI 17 25 (.fld (.var 0) "way") := ⟨by unfold okL; intro pm cv ctv u; kernel_rfl, by kernel_rfl, by kernel_rfl⟩
theorem lamI18 : LamI 18 26 (.fld (.var 0) "place") := ⟨by unfold okL; intro pm cv ctv u; kernel_rfl, by kernel_rfl, by kernel_rfl⟩
theorem lamI_all : ∀ i, i < 19 → ∃ n e, ((obsF ++ obsO).map (·.1))[i]? = some n ∧ pick n = none ∧ LamI i n e := by
  intro i hi
  rw [keys]
  match i, hi with
  | 0, _ => exact ⟨6, _, rfl, rfl, lamI0⟩
  | 1, _ => exact ⟨7, _, rfl, rfl, lamI1⟩
  | 2, _ => exact ⟨8, _, rfl, rfl, lamI2⟩
  | 3, _ => exact ⟨9, _, rfl, rfl, lamI3⟩
  | 4, _ => exact ⟨10, _, rfl, rfl, lamI4⟩
  | 5, _ => exact ⟨11, _, rfl, rfl, lamI5⟩
  | 6, _ => exact ⟨12, _, rfl, rfl, lamI6⟩
  | 7, _ => exact ⟨13, _, rfl, rfl, lamI7⟩
  | 8, _ => exact ⟨14, _, rfl, rfl, lamI8⟩
  | 9, _ => exact ⟨17, _, rfl, rfl, lamI9⟩
  | 10, _ => exact ⟨18, _, rfl, rfl, lamI10⟩
  | 11, _ => exact ⟨19, _, rfl, rfl, lamI11⟩
  | 12, _ => exact ⟨20, _, rfl, rfl, lamI12⟩
  | 13, _ => exact ⟨21, _, rfl, rfl, lamI13⟩
  | 14, _ => exact ⟨22, _, rfl, rfl, lamI14⟩
  | 15, _ => exact ⟨23, _, rfl, rfl, lamI15⟩
  | 16, _ => exact ⟨24, _, rfl, rfl, lamI16⟩
  | 17, _ => exact ⟨25, _, rfl, rfl, lamI17⟩
  | 18, _ => exact ⟨26, _, rfl, rfl, lamI18⟩
  | n + 19, h => exact absurd h (by omega)
theorem mem_look {n : Nat} {t : LamT} : ∀ {l : Obs}, l.lookup n = some t → (n, t) ∈ l
  | [], h => nomatch h
  | x :: r, h => by
    cases e : (n == x.1) with
    | true =>
      simp only [List.lookup, e] at h
      rw [eq_of_beq e, ← Option.some.inj h]
      exact List.mem_cons_self ..
    | false =>
      simp only [List.lookup, e] at h
      exact List.mem_cons_of_mem _ (mem_look h)
theorem lams {B : Bs} (hB : B.T = T) : ∀ n t, B.T.lam n = some t → pick n = none ∧ LamD B fns n t := by
  intro n t ht
  rw [hB] at ht
  have hm : (n, t) ∈ obsF ++ obsO := mem_look ht
  obtain ⟨i, hi⟩ := List.mem_iff_getElem?.mp hm
  have hlen : (obsF ++ obsO).length = 19 := by
    have z := congrArg List.length keys
    rw [List.length_map] at z
    exact z
  have hil : i < 19 := by rw [← hlen]; exact (List.getElem?_eq_some_iff.mp hi).1
  have et : lamAt i = t := by
    unfold lamAt
    rw [List.getD_eq_getElem?_getD, hi]
    rfl
  obtain ⟨n', e, h1, h2, h3, h4, h5⟩ := lamI_all i hil
  rw [List.getElem?_map, hi] at h1
  cases h1
  rw [et] at h3 h5
  have es : t.scope = ⟨.function, [("_law_e", .local)], false, false, []⟩ := of_decide_eq_true (List.all_eq_true.mp scopes _ hm)
  refine ⟨h2, _, e, ["_law_e"], "_law_e", h4, rfl, rfl, by rw [es]; exact scL, h3, ?_⟩
  rw [hB]
  exact cp_by h5 fun p hp => nomatch hp
end K01
set_option Elab.async false
set_option linter.all false
set_option maxRecDepth 100000
set_option maxHeartbeats 4000000
namespace K01
open PySem PySem.Spec PyProof.Rows L2 ER EV
def okA (i : Nat) : Bool := (partA (i : Nat) (2 * i)).chk (drew (i : Nat) (2 * i + 2))
def okI (i : Int) : Bool := (partB (.int i) (h0 10)).chk (isNx 10)
def okL1 (i : Int) : Bool := (partB (.loc .z) (st (.lst [.int i]) 10)).chk (isNx 10)
theorem pA0 : okA 0 = true := by decide +kernel
theorem pA1 : okA 1 = true := by decide +kernel
theorem pA2 : okA 2 = true := by decide +kernel
theorem pA3 : okA 3 = true := by decide +kernel
theorem b_i0 : okI 0 = true := by decide +kernel
theorem b_i1 : okI (-1) = true := by decide +kernel
theorem b_i2 : okI (10 ^ 29) = true := by decide +kernel
theorem b_i3 : okI (10 ^ 29 + 1) = true := by decide +kernel
theorem b_i4 : okI (10 ^ 29 + 2) = true := by decide +kernel
theorem b_i5 : okI (10 ^ 29 + 3) = true := by decide +kernel
theorem b_l0 : okL1 0 = true := by decide +kernel
theorem b_l1 : okL1 1 = true := by decide +kernel
theorem b_l2 : okL1 2 = true := by decide +kernel
theorem b_l3 : okL1 3 = true := by decide +kernel
theorem b_l4 : okL1 4 = true := by decide +kernel
theorem b_l5 : okL1 5 = true := by decide +kernel
theorem b_l6 : okL1 6 = true := by decide +kernel
theorem b_l7 : okL1 7 = true := by decide +kernel
theorem b_l8 : okL1 8 = true := by decide +kernel
theorem b_bt : (partB (.bl true) (h0 10)).chk (isNx 10) = true := by decide +kernel
theorem b_no : (partB (.non) (h0 10)).chk (isNx 10) = true := by decide +kernel
theorem b_se : (partB (.str "") (h0 10)).chk (isNx 10) = true := by decide +kernel
theorem b_sa : (partB (.str "a b") (h0 10)).chk (isNx 10) = true := by decide +kernel
theorem b_tu : (partB (.tup [.str "red", .int 0]) (h0 10)).chk (isNx 10) = true := by decide +kernel
theorem b_di : (partB (.loc .z) (st (.dct [(.str "x", .non)]) 10)).chk (isNx 10) = true := by decide +kernel
theorem b_ret : (rr.e irRet (slots none none) (h0 10)).chk (fun a _ => isT a) = true := by decide +kernel
theorem all1 {α : Type} {p : α → Bool} {x : α} {l : List α} (h : p x = true) (k : l.all p = true) : (x :: l).all p = true := by rw [List.all_cons, h, k]; rfl
theorem pA : ([0, 1, 2, 3].all fun i => (partA (i : Nat) (2 * i)).chk (drew (i : Nat) (2 * i + 2))) = true := all1 (p := okA) pA0 (all1 (p := okA) pA1 (all1 (p := okA) pA2 (all1 (p := okA) pA3 rfl)))
theorem b_int : ([0, -1, 10 ^ 29, 10 ^ 29 + 1, 10 ^ 29 + 2, 10 ^ 29 + 3].all fun i => (partB (.int i) (h0 10)).chk (isNx 10)) = true := all1 (p := okI) b_i0 (all1 (p := okI) b_i1 (all1 (p := okI) b_i2 (all1 (p := okI) b_i3 (all1 (p := okI) b_i4 (all1 (p := okI) b_i5 rfl)))))
theorem b_lst : ([0, 1, 2, 3, 4, 5, 6, 7, 8].all fun i => (partB (.loc .z) (st (.lst [.int i]) 10)).chk (isNx 10)) = true := all1 (p := okL1) b_l0 (all1 (p := okL1) b_l1 (all1 (p := okL1) b_l2 (all1 (p := okL1) b_l3 (all1 (p := okL1) b_l4 (all1 (p := okL1) b_l5 (all1 (p := okL1) b_l6 (all1 (p := okL1) b_l7 (all1 (p := okL1) b_l8 rfl))))))))
end K01
set_option Elab.async false
set_option linter.all false
set_option maxRecDepth 100000
set_option maxHeartbeats 4000000
namespace K01
open PySem PySem.Spec PyProof.Rows L2 ER EV
/-! ### the law's own walk -/
def retE : Expr := match (fd "law").2.1 with
  | [_, _, .Return (some e) _] => e
  | _ => .Name "" ⟨0, 0, 0, 0⟩
theorem lawB_eq : ∃ (p1 p2 p3 p4 p5 p6 p7 p8 p9 p10 p11 : Pos) (j : Nat), (fd "law").2.1 = [.Assign [.Name "_law_spring_here" p1] (.Call (.Name "_law_spring" p2) [.Name "_law_script" p3] [] p4) p5, .For (.Name "_law_turn" p6) (.Call (.Name "range" p7) [.Constant (.int 4) j p8] [] p9) lawLoop [] p10, .Return (some retE) p11] :=
  ⟨⟨178, 4, 178, 20⟩, ⟨178, 23, 178, 34⟩, ⟨178, 35, 178, 46⟩, ⟨178, 23, 178, 47⟩, ⟨178, 4, 178, 47⟩, ⟨179, 8, 179, 17⟩, ⟨179, 21, 179, 26⟩, ⟨179, 27, 179, 28⟩, ⟨179, 21, 179, 29⟩, (match (fd "law").2.1 with | [_, .For _ _ _ _ p, _] => p | _ => ⟨0, 0, 0, 0⟩), (match (fd "law").2.1 with | [_, _, .Return _ p] => p | _ => ⟨0, 0, 0, 0⟩), 0, by kernel_rfl⟩
theorem rRet : ((ck T ln 60).e cLaw retE).map (fun r => (r.x, r.o)) = some (irRet, []) := by kernel_rfl
theorem scLaw : FnScope cLaw.N ["_law_script"] cLaw.sc := ⟨rfl, rfl, rfl, by decide +kernel, rfl, by decide +kernel, by decide +kernel⟩
/-- where the spring stands, how many draws are behind -/
structure Ix where
  a : Addr
  G : Addr
  L : Addr
  off : Nat
  ho : off ≤ 500
section
variable {K : PySem.W.Frag} {Gt : Nat → Option Addr} {tabs : List (Addr × Str)} {w : World} {mg : Str → Option Value} {base : Heap}
def Bx (K : PySem.W.Frag) (Gt : Nat → Option Addr) (tabs : List (Addr × Str)) (w : World) (mg : Str → Option Value) (base : Heap) (x : Ix) : Bs := ⟨scene K Gt T.lam tabs x.off x.a x.G x.L, P, w, mg, base, T, tabs⟩
/-- from what stands apart alone -/
theorem rep_none {S : Sc} {m : Nat} {H : Hp} (h : S.Φ m H) : Rep S (fun _ => none) ⟨.z, .e, m⟩ H where
  cell := fun l c q => by
    have z : Tr.get l .e = some c := q
    rw [Tr.get_e] at z
    cases z
  dom := fun l a q => nomatch q
  inj := fun l l' a q => nomatch q
  fresh := fun l c q => by
    have z : Tr.get l .e = some c := q
    rw [Tr.get_e] at z
    cases z
  fo := h
  foF := fun l a q => nomatch q
theorem rep_one {S : Sc} {m : Nat} {H : Hp} {a : Addr} {c : Cell} (h : S.Φ m H) (hF : a ∉ S.F) (hc : ∀ ρ', COk S ρ' H c a) : Rep S (fun j => if j = .z then some a else none) ⟨.s .z, .b (some c) .e .e, m⟩ H where
  cell := fun l c' q => by
    obtain ⟨rfl, rfl⟩ := one_get q
    exact ⟨a, if_pos rfl, hc _⟩
  dom := fun l b q => by
    by_cases e : l = .z
    · subst e; exact ⟨c, rfl⟩
    · rw [if_neg e] at q; cases q
  inj := fun l l' b q q' => by
    by_cases e : l = .z
    · by_cases e' : l' = .z
      · rw [e, e']
      · rw [if_neg e'] at q'; cases q'
    · rw [if_neg e] at q; cases q
  fresh := fun l c' q => by
    obtain ⟨rfl, rfl⟩ := one_get q
    exact Nat.lt.base 0
  fo := h
  foF := fun l b q => by
    by_cases e : l = .z
    · rw [if_pos e] at q
      cases q
      exact hF
    · rw [if_neg e] at q; cases q
theorem rel_slots {S : Sc} {ρ : Rho} {H : Hp} {σ : L2.St} {tu one : Option A} (hl : σ.length = 14) (h1 : ∃ v, σ[1]? = some (some v) ∧ Rel S ρ H (.glo 99) v) (h2 : ∀ x, tu = some x → ∃ v, σ[2]? = some (some v) ∧ Rel S ρ H x v) (h5 : ∀ x, one = some x → ∃ v, σ[5]? = some (some v) ∧ Rel S ρ H x v) : RelS S ρ H (slots tu one) σ := by
  refine ⟨by rw [hl]; rfl, fun i x e => ?_⟩
  match i, e with
  | 0, e => cases e
  | 1, e => cases e; exact h1
  | 2, e => exact h2 x (Option.some.inj e)
  | 3, e => cases e
  | 4, e => cases e
  | 5, e => exact h5 x (Option.some.inj e)
  | n + 6, e =>
    have z : (List.replicate 8 (none : Option A))[n]? = some (some x) := e
    rw [List.getElem?_replicate] at z
    split at z <;> cases z
/-- between the turns -/
def Turn (tabs : List (Addr × Str)) (a G L : Addr) (i : Nat) (σ : L2.St) (H : Hp) : Prop := σ.length = 14 ∧ σ[1]? = some (some (.ref a)) ∧ Spr H a G L (12 * i) ∧ LamX.Tabs tabs H
theorem spr_wid {H : Hp} {a G L : Addr} {m m' : Nat} (h : Spr H a G L m) (le : m ≤ m') : Spr H a G L m' := by
  obtain ⟨gs, ls, cur, n, q1, q2, q3, q4, q5, q6, q7, q8, q9, q10⟩ := h
  exact ⟨gs, ls, cur, n, q1, q2, q3, q4, q5, q6, q7, q8, q9, by omega⟩
theorem rel_spr {x : Ix} {ρ : Rho} {H : Hp} : Rel (Bx K Gt tabs w mg base x).S ρ H (.glo 99) (.ref x.a) := ⟨x.a, (show (if (99 : Nat) = 99 then some x.a else Gt 99) = some x.a from if_pos rfl), rfl⟩
theorem spr_rel {x : Ix} {ρ : Rho} {H : Hp} {v : V} (h : Rel (Bx K Gt tabs w mg base x).S ρ H (.glo 99) v) : v = .ref x.a := by
  obtain ⟨b, h1, h2⟩ := h
  have z : (if (99 : Nat) = 99 then some x.a else Gt 99) = some b := h1
  rw [if_pos rfl] at z
  rw [h2, Option.some.inj z]
/-- behind what is drawn: every menu value goes through the rest of the turn -/
theorem menu {t : Int} (ht : t ∈ ([0, 1, 2, 3] : List Int)) {x y : Ix} (ea : y.a = x.a) (eG : y.G = x.G) (eL : y.L = x.L) {ρ : Rho} {h : Hh} {H : Hp} {a : A} {v : V} (R : Rep (Bx K Gt tabs w mg base x).S ρ h H) (g : good t a h = true) (rv : Rel (Bx K Gt tabs w mg base x).S ρ H a v) (hy : (Bx K Gt tabs w mg base y).S.Φ 10 H) :
    ∃ ρ' h' a', Rep (Bx K Gt tabs w mg base y).S ρ' h' H ∧ Rel (Bx K Gt tabs w mg base y).S ρ' H a' v ∧ (partB a' h').chk (isNx 10) = true := by
  unfold good at g
  split at g
  · rename_i i
    refine ⟨_, h0 10, .int i, rep_none hy, rv, ?_⟩
    have hi : i ∈ ([0, -1, 10 ^ 29, 10 ^ 29 + 1, 10 ^ 29 + 2, 10 ^ 29 + 3] : List Int) := by
      have z := List.contains_iff_mem.mp g
      unfold menuI at z
      simp only [List.mem_cons, List.not_mem_nil, or_false] at z ht ⊢
      omega
    exact List.all_eq_true.mp b_int i hi
  · rename_i b
    rw [g] at rv
    exact ⟨_, h0 10, .bl true, rep_none hy, rv, b_bt⟩
  · exact ⟨_, h0 10, .non, rep_none hy, rv, b_no⟩
  · rename_i z
    rw [Bool.or_eq_true] at g
    rcases g with g | g
    · rw [eq_of_beq g] at rv
      exact ⟨_, h0 10, .str "", rep_none hy, rv, b_se⟩
    · rw [eq_of_beq g] at rv
      exact ⟨_, h0 10, .str "a b", rep_none hy, rv, b_sa⟩
  · rename_i z i
    rw [Bool.and_eq_true] at g
    rw [eq_of_beq g.1, eq_of_beq g.2] at rv
    obtain ⟨q, vs, e1, e2, u1, r1, e3, e4, u2, r2, e5, e6, e7⟩ := rv
    exact ⟨_, h0 10, .tup [.str "red", .int 0], rep_none hy, ⟨q, vs, e1, e2, u1, r1, e3, e4, u2, r2, e5, e6, e7⟩, b_tu⟩
  · rename_i l
    obtain ⟨q, e1, e2⟩ := rv
    split at g
    · rename_i r e3
      obtain ⟨q', e4, us, e5, u1, r1, e6, e7, e8⟩ := R.cell _ _ e3
      rw [e1] at e4
      cases e4
      have e7' : u1 = V.int r := e7
      have e8' : r1 = [] := e8
      subst e7' e8' e6
      have nF : q ∉ (Bx K Gt tabs w mg base y).S.F := fun z => R.foF _ _ e1 (by
        have z2 : q ∈ y.a :: y.G :: y.L :: tabs.map (·.1) := z
        rw [ea, eG, eL] at z2
        exact z2)
      exact ⟨_, st (.lst [.int r]) 10, .loc .z, rep_one hy nF fun ρ' => ⟨_, e5, _, _, rfl, rfl, rfl⟩, ⟨q, if_pos rfl, e2⟩, List.all_eq_true.mp b_lst r (List.contains_iff_mem.mp g)⟩
    · rename_i z e3
      obtain ⟨q', e4, o, us, e5, c1, u1, r1, e6, e7, e8, e9⟩ := R.cell _ _ e3
      rw [e1] at e4
      cases e4
      have e8' : u1 = V.non := e8
      have e9' : r1 = [] := e9
      subst e8' e9' e6
      rw [eq_of_beq g] at e7
      have nF : q ∉ (Bx K Gt tabs w mg base y).S.F := fun z => R.foF _ _ e1 (by
        have z2 : q ∈ y.a :: y.G :: y.L :: tabs.map (·.1) := z
        rw [ea, eG, eL] at z2
        exact z2)
      exact ⟨_, st (.dct [(.str "x", .non)]) 10, .loc .z, rep_one hy nF fun ρ' => ⟨o, _, e5, c1, _, _, rfl, e7, rfl, rfl⟩, ⟨q, if_pos rfl, e2⟩, b_di⟩
    · cases g
  · cases g
/-- the promise of the law -/
def spLaw (K : PySem.W.Frag) (tabs : List (Addr × Str)) : Sp := fun vs H Q _ => ∃ (a : Addr) (ns : List Int), vs = [.ref a] ∧ ns.length ≤ 63 ∧ SqL K H a (ns.map V.int) ∧ LamX.Tabs tabs H ∧ ∀ H', Q (.bl true) H'
theorem tabs_keep {H H' : Hp} (t : LamX.Tabs tabs H) (k : ∀ b o, H b = some o → H' b = some o) : LamX.Tabs tabs H' := tabs_stay t (fun p hp => by
  obtain ⟨ps, h1, _⟩ := t p hp
  rw [k _ _ h1, h1]) fun b φ z => k _ _ z
theorem nx14 {f : Fl} {h : Hh} (q : isNx 10 f h = true) : ∃ s, f = .nx s ∧ s[1]? = some (some (.glo 99)) ∧ s.length = 14 ∧ h.cnt ≤ 10 := by
  unfold isNx at q
  split at q
  · rename_i s
    rw [Bool.and_eq_true, Bool.and_eq_true] at q
    obtain ⟨q1, q2, q3⟩ := q
    split at q1
    · rename_i e
      exact ⟨s, rfl, e, eq_of_beq q2, of_decide_eq_true q3⟩
    · cases q1
  · cases q
theorem drew14 {t : Int} {m : Nat} {f : Fl} {h : Hh} (q : drew t m f h = true) : ∃ s a, f = .nx s ∧ s[1]? = some (some (.glo 99)) ∧ s[5]? = some (some a) ∧ good t a h = true ∧ s.length = 14 ∧ h.cnt ≤ m := by
  unfold drew at q
  split at q
  · rename_i s
    rw [Bool.and_eq_true, Bool.and_eq_true] at q
    obtain ⟨q1, q2, q3⟩ := q
    split at q1
    · rename_i a e1 e2
      exact ⟨s, a, rfl, e1, e2, q1, eq_of_beq q2, of_decide_eq_true q3⟩
    · cases q1
  · cases q
theorem ret_true {a : A} (h : isT a = true) : a = .bl true := by
  unfold isT at h
  split at h
  · rw [h]
  · cases h
theorem walk_core {r : Rec} {fS f : Addr} {fdS : FuncData} {cd : Value} {A : Around} {outer : List Env} {s : Shared} {H : Hp} {E : XK} (BO : ∀ x, BOk (Bx K Gt tabs w mg base x)) (CO : ∀ x, CallOk (Bx K Gt tabs w mg base x) 22 call) (SN : ∀ x, Snd (Bx K Gt tabs w mg base x) 22 r) (hA : ∀ t m, partA t m = thr r (ir 0) (thr r (ir 1) (stepS r (ir 2))) (slots (some (.int t)) none) (h0 m)) (hB : ∀ a h, partB a h = r.ss (irLoop.drop 3) (slots none (some a)) h)
    (hR : (r.e irRet (slots none none) (h0 10)).chk (fun a _ => isT a) = true)
    (FS : FnOk P w K mg base (L2.CX P w) 2 fS fdS ["_law_script"] (spSpring K)) (mS : mg "_law_spring" = some (.ref fS)) (kS : PySem.W.keepIn K (.ref fS) = true) (bS : Binds K fdS ["_law_script"] []) (mR : mg "range" = none)
    (hr : Room 22 (A.deeper (envOfC "law" cLaw.sc s.heap.objs.size f cd))) :
    ∃ t, PSs (cxOf (L2.CX P w) P w K mg base cLaw.N "law" cLaw.sc f cd A outer s H E) (fd "law").2.1 t ∧ ∀ vs H Q E', spLaw K tabs vs H Q E' → t { nx := fun _ H' => Q .non H', rt := Q } (L2.start cLaw.N vs) H := by
  have O : ∀ x, Ok (Bx K Gt tabs w mg base x) 22 cLaw (cxOf (L2.CX P w) P w K mg base cLaw.N "law" cLaw.sc f cd A outer s H E) E := fun x => ok_cx (B := Bx K Gt tabs w mg base x) scLaw hr (by decide) (fun _ z => nomatch z)
  have hret : Cp T cLaw retE irRet := cp_by rRet fun p hp => nomatch hp
  have hC : Css T cLaw lawLoop (ir 0 :: ir 1 :: ir 2 :: irLoop.drop 3) := css_by rLoop fun p hp => nomatch hp
  obtain ⟨p1, p2, p3, p4, p5, p6, p7, p8, p9, p10, p11, j, eb⟩ := lawB_eq
  rw [eb]
  clear eb
  generalize lawLoop = ll at hC
  cases hC with
  | cons h1 hC => cases hC with
    | cons h2 hC => cases hC with
      | cons h3 h4 =>
        refine ⟨_, pss_cons (ps_set (i := 1) scLaw.nd rfl (.inl rfl) (pe_call (E := E) FS (hr.mono (by decide)) rfl mS kS bS .nil (O ⟨0, 0, 0, 0, by decide⟩).pass (pa_cons (pv 0) pa_nil)))
          (pss_cons (ps_for (O ⟨0, 0, 0, 0, by decide⟩).own rfl (pi_range1 rfl mR (pa_cons pe_int pa_nil)) (pg_name (i := 2) scLaw.nd rfl (.inl rfl))
            (pss_cons (ps_ex fun x => s_of (BO x) (CO x) (SN x) (O x) h1) (pss_cons (ps_ex fun x => s_of (BO x) (CO x) (SN x) (O x) h2) (pss_cons (ps_ex fun x => s_of (BO x) (CO x) (SN x) (O x) h3) (pss_ex fun x => (SN x).ss (O x) h4)))))
          (pss_one (ps_ret (pe_ex fun x => (SN x).pe (O x) hret)))), ?_⟩
        intro vs H Q E' hsp
        obtain ⟨a0, ns, rfl, hl, hs, hT, hQ⟩ := hsp
        refine ⟨_, rfl, a0, ns, rfl, hl, hs, fun a G L H1 kp nS nG nL sp => ?_⟩
        refine ⟨4, rfl, by decide, by decide, for_range (n := 4) (Turn tabs a G L) ⟨rfl, rfl, sp, tabs_keep hT kp⟩ (fun i σ H i4 W => ?_) fun σ H W => ?_⟩
        · obtain ⟨wl, w1, wS, wT⟩ := W
          have hi : i ∈ [0, 1, 2, 3] := by
            simp only [List.mem_cons, List.not_mem_nil, or_false]
            omega
          let x : Ix := ⟨a, G, L, 10 * i, by omega⟩
          let y : Ix := ⟨a, G, L, 12 * i + 2, by omega⟩
          have hΦ : (Bx K Gt tabs w mg base x).S.Φ (2 * i) H := ⟨spr_wid wS (by show 12 * i ≤ 10 * i + 2 * i; omega), wT⟩
          have q := Out.chk_all (X := XW (Bx K Gt tabs w mg base x).S (fun _ => none) H E) (List.all_eq_true.mp pA i hi)
          rw [hA] at q
          refine ⟨x, _, h0 (2 * i), slots (some (.int (i : Nat))) none, rep_none hΦ, rel_slots (by rw [List.length_set]; exact wl) ⟨.ref a, by rw [List.getElem?_set_ne (by decide)]; exact w1, rel_spr (x := x)⟩ (fun z e => by cases e; exact ⟨_, List.getElem?_set_self (by omega), by show V.int (0 + (i : Int)) = V.int (i : Int); rw [Int.zero_add]⟩) (fun z e => nomatch e), ?_⟩
          refine go (m := stepS r (ir 0) (slots (some (.int (i : Nat))) none) (h0 (2 * i))) q fun f1 g1 q1 ρ1 H1 e1 R1 => ?_
          cases f1 with
          | rt a => exact (by obtain ⟨_, _, z, _⟩ := drew14 q1; cases z)
          | bk s1 => exact (by obtain ⟨_, _, z, _⟩ := drew14 q1; cases z)
          | ct s1 => exact (by obtain ⟨_, _, z, _⟩ := drew14 q1; cases z)
          | nx s1 =>
            intro σ1 rs1
            refine ⟨x, ρ1, g1, s1, R1, rs1, ?_⟩
            refine go (m := stepS r (ir 1) s1 g1) (all_mono e1 (fun _ _ y => y) q1) fun f2 g2 q2 ρ2 H2 e2 R2 => ?_
            cases f2 with
            | rt a => exact (by obtain ⟨_, _, z, _⟩ := drew14 q2; cases z)
            | bk s1 => exact (by obtain ⟨_, _, z, _⟩ := drew14 q2; cases z)
            | ct s1 => exact (by obtain ⟨_, _, z, _⟩ := drew14 q2; cases z)
            | nx s2 =>
              intro σ2 rs2
              refine ⟨x, ρ2, g2, s2, R2, rs2, ?_⟩
              refine (all_mono (P := fun f h => drew (i : Nat) (2 * i + 2) f h = true) e2 (fun f3 g3 q3 ρ3 H3 e3 R3 => ?_) q2)
              obtain ⟨s3, b, rfl, c1, c5, cg, c14, cc⟩ := drew14 q3
              intro σ3 rs3
              obtain ⟨u1, d1, d2⟩ := rs3.2 1 _ c1
              obtain ⟨u5, d3, d4⟩ := rs3.2 5 _ c5
              have eu := spr_rel d2
              subst eu
              have hy : (Bx K Gt tabs w mg base y).S.Φ 10 H3 := ⟨spr_wid R3.fo.1 (by show 10 * i + g3.cnt ≤ 12 * i + 2 + 10; omega), R3.fo.2⟩
              have hti : ((i : Nat) : Int) ∈ ([0, 1, 2, 3] : List Int) := by
                simp only [List.mem_cons, List.not_mem_nil, or_false] at hi ⊢
                omega
              obtain ⟨ρ', h', a', R', rv', ck'⟩ := menu hti (y := y) (x := x) rfl rfl rfl R3 cg d4 hy
              refine ⟨y, ρ', h', slots none (some a'), R', rel_slots (by rw [← rs3.1]; exact c14) ⟨_, d1, rel_spr (x := y)⟩ (fun z e => nomatch e) (fun z e => by cases e; exact ⟨u5, d3, rv'⟩), ?_⟩
              rw [hB] at ck'
              refine (Out.chk_all (X := XW (Bx K Gt tabs w mg base y).S ρ' H3 E) ck').mono (fun f4 g4 q4 ρ4 H4 e4 R4 => ?_) fun _ _ _ z => z
              obtain ⟨s4, rfl, b1, b14, bc⟩ := nx14 q4
              intro σ4 rs4
              obtain ⟨v1, k1, k2⟩ := rs4.2 1 _ b1
              have ev := spr_rel k2
              subst ev
              exact ⟨by rw [← rs4.1]; exact b14, k1, spr_wid R4.fo.1 (by show 12 * i + 2 + g4.cnt ≤ 12 * (i + 1); omega), R4.fo.2⟩
        · obtain ⟨wl, w1, wS, wT⟩ := W
          have hΦ : (Bx K Gt tabs w mg base ⟨a, G, L, 48, by omega⟩).S.Φ 10 H := ⟨spr_wid wS (by show 12 * 4 ≤ 48 + 10; omega), wT⟩
          refine ⟨⟨a, G, L, 48, by omega⟩, _, h0 10, slots none none, rep_none hΦ, rel_slots wl ⟨_, w1, rel_spr (x := ⟨a, G, L, 48, by omega⟩)⟩ (fun z e => nomatch e) (fun z e => nomatch e), ?_⟩
          refine (Out.chk_all (X := XW (Bx K Gt tabs w mg base ⟨a, G, L, 48, by omega⟩).S (fun _ => none) H E) hR).mono (fun a' g' q' ρ' H' v' e' R' rv' => ?_) fun _ _ _ z => z
          rw [ret_true q'] at rv'
          rw [show v' = V.bl true from rv']
          exact hQ H'
theorem walk_law {fS f : Addr} {fdS : FuncData} {cd : Value} {A : Around} {outer : List Env} {s : Shared} {H : Hp} {E : XK} (BO : ∀ x, BOk (Bx K Gt tabs w mg base x)) (DO : ∀ x y f n, T.gl.lookup y = some (.fn f n) → (∃ g, pick f = some g ∧ PickD (Bx K Gt tabs w mg base x) 2 g y f n) ∨ (pick f = none ∧ DefD (Bx K Gt tabs w mg base x) fns y f n))
    (FS : FnOk P w K mg base (L2.CX P w) 2 fS fdS ["_law_script"] (spSpring K)) (mS : mg "_law_spring" = some (.ref fS)) (kS : PySem.W.keepIn K (.ref fS) = true) (bS : Binds K fdS ["_law_script"] []) (mR : mg "range" = none)
    (hr : Room 22 (A.deeper (envOfC "law" cLaw.sc s.heap.objs.size f cd))) :
    ∃ t, PSs (cxOf (L2.CX P w) P w K mg base cLaw.N "law" cLaw.sc f cd A outer s H E) (fd "law").2.1 t ∧ ∀ vs H Q E', spLaw K tabs vs H Q E' → t { nx := fun _ H' => Q .non H', rt := Q } (L2.start cLaw.N vs) H := by
  have CO : ∀ x, CallOk (Bx K Gt tabs w mg base x) 22 call := fun x => call_ok (B := Bx K Gt tabs w mg base x) (F := 1000) (k0 := 2) (by decide) (BO x) (DO x) (lams rfl) 20
  have SN : ∀ x, Snd (Bx K Gt tabs w mg base x) 22 rr := fun x => snd_evR (BO x) (CO x) 1000
  exact walk_core BO CO SN (fun t m => by unfold partA runA; rfl) (fun a h => by unfold partB; rfl) b_ret FS mS kS bS mR hr
end
end K01
set_option Elab.async false
set_option linter.all false
set_option maxRecDepth 100000
set_option maxHeartbeats 4000000
namespace K01
open PySem PySem.Spec PyProof.Rows L2 ER EV
/-! ### what is looked at behind the top -/
def clsN : List Str := ["TallyError", "BadAtom", "BadCount", "BadSize", "BadRow", "BadMany", "TooGreat", "BadPower", "BadTerm", "BadOperand", "BadPattern", "Unsettled", "BadCounts", "Misfit", "BadOffer", "TooFew", "BadName", "NoWatch", "NoDeed", "BadText", "BadLine", "Tangled", "BadWay", "BadPlace"]
def ad (K : PySem.W.Frag) (i : Nat) : Addr := He.ga K (clsN.getD i "")
def Gt (K : PySem.W.Frag) (i : Nat) : Option Addr := if i < 24 then some (ad K i) else none
def eqB (a b : Option Bool) : Bool := decide (a = b)
/-- isinstance, all pairs -/
def kitB (K : PySem.W.Frag) : Bool :=
  ((List.range 7).all fun a => ((List.range 7).all fun b => eqB (PySem.W.kitOne K (.type (tyN a)) (.type (tyN b))) (isi1 kit (.ty a) (.ty b))) && (List.range 24).all fun g => eqB (PySem.W.kitOne K (.type (tyN a)) (.ref (ad K g))) (isi1 kit (.ty a) (.glo g))) &&
  (List.range 24).all fun g => ((List.range 11).all fun b => eqB (PySem.W.kitOne K (.ref (ad K g)) (.type (tyN b))) (isi1 kit (.glo g) (.ty b))) && (List.range 24).all fun g' => eqB (PySem.W.kitOne K (.ref (ad K g)) (.ref (ad K g'))) (isi1 kit (.glo g) (.glo g'))
def excB (K : PySem.W.Frag) (C : Addr) : Bool :=
  He.eqO (PySem.W.findIn K (.ref C) "__getattribute__") (some (some (.builtin "BaseException.__getattribute__"))) && (He.eqO (PySem.W.findIn K (.ref C) "__getattr__") (some none) && (eqB (PySem.W.subIn K (.ref C) (.type "BaseException")) (some true) && (PySem.W.hasDictIn K C &&
  (He.eqO (PySem.W.findIn K (.ref C) "__class__") (some (some (.builtin "object.__class__"))) && (He.eqO (PySem.W.specialIn K (.builtin "object.__class__") "__get__") (some (some (.builtin "getset_descriptor.__get__"))) && (eqB (PySem.W.takesIn K (.builtin "object.__class__")) (some true) && eqB (PySem.W.mroIn K C (.type "object")) (some true)))))))
theorem excB_ok {K : PySem.W.Frag} {C : Addr} (h : excB K C = true) : ExcC K C := by
  obtain ⟨h1, h⟩ := He.ba h
  obtain ⟨h2, h⟩ := He.ba h
  obtain ⟨h3, h⟩ := He.ba h
  obtain ⟨h4, h⟩ := He.ba h
  obtain ⟨h5, h⟩ := He.ba h
  obtain ⟨h6, h⟩ := He.ba h
  obtain ⟨h7, h8⟩ := He.ba h
  exact ⟨He.eqO_ok h1, He.eqO_ok h2, of_decide_eq_true h3, h4, He.eqO_ok h5, He.eqO_ok h6, of_decide_eq_true h7, of_decide_eq_true h8⟩
/-- the class object of an own error with an __init__ -/
def clsB (K : PySem.W.Frag) (C : Addr) : Bool := match K.lookup C with
  | some ⟨.type t, dd, .cls ⟨nm, bs, .ref C' :: bm, N, qn, true, sn, sub, ab, col, false⟩, sl⟩ => (match sl.toList with
    | [k0, k1, k2, k3, some (.builtin n), k5] => decide (t = "type") && (decide (C' = C) && (decide (n = "ValueError.__new__") && PySem.HandSPX.refsVE bm))
    | _ => false)
  | _ => false
theorem clsB_ok {K : PySem.W.Frag} {C : Addr} (h : clsB K C = true) : ∃ nm q N bs bm sn sub ab col dd k0 k1 k2 k3 k5, K.lookup C = some (excClassObj nm q C N bs bm true sn sub ab col dd k0 k1 k2 k3 k5 "ValueError.__new__") ∧ PySem.HandSPX.refsVE bm = true := by
  unfold clsB at h
  split at h
  · rename_i t dd nm bs C' bm N qn sn sub ab col sl e
    split at h
    · rename_i k0 k1 k2 k3 n k5 e2
      obtain ⟨h1, h⟩ := He.ba h
      obtain ⟨h2, h⟩ := He.ba h
      obtain ⟨h3, h4⟩ := He.ba h
      have e3 : sl = #[k0, k1, k2, k3, some (.builtin n), k5] := Array.ext' e2
      have z1 := of_decide_eq_true h1
      have z2 := of_decide_eq_true h2
      have z3 := of_decide_eq_true h3
      subst z1 z2 z3 e3
      exact ⟨nm, qn, N, bs, bm, sn, sub, ab, col, dd, k0, k1, k2, k3, k5, e, h4⟩
    · cases h
  · cases h
def oexB (K : PySem.W.Frag) (C : Addr) : Bool :=
  clsB K C && (He.eqO (PySem.W.findIn K (.ref C) "__setattr__") (some (some (.builtin "object.__setattr__"))) && (eqB (PySem.W.subIn K (.ref C) (.type "BaseException")) (some true) && (decide (PySem.W.typeIn K (.ref C) = some (.type "type")) && PySem.W.keepIn K (.ref C))))
theorem oexB_ok {K : PySem.W.Frag} {C : Addr} (h : oexB K C = true) : OexC K C := by
  obtain ⟨h1, h⟩ := He.ba h
  obtain ⟨h2, h⟩ := He.ba h
  obtain ⟨h3, h⟩ := He.ba h
  obtain ⟨h4, h5⟩ := He.ba h
  exact ⟨clsB_ok h1, He.eqO_ok h2, of_decide_eq_true h3, of_decide_eq_true h4, h5⟩
/-! ### the __init__ of an own error -/
def codeB (K : PySem.W.Frag) (c : Addr) : Bool := match K.lookup c with
  | some ⟨_, _, .fields vs, _⟩ => (match (vs[2]? : Option Value) with
    | some (.str file _) => P.main.file == file
    | _ => false)
  | _ => false
theorem codeB_ok {K : PySem.W.Frag} {c : Addr} (h : codeB K c = true) : ∃ ccl cdd vs ccs file tf, K.lookup c = some ⟨ccl, cdd, .fields vs, ccs⟩ ∧ vs[2]? = some (.str file tf) ∧ ((P.main.file : Str) == file) = true := by
  unfold codeB at h
  split at h
  · rename_i e
    split at h
    · rename_i file tf e2
      exact ⟨_, _, _, _, file, tf, e, e2, h⟩
    · cases h
  · cases h
def cellB (K : PySem.W.Frag) (c C : Addr) : Bool := match K.lookup c with
  | some ⟨_, _, .cell (some (.ref C')), _⟩ => decide (C' = C)
  | _ => false
theorem cellB_ok {K : PySem.W.Frag} {c C : Addr} (h : cellB K c C = true) : ∃ cl cld csl, K.lookup c = some ⟨cl, cld, .cell (some (.ref C)), csl⟩ := by
  unfold cellB at h
  split at h
  · rename_i C' _ e
    have z := of_decide_eq_true h
    subst z
    exact ⟨_, _, _, e⟩
  · cases h
def scopeB : Scope → Bool
  | ⟨.function, names, false, false, _⟩ => (names.all fun y => !(y.2 == NameKind.cell) && (!(y.2 == NameKind.free) || y.1 == "__class__")) && (kindIs ⟨.function, names, false, false, []⟩ "super" .globalImplicit && (kindIs ⟨.function, names, false, false, []⟩ "__class__" .free && kindIs ⟨.function, names, false, false, []⟩ "self" .local))
  | _ => false
theorem scopeB_ok {sc : Scope} (h : scopeB sc = true) : ErrS sc := by
  unfold scopeB at h
  split at h
  · rename_i names more
    obtain ⟨h1, h⟩ := He.ba h
    obtain ⟨h2, h⟩ := He.ba h
    obtain ⟨h3, h4⟩ := He.ba h
    refine ⟨rfl, rfl, rfl, fun x hx z => ?_, fun x hx => ?_, kindIs_ok h2, kindIs_ok h3, kindIs_ok h4⟩
    · obtain ⟨q1, q2⟩ := He.ba (List.all_eq_true.mp h1 x hx)
      rw [z] at q1
      cases q1
    · obtain ⟨q1, q2⟩ := He.ba (List.all_eq_true.mp h1 _ (PySem.mem_of_lookup hx))
      rw [Bool.or_eq_true] at q2
      rcases q2 with q2 | q2
      · cases q2
      · exact eq_of_beq q2
  · cases h
/-- what is common to both kinds: the function object at fI, the class at C -/
def headB (K : PySem.W.Frag) (C fI : Addr) (name qual cn : Str) (scope : Scope) (gl bi cc cda : Addr) : Bool :=
  decide (name = "__init__") && (decide (gl = mainGlobals) && (decide (cn = "__class__") && (decide (bi = builtinsNs) && (PySem.W.codeIn K (.ref cda) qual && (decide (PySem.W.typeIn K (.ref fI) = some (.type "function")) && (codeB K cda && (cellB K cc C && (scopeB scope && (oexB K C &&
  (decide (PySem.W.ks_superIn K C C "__init__" = some (some (.builtin "ValueError.__init__"))) && He.eqO (PySem.W.nsIn K cStatics "thirdparty.any") (some none)))))))))))
structure HeadOk (K : PySem.W.Frag) (mg : Str → Option Value) (C fI : Addr) (name qual cn : Str) (scope : Scope) (gl bi cc cda : Addr) : Prop where
  name : name = "__init__"
  gl : gl = mainGlobals
  cn : cn = "__class__"
  bi : bi = builtinsNs
  code : PySem.W.codeIn K (.ref cda) qual = true
  ty : PySem.W.typeIn K (.ref fI) = some (.type "function")
  sc : ErrS scope
  T : ErrT P K mg C cc cda
theorem headB_ok {K : PySem.W.Frag} {mg : Str → Option Value} {C fI : Addr} {name qual cn : Str} {scope : Scope} {gl bi cc cda : Addr} (ms : mg "super" = none) (h : headB K C fI name qual cn scope gl bi cc cda = true) : HeadOk K mg C fI name qual cn scope gl bi cc cda := by
  obtain ⟨h1, h⟩ := He.ba h
  obtain ⟨h2, h⟩ := He.ba h
  obtain ⟨h3, h⟩ := He.ba h
  obtain ⟨h4, h⟩ := He.ba h
  obtain ⟨h5, h⟩ := He.ba h
  obtain ⟨h6, h⟩ := He.ba h
  obtain ⟨h7, h⟩ := He.ba h
  obtain ⟨h8, h⟩ := He.ba h
  obtain ⟨h9, h⟩ := He.ba h
  obtain ⟨h10, h⟩ := He.ba h
  obtain ⟨h11, h12⟩ := He.ba h
  exact ⟨of_decide_eq_true h1, of_decide_eq_true h2, of_decide_eq_true h3, of_decide_eq_true h4, h5, of_decide_eq_true h6, scopeB_ok h9, ⟨oexB_ok h10, codeB_ok h7, cellB_ok h8, ms, of_decide_eq_true h11, He.eqO_ok h12, by decide +kernel⟩⟩
def fieldN : List Str := ["index", "many", "size", "row", "power", "thing", "word", "at", "line", "way", "place"]
def init1B (K : PySem.W.Frag) (C : Addr) (f : Str) : Bool := match PySem.W.findIn K (.ref C) "__init__" with
  | some (some (.ref fI)) => (match K.lookup fI with
    | some ⟨_, _, .func ⟨name, qual, ⟨[], [⟨a0, n0, q0⟩, ⟨a1, n1, q1⟩], none, [], [], none, []⟩, .stmts [.Expr (.Call (.Attribute (.Call (.Name s0 p0) [] [] p1) s1 p2) [.Constant (.str msg) j p3] [] p4) p5, .Assign [.Attribute (.Name s2 q2) s3 q3] (.Name s4 q4) q5], scope, gl, [(cn, cc)], .none, kV, doc, pm, an, .ref cda, ct, bi⟩, _⟩ =>
      headB K C fI name qual cn scope gl bi cc cda && (decide (a0 = "self") && (decide (a1 = f) && (decide (s0 = "super") && (decide (s1 = "__init__") && (decide (s2 = "self") && (decide (s3 = f) && (decide (s4 = f) && (kindIs scope f .local && ((p2.endLine == p4.line) && (He.eqO (PySem.W.findIn K (.ref C) f) (some none) && fieldN.contains f))))))))))
    | _ => false)
  | _ => false
def init0B (K : PySem.W.Frag) (C : Addr) : Bool := match PySem.W.findIn K (.ref C) "__init__" with
  | some (some (.ref fI)) => (match K.lookup fI with
    | some ⟨_, _, .func ⟨name, qual, ⟨[], [⟨a0, n0, q0⟩], none, [], [], none, []⟩, .stmts [.Expr (.Call (.Attribute (.Call (.Name s0 p0) [] [] p1) s1 p2) [.Constant (.str msg) j p3] [] p4) p5], scope, gl, [(cn, cc)], .none, kV, doc, pm, an, .ref cda, ct, bi⟩, _⟩ =>
      headB K C fI name qual cn scope gl bi cc cda && (decide (a0 = "self") && (decide (s0 = "super") && (decide (s1 = "__init__") && (p2.endLine == p4.line))))
    | _ => false)
  | _ => false
section
variable {qual : Str} {n0 n1 : Option Expr} {q0 q1 : Pos} {body : List Stmt} {scope : Scope} {kV doc pm ct : Value} {an : Option Addr} {cdv : Value} {cc : Addr} {a u : Value}
theorem bind1 {f : Str} (hf : fieldN.contains f = true) : bindArgs (PySem.W.ksFn "__init__" qual ⟨[], [⟨"self", n0, q0⟩, ⟨f, n1, q1⟩], none, [], [], none, []⟩ body scope .none kV doc pm an cdv ct cc) ⟨[a, u], []⟩ = pure [(("self" : Str), a), (f, u)] := by
  have h := List.contains_iff_mem.mp hf
  simp only [fieldN, List.mem_cons, List.not_mem_nil, or_false] at h
  rcases h with rfl | rfl | rfl | rfl | rfl | rfl | rfl | rfl | rfl | rfl | rfl <;> rfl
theorem bindK {f : Str} (hf : fieldN.contains f = true) : bindArgs (PySem.W.ksFn "__init__" qual ⟨[], [⟨"self", n0, q0⟩, ⟨f, n1, q1⟩], none, [], [], none, []⟩ body scope .none kV doc pm an cdv ct cc) ⟨[a], [(f, u)]⟩ = pure [(("self" : Str), a), (f, u)] := by
  have h := List.contains_iff_mem.mp hf
  simp only [fieldN, List.mem_cons, List.not_mem_nil, or_false] at h
  rcases h with rfl | rfl | rfl | rfl | rfl | rfl | rfl | rfl | rfl | rfl | rfl <;> rfl
theorem bind0 : bindArgs (PySem.W.ksFn "__init__" qual ⟨[], [⟨"self", n0, q0⟩], none, [], [], none, []⟩ body scope .none kV doc pm an cdv ct cc) ⟨[a], []⟩ = pure [(("self" : Str), a)] := rfl
end
theorem field_ok {f : Str} (hf : fieldN.contains f = true) : f ≠ "self" ∧ (f == ("__debug__" : Str)) = false ∧ (f == ("__classdict__" : Str)) = false := by
  have h := List.contains_iff_mem.mp hf
  simp only [fieldN, List.mem_cons, List.not_mem_nil, or_false] at h
  rcases h with rfl | rfl | rfl | rfl | rfl | rfl | rfl | rfl | rfl | rfl | rfl <;> decide
theorem init1B_ok {w : World} {base : Heap} {K : PySem.W.Frag} {mg : Str → Option Value} {C : Addr} {f : Str} (ms : mg "super" = none) (h : init1B K C f = true) : ∃ fI fd, Err1Ok P w K mg base C f fI fd := by
  unfold init1B at h
  split at h
  · rename_i fI e1
    split at h
    · rename_i name qual a0 n0 q0 a1 n1 q1 s0 p0 p1 s1 p2 msg j p3 p4 p5 s2 q2 s3 q3 s4 q4 q5 scope gl cn cc kV doc pm an cda ct bi _ e2
      obtain ⟨h0, h⟩ := He.ba h
      obtain ⟨h1, h⟩ := He.ba h
      obtain ⟨h2, h⟩ := He.ba h
      obtain ⟨h3, h⟩ := He.ba h
      obtain ⟨h4, h⟩ := He.ba h
      obtain ⟨h5, h⟩ := He.ba h
      obtain ⟨h6, h⟩ := He.ba h
      obtain ⟨h7, h⟩ := He.ba h
      obtain ⟨h8, h⟩ := He.ba h
      obtain ⟨h9, h⟩ := He.ba h
      obtain ⟨h10, h11⟩ := He.ba h
      have hd := headB_ok (mg := mg) ms h0
      have z1 := of_decide_eq_true h1
      have z2 := of_decide_eq_true h2
      have z3 := of_decide_eq_true h3
      have z4 := of_decide_eq_true h4
      have z5 := of_decide_eq_true h5
      have z6 := of_decide_eq_true h6
      have z7 := of_decide_eq_true h7
      have y1 := hd.name
      have y2 := hd.gl
      have y3 := hd.cn
      have y4 := hd.bi
      subst y1 y2 y3 y4 z1 z2 z3 z4 z5 z6
      have z7' : s4 = s3 := z7
      subst z7'
      obtain ⟨g1, g2, g3⟩ := field_ok h11
      refine ⟨fI, _, hd.T.T, e1, hd.ty, fun CX => err_init1 (CX := CX) (ar := ⟨"self", n0, q0⟩) hd.T hd.sc e2 hd.code rfl rfl (kindIs_ok h8) g1 g2 g3 (He.eqO_ok h10) h9 (fun env => rfl) (fun env => rfl), fun s a u => .of_eq (bind1 h11), fun s a u => .of_eq (bindK h11)⟩
    · cases h
  · cases h
theorem init0B_ok {w : World} {base : Heap} {K : PySem.W.Frag} {mg : Str → Option Value} {C : Addr} (ms : mg "super" = none) (h : init0B K C = true) : ∃ fI fd, Err0Ok P w K mg base C fI fd := by
  unfold init0B at h
  split at h
  · rename_i fI e1
    split at h
    · rename_i name qual a0 n0 q0 s0 p0 p1 s1 p2 msg j p3 p4 p5 scope gl cn cc kV doc pm an cda ct bi _ e2
      obtain ⟨h0, h⟩ := He.ba h
      obtain ⟨h1, h⟩ := He.ba h
      obtain ⟨h3, h⟩ := He.ba h
      obtain ⟨h4, h9⟩ := He.ba h
      have hd := headB_ok (mg := mg) ms h0
      have z1 := of_decide_eq_true h1
      have z3 := of_decide_eq_true h3
      have z4 := of_decide_eq_true h4
      have y1 := hd.name
      have y2 := hd.gl
      have y3 := hd.cn
      have y4 := hd.bi
      subst y1 y2 y3 y4 z1 z3 z4
      refine ⟨fI, _, hd.T.T, e1, hd.ty, fun CX => err_init0 (CX := CX) (ar := ⟨"self", n0, q0⟩) hd.T hd.sc e2 hd.code rfl rfl h9 (fun env => rfl), fun s a => .of_eq bind0⟩
    · cases h
  · cases h
end K01
set_option Elab.async false
set_option linter.all false
set_option maxRecDepth 100000
set_option maxHeartbeats 4000000
namespace K01
open PySem PySem.Spec PyProof.Rows L2 ER EV
/-! ### the facts of the head -/
def dOf (x : Str) : He.DefD := ⟨(x, none), x, x, (fd x).1, (fd x).2.1, (fd x).2.2, [], []⟩
def dSpring : He.DefD := ⟨("_law_spring", none), "_law_spring", "_law_spring", defArgs sSpring, defBody sSpring, defScope sSpring, [], []⟩
def dTake : He.DefD := ⟨("_law_take", none), "_law_take", "_law_take", defArgs sTake, defBody sTake, defScope sTake, [], []⟩
def fnY : List He.DefD := [dSpring, dTake, dOf "_law_one", dOf "_law_same", dOf "_law_first", dOf "_law_others", dOf "_law_classes", dOf "law"]
def lawN : List Str := ["_law_spring", "_law_take", "_law_one", "_law_same", "_law_first", "_law_others", "_law_classes", "law"]
def faY : List He.Fa := free.map He.Fa.free ++ (clsN.map He.Fa.glo ++ lawN.map He.Fa.glo)
def tF : He.Defn := ("_law_first", none)
def tO : He.Defn := ("_law_others", none)
def tfY : List He.Defn := [tF, tO]
def clsAll (K : PySem.W.Frag) (i : Nat) : Bool := excB K (ad K i) && (match errF.getD i none with
  | some f => init1B K (ad K i) f && He.eqO (PySem.W.findIn K (.ref (ad K i)) f) (some none)
  | none => i == 0 || init0B K (ad K i))
def bareB (K : PySem.W.Frag) : Bool := PySem.W.excIn K (ad K 0) He.veBase "ValueError.__new__" && PySem.W.keepIn K (.ref (ad K 0))
def exY (K : PySem.W.Frag) : Bool := kitB K && (((List.range 24).all (clsAll K)) && (bareB K && !((He.cT K tF).2 == (He.cT K tO).2)))
structure SaysY (h : Heap) (K : PySem.W.Frag) : Prop where
  d : He.SaysD faY fnY K
  more : exY K = true
  hd : ∀ p ∈ tfY, PySem.W.codeHdIn K (He.cT K p).1 (He.cT K p).2 = true
  out : ∀ p ∈ tfY, K.lookup (He.cT K p).2 = none
  empty : ∀ p ∈ tfY, h.get? (He.cT K p).2 = some { cls := .none, data := .fields #[] }
def asY (g : Addr → Option Obj) : List Addr := cStatics :: He.asD g 4
def obsK (g : Addr → Option Obj) (K : PySem.W.Frag) : He.AlD × Bool := (He.obsD faY fnY K, exY K && He.tabsB g tfY K)
def obsY (g : Addr → Option Obj) : He.AlD × Bool := obsK g (He.frT g (asY g))
theorem saysY_of {h : Heap} (e : obsY h.get? = (He.valD fnY, true)) : SaysY h (He.frT h.get? (asY h.get?)) := by
  generalize hK : He.frT h.get? (asY h.get?) = K at *
  unfold obsY at e
  rw [hK] at e
  have e1 : He.obsD faY fnY K = He.valD fnY := congrArg (fun z : He.AlD × Bool => z.1) e
  have e2 : (exY K && He.tabsB h.get? tfY K) = true := congrArg (fun z : He.AlD × Bool => z.2) e
  obtain ⟨h1, h2⟩ := He.ba e2
  have key : ∀ p ∈ tfY, PySem.W.codeHdIn K (He.cT K p).1 (He.cT K p).2 = true ∧ ∃ o, h.get? (He.cT K p).2 = some o ∧ He.emptyTab o = true := fun p hp => by
    obtain ⟨h3, h4⟩ := He.ba (List.all_eq_true.mp h2 p hp)
    refine ⟨h3, ?_⟩
    cases q : h.get? (He.cT K p).2 with
    | none =>
      rw [q] at h4
      cases h4
    | some o =>
      rw [q] at h4
      exact ⟨o, rfl, h4⟩
  exact ⟨e1, h1, fun p hp => (key p hp).1, fun p hp => by
    obtain ⟨_, o, q, z⟩ := key p hp
    rw [← hK]
    rw [← hK] at q
    exact He.frT_none q z, fun p hp => by
    obtain ⟨_, o, q, z⟩ := key p hp
    rw [q, He.emptyTab_eq z]⟩
def hk : PySem.W.Hook where
  α := He.AlD × Bool
  obs := fun s => obsY s.heap.get?
  val := fun _ => (He.valD fnY, true)
  says := fun _ h => ∃ K : PySem.W.Frag, K.In h ∧ SaysY h K
  of := fun _ _ e => ⟨_, He.frT_in, saysY_of e⟩
  keeps := fun _ _ _ ⟨K, hK, c⟩ k => ⟨K, PySem.W.Frag.In.keeps hK k, ⟨c.d, c.more, c.hd, c.out, fun p hp => k _ _ (c.empty p hp)⟩⟩
def ob (s : PySem.W.SharedT) : He.AlD × Bool := obsY (HandSHeadRun.getT s)
theorem ob_eq (s : PySem.W.SharedT) : ob s = hk.obs s.abs := by
  have e : HandSHeadRun.getT s = s.abs.heap.get? := funext (HandSHeadRun.getT_eq s)
  show obsY (HandSHeadRun.getT s) = obsY s.abs.heap.get?
  rw [e]
/-! ### from the facts to the ground -/
theorem mem_lk {β : Type} {x : Str} {v : β} : ∀ {l : List (Str × β)}, l.lookup x = some v → (x, v) ∈ l
  | (k, u) :: r, h => by
    cases e : (x == k) with
    | true =>
      simp only [List.lookup, e] at h
      rw [eq_of_beq e, ← Option.some.inj h]
      exact List.mem_cons_self ..
    | false =>
      simp only [List.lookup, e] at h
      exact List.mem_cons_of_mem _ (mem_lk h)
def fnTab : List (Str × Nat × Nat) := [("_law_one", 0, 2), ("_law_same", 1, 2), ("_law_take", 2, 2), ("_law_first", 3, 1), ("_law_others", 4, 1), ("_law_classes", 5, 1)]
def glB : Str × GV → Bool
  | (x, .err C f) => Nat.blt C 24 && (decide (clsN.getD C "" = x) && decide (errF.getD C none = some f))
  | (x, .err0 C) => Nat.blt C 24 && (decide (clsN.getD C "" = x) && (decide (errF.getD C none = none) && !(C == 0)))
  | (x, .bare C) => (C == 0) && decide (clsN.getD C "" = x)
  | (x, .fn f n) => fnTab.contains (x, f, n)
  | _ => false
theorem glB_all : gl.all glB = true := by decide +kernel
theorem glB_of {x : Str} {g : GV} (h : gl.lookup x = some g) : glB (x, g) = true := List.all_eq_true.mp glB_all _ (mem_lk h)
section
variable {K : PySem.W.Frag} {h : Heap} {mg : Str → Option Value} {w : World} {base : Heap} {tabs : List (Addr × Str)}
theorem Gt_lt {C : Nat} (hc : C < 24) : Gt K C = some (ad K C) := if_pos hc
theorem B_G {x : Ix} {C : Nat} (hc : C < 24) : (Bx K (Gt K) tabs w mg base x).S.G C = some (ad K C) := by
  show (if C = 99 then some x.a else Gt K C) = _
  rw [if_neg (by omega), Gt_lt hc]
theorem anc_lt {C : Nat} {p : List Nat × List Nat} (e : kit.anc[C]? = some p) : C < 24 := (List.getElem?_eq_some_iff.mp e).1
theorem val_lt {g : GV} {a : EV.A} {x : Str} (b : glB (x, g) = true) (e : g.val = some a) : ∃ C, a = .glo C ∧ C < 24 ∧ clsN.getD C "" = x := by
  cases g with
  | fn f n => cases e
  | err C f =>
    cases e
    obtain ⟨b1, b⟩ := He.ba b
    obtain ⟨b2, b3⟩ := He.ba b
    exact ⟨C, rfl, Nat.le_of_ble_eq_true b1, of_decide_eq_true b2⟩
  | err0 C =>
    cases e
    obtain ⟨b1, b⟩ := He.ba b
    obtain ⟨b2, b3⟩ := He.ba b
    exact ⟨C, rfl, Nat.le_of_ble_eq_true b1, of_decide_eq_true b2⟩
  | bare C =>
    cases e
    obtain ⟨b1, b2⟩ := He.ba b
    have z : C = 0 := eq_of_beq b1
    exact ⟨C, rfl, by omega, of_decide_eq_true b2⟩
  | cls C => cases b
theorem cls_mem {C : Nat} (hc : C < 24) : clsN.getD C "" ∈ clsN := by
  rw [List.getD_eq_getElem?_getD, List.getElem?_eq_getElem (show C < clsN.length from hc)]
  exact List.getElem_mem _
theorem mg_cls (X : K.In h) (G : h.Ns mainGlobals mg) (c : SaysY h K) {C : Nat} (hc : C < 24) : mg (clsN.getD C "") = some (.ref (ad K C)) :=
  He.glo_ok X G (c.d.facts (f := .glo (clsN.getD C "")) (List.mem_append_right _ (List.mem_append_left _ (List.mem_map.mpr ⟨_, cls_mem hc, rfl⟩))))
theorem mg_law (X : K.In h) (G : h.Ns mainGlobals mg) (c : SaysY h K) {x : Str} (hx : x ∈ lawN) : mg x = some (.ref (He.ga K x)) :=
  He.glo_ok X G (c.d.facts (f := .glo x) (List.mem_append_right _ (List.mem_append_right _ (List.mem_map.mpr ⟨_, hx, rfl⟩))))
theorem mg_free (X : K.In h) (G : h.Ns mainGlobals mg) (c : SaysY h K) {x : Str} (hx : x ∈ free) : mg x = none :=
  He.free_ok X G (c.d.facts (f := .free x) (List.mem_append_left _ (List.mem_map.mpr ⟨_, hx, rfl⟩)))
theorem all_cls (c : SaysY h K) {C : Nat} (hc : C < 24) : clsAll K C = true := List.all_eq_true.mp (He.ba (He.ba c.more).2).1 C (List.mem_range.mpr hc)
theorem kit_of (c : SaysY h K) {x : Ix} {t cl : EV.A} {b : Bool} {tv cv : Value} (e : isi1 kit t cl = some b) (ht : TyVal (Bx K (Gt K) tabs w mg base x).S t tv) (hc : TyVal (Bx K (Gt K) tabs w mg base x).S cl cv) : PySem.W.kitOne K tv cv = some b := by
  obtain ⟨k1, k2⟩ := He.ba (He.ba c.more).1
  cases t with
  | ty a =>
    have etv : tv = .type (tyN a) := ht
    subst etv
    cases cl with
    | ty b' =>
      have ecv : cv = .type (tyN b') := hc
      subst ecv
      have e' := e
      unfold isi1 at e'
      dsimp only at e'
      split at e'
      · rename_i hab
        have z := List.all_eq_true.mp (He.ba (List.all_eq_true.mp k1 a (List.mem_range.mpr (by omega)))).1 b' (List.mem_range.mpr (by omega))
        rw [of_decide_eq_true z, e]
      · cases e'
    | glo g =>
      obtain ⟨ga, g1, g2⟩ := hc
      have e' := e
      unfold isi1 at e'
      dsimp only at e'
      split at e'
      · rename_i ha
        obtain ⟨p, hp, _⟩ := Option.map_eq_some_iff.mp e'
        have hg := anc_lt hp
        rw [B_G hg] at g1
        cases g1
        rw [g2]
        have z := List.all_eq_true.mp (He.ba (List.all_eq_true.mp k1 a (List.mem_range.mpr (by omega)))).2 g (List.mem_range.mpr hg)
        rw [of_decide_eq_true z, e]
      · cases e'
    | _ => cases e
  | glo g =>
    obtain ⟨ga, g1, g2⟩ := ht
    cases cl with
    | ty b' =>
      have ecv : cv = .type (tyN b') := hc
      subst ecv
      have e' := e
      unfold isi1 at e'
      dsimp only at e'
      split at e'
      · rename_i hb
        obtain ⟨p, hp, _⟩ := Option.map_eq_some_iff.mp e'
        have hg := anc_lt hp
        rw [B_G hg] at g1
        cases g1
        rw [g2]
        have z := List.all_eq_true.mp (He.ba (List.all_eq_true.mp k2 g (List.mem_range.mpr hg))).1 b' (List.mem_range.mpr (by omega))
        rw [of_decide_eq_true z, e]
      · cases e'
    | glo g' =>
      obtain ⟨ga', g3, g4⟩ := hc
      have e' := e
      unfold isi1 at e'
      dsimp only at e'
      obtain ⟨p, hp, e'⟩ := Option.bind_eq_some_iff.mp e'
      obtain ⟨p', hp', _⟩ := Option.map_eq_some_iff.mp e'
      have hg := anc_lt hp
      have hg' := anc_lt hp'
      rw [B_G hg] at g1
      rw [B_G hg'] at g3
      cases g1
      cases g3
      rw [g2, g4]
      have z := List.all_eq_true.mp (He.ba (List.all_eq_true.mp k2 g (List.mem_range.mpr hg))).2 g' (List.mem_range.mpr hg')
      rw [of_decide_eq_true z, e]
    | _ => cases e
  | _ => cases e
theorem clsAll_exc (c : SaysY h K) {C : Nat} (hc : C < 24) : ExcC K (ad K C) := excB_ok (He.ba (all_cls c hc)).1
theorem clsAll_f (c : SaysY h K) {C : Nat} (hc : C < 24) {f : Str} (e : errF.getD C none = some f) : init1B K (ad K C) f = true ∧ PySem.W.findIn K (.ref (ad K C)) f = some none := by
  have z := (He.ba (all_cls c hc)).2
  rw [e] at z
  obtain ⟨z1, z2⟩ := He.ba z
  exact ⟨z1, He.eqO_ok z2⟩
theorem clsAll_0 (c : SaysY h K) {C : Nat} (hc : C < 24) (e : errF.getD C none = none) (ne : (C == 0) = false) : init0B K (ad K C) = true := by
  have z := (He.ba (all_cls c hc)).2
  rw [e] at z
  have z' : (C == 0 || init0B K (ad K C)) = true := z
  rw [ne] at z'
  exact z'
theorem bok (X : K.In h) (G : h.Ns mainGlobals mg) (c : SaysY h K) (x : Ix) : BOk (Bx K (Gt K) tabs w mg base x) where
  free := fun y hy => mg_free X G c (List.contains_iff_mem.mp hy)
  glv := fun y g a h1 h2 => by
    obtain ⟨C, e1, e2, e3⟩ := val_lt (glB_of h1) h2
    refine ⟨C, ad K C, e1, B_G e2, ?_⟩
    rw [← e3]
    exact mg_cls X G c e2
  err := fun y C f h1 => by
    have b := glB_of h1
    obtain ⟨b1, b⟩ := He.ba b
    obtain ⟨b2, b3⟩ := He.ba b
    have hc : C < 24 := Nat.le_of_ble_eq_true b1
    obtain ⟨fI, fd', T'⟩ := init1B_ok (w := w) (base := base) (mg_free X G c (x := "super") (by decide +kernel)) (clsAll_f c hc (of_decide_eq_true b3)).1
    refine ⟨ad K C, fI, fd', B_G hc, ?_, T'⟩
    rw [← of_decide_eq_true b2]
    exact mg_cls X G c hc
  err0 := fun y C h1 => by
    have b := glB_of h1
    obtain ⟨b1, b⟩ := He.ba b
    obtain ⟨b2, b⟩ := He.ba b
    obtain ⟨b3, b4⟩ := He.ba b
    have hc : C < 24 := Nat.le_of_ble_eq_true b1
    obtain ⟨fI, fd', T'⟩ := init0B_ok (w := w) (base := base) (mg_free X G c (x := "super") (by decide +kernel)) (clsAll_0 c hc (of_decide_eq_true b3) (by simpa using b4))
    refine ⟨ad K C, fI, fd', B_G hc, ?_, T'⟩
    rw [← of_decide_eq_true b2]
    exact mg_cls X G c hc
  bare := fun y C h1 => by
    have b := glB_of h1
    obtain ⟨b1, b2⟩ := He.ba b
    have z : C = 0 := eq_of_beq b1
    subst z
    obtain ⟨z1, z2⟩ := He.ba (He.ba (He.ba (He.ba c.more).2).2).1
    refine ⟨ad K 0, _, _, _, _, B_G (by omega), ?_, PySem.F.excBase_ValueError, z1, z2⟩
    rw [← of_decide_eq_true b2]
    exact mg_cls X G c (by omega)
  lamT := fun n t e => e
  lamS := fun n t e => e
  tabs := fun m H e => e.2
  lamF := fun m H H' e1 e2 e3 => scene_lamF e1 e2 e3
  kit := fun t cl b tv cv e1 e2 e3 => kit_of c e1 e2 e3
  exc := fun C Ca e1 e2 => by
    obtain ⟨p, hp⟩ := e2
    have hc := anc_lt hp
    rw [B_G hc] at e1
    cases e1
    exact clsAll_exc c hc
  xno := fun C f Ca e1 e2 => by
    have hc : C < 24 := (List.getElem?_eq_some_iff.mp e1).1
    rw [B_G hc] at e2
    cases e2
    have ef : errF.getD C none = some f := by
      rw [List.getD_eq_getElem?_getD, show errF[C]? = some (some f) from e1]
      rfl
    have x := clsAll_exc c hc
    exact ⟨(clsAll_f c hc ef).2, ⟨x.hg, x.hk, x.hs, x.hd⟩⟩
end
end K01
set_option Elab.async false
set_option linter.all false
set_option maxRecDepth 100000
set_option maxHeartbeats 4000000
namespace K01
open PySem PySem.Spec PyProof.Rows L2 ER EV
section
variable {K : PySem.W.Frag} {h : Heap} {mg : Str → Option Value} {w : World} {base : Heap}
/-- the tables of the code objects that make lambdas -/
def tabsK (K : PySem.W.Frag) : List (Addr × Str) := [((He.cT K tF).2, "_law_first.<locals>.<lambda>"), ((He.cT K tO).2, "_law_others.<locals>.<lambda>")]
def csK (K : PySem.W.Frag) : List (Addr × Addr) := [He.cT K tF, He.cT K tO]
theorem fun_of (c : SaysY h K) {x : Str} (hx : dOf x ∈ fnY) : ∃ fd', FunD K x x (fd x).1 (fd x).2.1 (fd x).2.2 [] [] (He.fAd K (x, none)) fd' := c.d.defs (d := dOf x) hx
/-- a def of the text, from its function object -/
theorem def_of {x : Str} {f n : Nat} {N ps : List Str} {fn : Fn} {qo : Option Str} {B : Bs} (F : ∃ fd', FunD K x x (fd x).1 (fd x).2.1 (fd x).2.2 [] [] (He.fAd K (x, none)) fd') (hK : B.S.K = K) (hm : B.mg x = some (.ref (He.ga K x))) (e1 : fns[f]? = some fn) (e2 : fn.lam = none) (e3 : fn.names = N.length) (e4 : ps.length = n) (S : FnScope N ps (fd x).2.2)
    (hb : ∀ (kV doc pm : Value) (an : Option Addr) (cdv ct : Value) (us : List Value), us.length = ps.length → bindArgs (PySem.W.fnOf x x (fd x).1 (fd x).2.1 (fd x).2.2 .none kV doc pm an cdv ct) ⟨us, []⟩ = pure (ps.zip us)) (hc : Css B.T ⟨N, (fd x).2.2, qo⟩ (fd x).2.1 fn.body)
    (hq : ∀ cdv, (∃ oc od fd' osl, K.lookup (He.fAd K (x, none)) = some ⟨oc, od, .func fd', osl⟩ ∧ fd'.code = cdv) → PySem.W.codeIn K cdv x = true → QOk B x cdv qo) : DefD B fns x f n := by
  obtain ⟨fd', F⟩ := F
  have b := FunD.bindsN (ps := ps) F hb
  obtain ⟨oc, od, dV, kV, doc, pm, an, cdv, ct, osl, rfl, lk, hcd, hD, hk'⟩ := F.ex
  refine ⟨He.ga K x, x, x, (fd x).1, (fd x).2.1, (fd x).2.2, dV, kV, doc, pm, cdv, ct, oc, an, od, osl, N, ps, fn, qo, e1, e2, e3, e4, hm, ?_, ?_, ?_, S, ?_, hc, hq cdv ⟨oc, od, _, osl, lk, rfl⟩ hcd⟩
  · rw [hK]; exact F.kp
  · rw [hK]; exact lk
  · rw [hK]; exact hcd
  · rw [hK]; exact b
theorem q_of {B : Bs} {x : Str} {t q : Str} (X : K.In base) (TB : LamX.TabB B.base B.mg (He.cT K (x, none)).1 (He.cT K (x, none)).2) (h1 : x ++ ".<locals>." = q) (h2 : q ++ "<lambda>" = t) (hm : ((He.cT K (x, none)).2, t) ∈ B.tabs) (hu : ∀ p ∈ B.tabs, p.1 = (He.cT K (x, none)).2 → p.2 = t) :
    ∀ cdv, (∃ oc od fd' osl, K.lookup (He.fAd K (x, none)) = some ⟨oc, od, .func fd', osl⟩ ∧ fd'.code = cdv) → PySem.W.codeIn K cdv x = true → QOk B x cdv (some q) := by
  intro cdv hl hc q' e
  cases e
  obtain ⟨oc, od, fd', osl, lk, ec⟩ := hl
  obtain ⟨ca, e2⟩ := He.codeIn_ref hc
  have e3 := He.codeOf_eq (p := (x, none)) lk (ec.trans e2)
  have e4 : (He.cT K (x, none)).1 = ca := e3
  refine ⟨h1, ca, (He.cT K (x, none)).2, e2, ?_, ?_, ?_⟩
  · rw [← e4]; exact TB
  · rw [h2]; exact hm
  · rw [h2]; exact hu
theorem scOne : FnScope cOne.N ["_law_spring_here", "_law_things"] cOne.sc := ⟨rfl, rfl, rfl, by decide +kernel, rfl, by decide +kernel, by decide +kernel⟩
theorem scSame : FnScope cSame.N ["_law_found", "_law_due"] cSame.sc := ⟨rfl, rfl, rfl, by decide +kernel, rfl, by decide +kernel, by decide +kernel⟩
theorem scFirst : FnScope cFirst.N ["_law_one_here"] cFirst.sc := ⟨rfl, rfl, rfl, by decide +kernel, rfl, by decide +kernel, by decide +kernel⟩
theorem scOthers : FnScope cOthers.N ["_law_one_here"] cOthers.sc := ⟨rfl, rfl, rfl, by decide +kernel, rfl, by decide +kernel, by decide +kernel⟩
theorem scClasses : FnScope cClasses.N ["_law_e"] cClasses.sc := ⟨rfl, rfl, rfl, by decide +kernel, rfl, by decide +kernel, by decide +kernel⟩
def b2 (x a b : Str) : Prop := ∀ (kV doc pm : Value) (an : Option Addr) (cdv ct : Value) (us : List Value), us.length = 2 → bindArgs (PySem.W.fnOf x x (fd x).1 (fd x).2.1 (fd x).2.2 .none kV doc pm an cdv ct) ⟨us, []⟩ = pure ([a, b].zip us)
def b1 (x a : Str) : Prop := ∀ (kV doc pm : Value) (an : Option Addr) (cdv ct : Value) (us : List Value), us.length = 1 → bindArgs (PySem.W.fnOf x x (fd x).1 (fd x).2.1 (fd x).2.2 .none kV doc pm an cdv ct) ⟨us, []⟩ = pure ([a].zip us)
theorem bOne' (kV doc pm : Value) (an : Option Addr) (cdv ct u v : Value) : bindArgs (PySem.W.fnOf "_law_one" "_law_one" (fd "_law_one").1 (fd "_law_one").2.1 (fd "_law_one").2.2 .none kV doc pm an cdv ct) ⟨[u, v], []⟩ = pure [(("_law_spring_here" : Str), u), ("_law_things", v)] := by kernel_rfl
theorem bSame' (kV doc pm : Value) (an : Option Addr) (cdv ct u v : Value) : bindArgs (PySem.W.fnOf "_law_same" "_law_same" (fd "_law_same").1 (fd "_law_same").2.1 (fd "_law_same").2.2 .none kV doc pm an cdv ct) ⟨[u, v], []⟩ = pure [(("_law_found" : Str), u), ("_law_due", v)] := by kernel_rfl
theorem bFirst' (kV doc pm : Value) (an : Option Addr) (cdv ct u : Value) : bindArgs (PySem.W.fnOf "_law_first" "_law_first" (fd "_law_first").1 (fd "_law_first").2.1 (fd "_law_first").2.2 .none kV doc pm an cdv ct) ⟨[u], []⟩ = pure [(("_law_one_here" : Str), u)] := by kernel_rfl
theorem bOthers' (kV doc pm : Value) (an : Option Addr) (cdv ct u : Value) : bindArgs (PySem.W.fnOf "_law_others" "_law_others" (fd "_law_others").1 (fd "_law_others").2.1 (fd "_law_others").2.2 .none kV doc pm an cdv ct) ⟨[u], []⟩ = pure [(("_law_one_here" : Str), u)] := by kernel_rfl
theorem bClasses' (kV doc pm : Value) (an : Option Addr) (cdv ct u : Value) : bindArgs (PySem.W.fnOf "_law_classes" "_law_classes" (fd "_law_classes").1 (fd "_law_classes").2.1 (fd "_law_classes").2.2 .none kV doc pm an cdv ct) ⟨[u], []⟩ = pure [(("_law_e" : Str), u)] := by kernel_rfl
theorem bLaw' (kV doc pm : Value) (an : Option Addr) (cdv ct u : Value) : bindArgs (PySem.W.fnOf "law" "law" (fd "law").1 (fd "law").2.1 (fd "law").2.2 .none kV doc pm an cdv ct) ⟨[u], []⟩ = pure [(("_law_script" : Str), u)] := by kernel_rfl
theorem bTake' (kV doc pm : Value) (an : Option Addr) (cdv ct u v : Value) : bindArgs (PySem.W.fnOf "_law_take" "_law_take" (defArgs sTake) (defBody sTake) (defScope sTake) .none kV doc pm an cdv ct) ⟨[u, v], []⟩ = pure [(("_law_spring_here" : Str), u), ("_law_most", v)] := by kernel_rfl
theorem bSpring' (kV doc pm : Value) (an : Option Addr) (cdv ct u : Value) : bindArgs (PySem.W.fnOf "_law_spring" "_law_spring" (defArgs sSpring) (defBody sSpring) (defScope sSpring) .none kV doc pm an cdv ct) ⟨[u], []⟩ = pure [(("_law_script" : Str), u)] := by kernel_rfl
theorem bOne : b2 "_law_one" "_law_spring_here" "_law_things" := fun kV doc pm an cdv ct us hl => match us, hl with | [u, v], _ => bOne' kV doc pm an cdv ct u v
theorem bSame : b2 "_law_same" "_law_found" "_law_due" := fun kV doc pm an cdv ct us hl => match us, hl with | [u, v], _ => bSame' kV doc pm an cdv ct u v
theorem bFirst : b1 "_law_first" "_law_one_here" := fun kV doc pm an cdv ct us hl => match us, hl with | [u], _ => bFirst' kV doc pm an cdv ct u
theorem bOthers : b1 "_law_others" "_law_one_here" := fun kV doc pm an cdv ct us hl => match us, hl with | [u], _ => bOthers' kV doc pm an cdv ct u
theorem bClasses : b1 "_law_classes" "_law_e" := fun kV doc pm an cdv ct us hl => match us, hl with | [u], _ => bClasses' kV doc pm an cdv ct u
theorem bLaw : b1 "law" "_law_script" := fun kV doc pm an cdv ct us hl => match us, hl with | [u], _ => bLaw' kV doc pm an cdv ct u
theorem oF : OO T obsF := fun p hp => oo p (List.mem_append_left _ hp)
theorem oO : OO T obsO := fun p hp => oo p (List.mem_append_right _ hp)
theorem o0 : OO T [] := fun p hp => nomatch hp
theorem tab_ne (c : SaysY h K) : (He.cT K tF).2 ≠ (He.cT K tO).2 := by
  have z := (He.ba (He.ba (He.ba c.more).2).2).2
  intro e
  rw [e] at z
  simp at z
theorem defs_of (XB : K.In base) (X : K.In h) (G : h.Ns mainGlobals mg) (c : SaysY h K) (TB : ∀ p ∈ csK K, LamX.TabB base mg p.1 p.2) (x : Ix) (y : Str) (f n : Nat) (e : T.gl.lookup y = some (.fn f n)) :
    (∃ g, pick f = some g ∧ PickD (Bx K (Gt K) (tabsK K) w mg base x) 2 g y f n) ∨ (pick f = none ∧ DefD (Bx K (Gt K) (tabsK K) w mg base x) fns y f n) := by
  have z : (y, f, n) ∈ fnTab := List.contains_iff_mem.mp (glB_of e)
  have hm : ∀ {z : Str}, z ∈ lawN → (Bx K (Gt K) (tabsK K) w mg base x).mg z = some (.ref (He.ga K z)) := fun hz => mg_law X G c hz
  simp only [fnTab, List.mem_cons, List.not_mem_nil, or_false, Prod.mk.injEq] at z
  rcases z with ⟨rfl, rfl, rfl⟩ | ⟨rfl, rfl, rfl⟩ | ⟨rfl, rfl, rfl⟩ | ⟨rfl, rfl, rfl⟩ | ⟨rfl, rfl, rfl⟩ | ⟨rfl, rfl, rfl⟩
  · exact .inr ⟨rfl, def_of (N := cOne.N) (ps := ["_law_spring_here", "_law_things"]) (fn := ⟨2, irOne, none⟩) (qo := none) (fun_of c (by simp [fnY])) rfl (hm (by simp [lawN])) rfl rfl rfl rfl scOne bOne (css_by rOne o0) fun _ _ _ _ z => nomatch z⟩
  · exact .inr ⟨rfl, def_of (N := cSame.N) (ps := ["_law_found", "_law_due"]) (fn := ⟨5, irSame, none⟩) (qo := none) (fun_of c (by simp [fnY])) rfl (hm (by simp [lawN])) rfl rfl rfl rfl scSame bSame (css_by rSame o0) fun _ _ _ _ z => nomatch z⟩
  · refine .inl ⟨take, rfl, ?_⟩
    obtain ⟨fd', F⟩ := c.d.defs (d := dTake) (by simp [fnY])
    have F' : FunD K "_law_take" "_law_take" (defArgs sTake) (defBody sTake) (defScope sTake) [] [] (He.fAd K ("_law_take", none)) fd' := F
    exact ⟨He.ga K "_law_take", fd', ["_law_spring_here", "_law_most"], rfl, hm (by simp [lawN]), F'.kp, (ok_take F' (mg_free X G c (by decide +kernel)) (mg_free X G c (by decide +kernel))).imp fun vs H Q E q => take_sp x.ho rfl q, FunD.bindsN F' fun kV doc pm an cdv ct us hl => match us, hl with | [u, v], _ => bTake' kV doc pm an cdv ct u v⟩
  · refine .inr ⟨rfl, def_of (N := cFirst.N) (ps := ["_law_one_here"]) (fn := ⟨2, irFirst, none⟩) (qo := some "_law_first.<locals>.") (fun_of c (by simp [fnY])) rfl (hm (by simp [lawN])) rfl rfl rfl rfl scFirst bFirst (css_by rFirst oF) (q_of (t := "_law_first.<locals>.<lambda>") XB (TB _ (by simp [csK, tF])) (by decide +kernel) (by decide +kernel) (by simp [Bx, tabsK, tF]) fun p hp e => ?_)⟩
    have hp' : p ∈ tabsK K := hp
    simp only [tabsK, List.mem_cons, List.not_mem_nil, or_false] at hp'
    rcases hp' with rfl | rfl
    · rfl
    · exact absurd e.symm (tab_ne c)
  · refine .inr ⟨rfl, def_of (N := cOthers.N) (ps := ["_law_one_here"]) (fn := ⟨2, irOthers, none⟩) (qo := some "_law_others.<locals>.") (fun_of c (by simp [fnY])) rfl (hm (by simp [lawN])) rfl rfl rfl rfl scOthers bOthers (css_by rOthers oO) (q_of (t := "_law_others.<locals>.<lambda>") XB (TB _ (by simp [csK, tO])) (by decide +kernel) (by decide +kernel) (by simp [Bx, tabsK, tO]) fun p hp e => ?_)⟩
    have hp' : p ∈ tabsK K := hp
    simp only [tabsK, List.mem_cons, List.not_mem_nil, or_false] at hp'
    rcases hp' with rfl | rfl
    · exact absurd e (tab_ne c)
    · rfl
  · exact .inr ⟨rfl, def_of (N := cClasses.N) (ps := ["_law_e"]) (fn := ⟨2, irClasses, none⟩) (qo := none) (fun_of c (by simp [fnY])) rfl (hm (by simp [lawN])) rfl rfl rfl rfl scClasses bClasses (css_by rClasses o0) fun _ _ _ _ z => nomatch z⟩
theorem law_at (X : K.In h) (G : h.Ns mainGlobals mg) (c : SaysY h K) {fa : Addr} (hfa : mg ("law" : Str) = some (.ref fa)) : LamX.LawAtS PySem.Challenge.rw_tallytold_k01_errors_made w K (L2.CX P w) 23 63 "_law_script" mg fa h := by
  obtain ⟨fd', F⟩ := fun_of c (x := "law") (by simp [fnY])
  have e := hfa.symm.trans (mg_law X G c (x := "law") (by simp [lawN]))
  cases e
  refine ⟨fd', csK K, spLaw K (tabsK K), fun p hp => ?_, fun p hp => ?_, fun p hp => ?_, fun s u => FunD.bindsA (ps := ["_law_script"]) F bLaw s [u] rfl, fun H a ns hl _ hT hS => ?_, fun base XB GB TB => ?_⟩
  · simp only [csK, List.mem_cons, List.not_mem_nil, or_false] at hp
    rcases hp with rfl | rfl
    · exact c.empty tF (by simp [tfY])
    · exact c.empty tO (by simp [tfY])
  · simp only [csK, List.mem_cons, List.not_mem_nil, or_false] at hp
    rcases hp with rfl | rfl
    · exact c.out tF (by simp [tfY])
    · exact c.out tO (by simp [tfY])
  · simp only [csK, List.mem_cons, List.not_mem_nil, or_false] at hp
    rcases hp with rfl | rfl
    · exact PySem.W.codeHd_of_K X (c.hd tF (by simp [tfY]))
    · exact PySem.W.codeHd_of_K X (c.hd tO (by simp [tfY]))
  · refine ⟨a, ns, rfl, hl, hS, fun p hp => ?_, fun _ => rfl⟩
    have hp' : p ∈ tabsK K := hp
    simp only [tabsK, List.mem_cons, List.not_mem_nil, or_false] at hp'
    rcases hp' with rfl | rfl
    · exact ⟨#[], hT _ (by simp [csK]), trivial, fun _ cv z => nomatch (show (none : Option Value) = some cv from z)⟩
    · exact ⟨#[], hT _ (by simp [csK]), trivial, fun _ cv z => nomatch (show (none : Option Value) = some cv from z)⟩
  · obtain ⟨fdS, FS⟩ := c.d.defs (d := dSpring) (by simp [fnY])
    have FS' : FunD K "_law_spring" "_law_spring" (defArgs sSpring) (defBody sSpring) (defScope sSpring) [] [] (He.fAd K ("_law_spring", none)) fdS := FS
    have mI : mg "int" = none := mg_free X G c (by decide +kernel)
    refine F.ok (k := 22) scLaw (fun vs H Q E hv => ?_) fun cdv A outer s H vs Q E hr hv => ?_
    · obtain ⟨a, ns, rfl, _⟩ := hv
      rfl
    · obtain ⟨t, ht, hq⟩ := walk_law (Gt := Gt K) (tabs := tabsK K) (w := w) (fS := He.ga K "_law_spring") (fdS := fdS) (outer := outer) (H := H) (E := E) (fun x => bok X G c x) (fun x y f n e => defs_of XB X G c TB x y f n e) (ok_spring FS' mI) (mg_law X G c (by simp [lawN])) FS'.kp (FunD.bindsN FS' fun kV doc pm an cdv ct us hl => match us, hl with | [u], _ => bSpring' kV doc pm an cdv ct u) (mg_free X G c (by decide +kernel)) hr
      exact ⟨t, ht, hq vs H Q E hv⟩
end
end K01
set_option Elab.async false
set_option linter.all false
set_option maxRecDepth 100000
set_option maxHeartbeats 0
namespace K01
open PySem PySem.W PySem.Calls PyProof.Rows
abbrev R : OpenRow := OpenLaw.row PySem.Challenge.rw_tallytold_k01_errors_made
abbrev qv : Program := view R.prog [33]
def names : List PySem.Str := ["TallyError", "BadAtom", "BadCount", "BadSize", "BadRow", "BadMany", "TooGreat", "BadPower", "BadTerm", "BadOperand", "BadPattern", "Unsettled", "BadCounts", "Misfit", "BadOffer", "TooFew", "BadName", "NoWatch", "NoDeed", "BadText", "BadLine", "Tangled", "BadWay", "BadPlace", "_law_spring", "_law_one", "_law_same", "_law_take", "_law_first", "_law_others", "_law_classes", "__name__"]
theorem run (w : World) : HandSHeadRun.RunEq R qv hk ob 7000 names w := by
  intro os
  kernel_rfl
end K01
set_option Elab.async false
set_option linter.all false
set_option maxRecDepth 100000
set_option maxHeartbeats 0
open PySem PySem.W PySem.Calls PyProof.Rows
theorem PySem.Challenge.cw_tallytold_k01_errors_made_holds : PySem.Challenge.rw_tallytold_k01_errors_made.Holds := by
  w_on; o_law
  refine HandSHeadRun.head_any (r := OpenLaw.row PySem.Challenge.rw_tallytold_k01_errors_made) (q := view (OpenLaw.row PySem.Challenge.rw_tallytold_k01_errors_made).prog [33]) (H := K01.hk) (ob := K01.ob) (M := 7000) (loose := K01.names) (d := HandSHeadRun.topDef (OpenLaw.row PySem.Challenge.rw_tallytold_k01_errors_made).prog 33) (kwd := []) K01.ob_eq
    (by kernel_rfl) (fun s => by kernel_rfl) K01.run (by kernel_rfl) (by kernel_rfl) (by kernel_rfl) (by rfl) (by first | assumption | decide +kernel) (by decide +kernel) ⟨rfl, rfl, rfl, rfl, rfl, by decide +kernel⟩ ?hw ?hc
  case hw => w_witness2
  case hc =>
    refine LamX.walk_ofTsE (l := PySem.Challenge.rw_tallytold_k01_errors_made) (n := 63) (k := 23) (x := "_law_script") (CX := fun w => L2.CX K01.P w) rfl (by decide) (by kernel_rfl) ⟨rfl, by decide, by decide⟩ ?F ?X
    case F =>
      intro w mg fa h Y G hmg0
      obtain ⟨K, KX, c⟩ := Y
      have hmg : mg ("law" : PySem.Str) = some (.ref fa) := by
        have e : (HandSHeadRun.topDef (OpenLaw.row PySem.Challenge.rw_tallytold_k01_errors_made).prog 33).name = ("law" : PySem.Str) := by kernel_rfl
        rw [← e]
        exact hmg0
      exact ⟨K, KX, K01.law_at KX G c hmg⟩
    case X =>
      intro w H s e s' q
      obtain ⟨_, _, _, _, _, _, _, _, _, _, _, _, z⟩ := q
      exact z
