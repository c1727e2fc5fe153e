import PyProof.Rows.All
import Wide.All
import OpenK.AllK
import Wide.FinOn
import PyProof.EqAt
import PyProof.EqKinds
import PyProof.TupleCall
import KE.KExcSuper
import KE.KExcIs
import KE.DatumOrd
import KE.RegKSuper
import KE.RegKIsAll
import KE.RegKTryMore
import PySem.Challenge.RW_eachfloweachlink_k00_rounding_keeps_ever
import HandS.ForMost
import HandS.Exc
import HandS.ExcInit
import HandS.ExcOwn
import HandS.ExcField
import HandS.TryMany
import HandS.WordsExc
import HandS.Wide
import HandS.Deep
import HandS.Conv
import HandS.IsInst
import HandS.NoneIn
import HandS.Evl
import HandS.Ends
set_option Elab.async false
set_option linter.all false
set_option maxRecDepth 100000
set_option maxHeartbeats 4000000
/-! # Own errors over ValueError whose __init__ says super().__init__(text) and then stores its arguments -/
namespace PySem
namespace XS
open PySem.W PySem.Calls PyProof.Rows PySem.HandSPX

/-- the text of such an __init__: the scope, the arguments, the first statement, a store -/
def supS (msg : Str) (p0 p1 p2 p3 p4 p5 : Pos) (j : Nat) : Stmt :=
  .Expr (.Call (.Attribute (.Call (.Name "super" p0) [] [] p1) "__init__" p2) [.Constant (.str msg) j p3] [] p4) p5
def stoS (f : Str) (a1 a2 a3 a4 : Pos) : Stmt := .Assign [.Attribute (.Name "self" a1) f a2] (.Name f a3) a4

/-- what the written part says of the class at C, its __init__ at fI -/
structure ErrTxt (prog : Program) (K : Frag) (mg : Str → Option Value) (x qual : Str) (st : Stmt) (fs : List Str) (C fI : Addr) : Prop where
  gC : mg x = some (.ref C)
  cls : ∃ nm q N bs bm sn sub ab col dd k0 k1 k2 k3 k5,
    K.lookup C = some (excClassObj nm q C N bs bm true sn sub ab col dd k0 k1 k2 k3 k5 "ValueError.__new__") ∧ refsVE bm = true
  sup : ks_superIn K C C "__init__" = some (some (.builtin "ValueError.__init__"))
  stc : nsIn K cStatics "thirdparty.any" = some none
  sa : findIn K (.ref C) "__setattr__" = some (some (.builtin "object.__setattr__"))
  xf : L2.xfB K C = true
  noF : ∀ f ∈ fs, findIn K (.ref C) f = some none
  iC : findIn K (.ref C) "__init__" = some (some (.ref fI))
  tI : typeIn K (.ref fI) = some (.type "function")
  kC : keepIn K (.ref C) = true
  mC : mroIn K C (.ref C) = some true
  vC : subIn K (.ref C) (.type "ValueError") = some true
  tC : typeIn K (.ref C) = some (.type "type")
  te : exmOne K (.ref C) (.ref C) = some true
  mgS : mg "super" = none
  fn : ∃ (oc : Value) (od : Option Addr) (kV doc pm : Value) (an : Option Addr) (ct : Value) (osl : Array (Option Value)) (cda cc : Addr),
    K.lookup fI = some ⟨oc, od, .func (ksFn "__init__" qual (L2.defArgs st) (L2.defBody st) (L2.defScope st) .none kV doc pm an (.ref cda) ct cc), osl⟩ ∧
    codeIn K (.ref cda) qual = true ∧
    (∃ cl cld csl, K.lookup cc = some ⟨cl, cld, .cell (some (.ref C)), csl⟩) ∧
    (∃ ccl cdd vs ccs file tf, K.lookup cda = some ⟨ccl, cdd, .fields vs, ccs⟩ ∧ vs[2]? = some (.str file tf) ∧ ((prog.main.file : Str) == file) = true)
  top : (prog.main.scope.names.lookup ("super" : Str)).isSome = false

section
variable {prog : Program} {w : World} {A : Around} {E : Value → Shared → Prop} {s : Shared} {K : Frag} {mg mb : Str → Option Value}
  {x qual : Str} {st : Stmt} {fs : List Str} {C fI : Addr}

theorem ErrTxt.cl (T : ErrTxt prog K mg x qual st fs C fI) : ∃ cd, clsIn K C = some cd ∧ refsVE cd.mro = true ∧ cd.hasDict = true := by
  obtain ⟨nm, q, N, bs, bm, sn, sub, ab, col, dd, k0, k1, k2, k3, k5, hC, hbm⟩ := T.cls
  refine ⟨{ name := nm, bases := bs, mro := .ref C :: bm, ns := N, qualname := q, hasDict := true, slotNames := sn, subclasses := sub, abstract := ab, collection := col, hasDel := false }, ?_, hbm, rfl⟩
  unfold clsIn
  rw [hC] <;> rfl

/-- the wrapper that super() hands out is called: the args are laid anew -/
theorem call_mw (T : ErrTxt prog K mg x qual st fs C fI) {u e t0 : Addr} {rest : List Value} {Q : Value → Shared → Prop} (X : K.In s.heap)
    (hu : s.heap.get? u = some (kxs_mw "ValueError.__init__" e)) (he : s.heap.get? e = some (excO C t0)) (hz : rest.length ≤ sizeLine)
    (hq : ∀ h' t1, (∀ b o, b ≠ e → s.heap.get? b = some o → h'.get? b = some o) → h'.get? e = some (excO C t1) → Q .none { s with heap := h' }) :
    wpAny (model prog w) A (call (.ref u) rest) Q E s := by
  obtain ⟨nm, q, N, bs, bm, sn, sub, ab, col, dd, k0, k1, k2, k3, k5, hC, hbm⟩ := T.cls
  have hC' := X _ _ hC
  obtain ⟨h, g, d, t, os⟩ := s
  refine wpAny_call (codeAny_of_tree ?_)
  show wpAny _ A.in1 (callAny (Value.ref u) ⟨rest, []⟩) _ _ ⟨h, g, d, t, os⟩
  simp only [callAny]
  refine wpAny_bind (wpAny_load (a := u) hu ?_)
  have z : (Value.type "method-wrapper" == Value.type "method" || Value.type "method-wrapper" == Value.type "builtin_function_or_method" || Value.type "method-wrapper" == Value.type "method-wrapper") = true := by decide
  simp only [kxs_mw, z, if_true]
  refine KFB.if_so (by decide) (wpAny_bind ?_)
  refine check_bound_init F.excBase_ValueError.toExcCallFacts hC' he rfl ?_
  refine wpAny_bind (wpAny_pure (wpAny_pure ⟨plainId_quiet F.excBase_ValueError.init.plain _, codeAny_builtin F.excBase_ValueError.initEntry ?_⟩))
  exact exc_init_tree (cls := .ref C) (t0 := t0) (dv := none) (c2 := .none) (c3 := .none) (b4 := .bool false) he hz fun h' k e' _ => hq h' _ k e'

/-- a method's call on one line: what it evaluates to, its places symbolic -/
theorem super_eval {p0 p1 p2 p4 : Pos} {es : List Expr} {env : Env} (hpos : (p2.endLine == p4.line) = true) (hform : methodCallForm es.length (backTo p4 (starEach es env)) [] = true) :
    eval (.Call (.Attribute (.Call (.Name "super" p0) [] [] p1) "__init__" p2) es [] p4) env = (do
      let ov ← attributeBase (.Call (.Name "super" p0) [] [] p1) "__init__" env (eval (.Call (.Name "super" p0) [] [] p1) env)
      standAt p2.atName
      let (f, first) ← holding [ov] (getMethod ov "__init__" (do return (← importBound (.Call (.Name "super" p0) [] [] p1) env).getD true))
      callWith p4 f first (backTo p4 (starEach es env)) []) := by
  have e1 : methodCallPos true (.Call (.Name "super" p0) [] [] p1) env p2 p4 = pure p4 := by
    unfold methodCallPos
    rw [if_pos (by rw [hpos]; rfl)]
  rw [arm_eval_Call]
  have e2 : ∀ ov : Value, methodCall (.Call (.Name "super" p0) [] [] p1) "__init__" p2 p4 env ov (es.length + 0) (backTo p4 (starEach es env)) [] = (do
      let (f, first) ← holding [ov] (getMethod ov "__init__" (do return (← importBound (.Call (.Name "super" p0) [] [] p1) env).getD true))
      callWith p4 f first (backTo p4 (starEach es env)) []) := fun ov => by
    unfold methodCall calleeOf
    rw [Nat.add_zero, hform, e1]
    rfl
  show (do
      let ov ← attributeBase (.Call (.Name "super" p0) [] [] p1) "__init__" env (eval (.Call (.Name "super" p0) [] [] p1) env)
      standAt p2.atName
      methodCall (.Call (.Name "super" p0) [] [] p1) "__init__" p2 p4 env ov (es.length + 0) (backTo p4 (starEach es env)) []) = _
  simp only [e2]
/-- the first statement of such an __init__ -/
theorem sup_stmt (T : ErrTxt prog K mg x qual st fs C fI) {qn : Str} {scope : Scope} {L f cda cc : Addr} {fd : FuncData} {o : Addr} {t0 : Addr} {m : Str → Option Value} {body : List Stmt} {ar : Arg}
    {msg : Str} {p0 p1 p2 p3 p4 p5 : Pos} {j : Nat} {Q : Flow → Shared → Prop} {oc : Value} {od : Option Addr} {osl : Array (Option Value)}
    (X : K.In s.heap) (hg : s.heap.Ns mainGlobals mg) (hb : s.heap.Ns builtinsNs mb) (hmb : mb "super" = some (.type "super"))
    (hm : s.heap.Ns L m) (hself : m ar.arg = some (.ref o)) (ho : s.heap.get? o = some (excO C t0)) (hoC : o ≠ C)
    (hf : K.lookup f = some ⟨oc, od, .func fd, osl⟩) (hp : (fd.params.posonlyargs ++ fd.params.args).head? = some ar)
    (hcell : ∃ cl cld csl, K.lookup cc = some ⟨cl, cld, .cell (some (.ref C)), csl⟩)
    (hcode : ∃ ccl cdd vs ccs file tf, K.lookup cda = some ⟨ccl, cdd, .fields vs, ccs⟩ ∧ vs[2]? = some (.str file tf) ∧ ((prog.main.file : Str) == file) = true)
    (hk : scope.kind = .function) (hks : scope.names.lookup ("super" : Str) = some .globalImplicit) (hkc : scope.names.lookup ("__class__" : Str) = some .free) (hka : scope.names.lookup ar.arg = some .local)
    (hq : ∀ h' tk t1, (∀ b u, b ≠ o → s.heap.get? b = some u → h'.get? b = some u) → h'.get? o = some (excO C t1) → Q .next { s with heap := h', toks := tk })
    (hpos : (p2.endLine == p4.line) = true) (hi : interactive (ksEnv qn scope L f (.ref cda) cc) = false := by rfl) :
    PySem.wpAt (model prog w) A (.func body (ksEnv qn scope L f (.ref cda) cc)) (exec (supS msg p0 p1 p2 p3 p4 p5 j) (ksEnv qn scope L f (.ref cda) cc)) Q E s := by
  obtain ⟨cl, cld, csl, hcell⟩ := hcell
  obtain ⟨ccl, cdd, vs, ccs, file, tf, hcode, hvs, hfile⟩ := hcode
  obtain ⟨nm, q, N, bs, bm, sn, sub, ab, col, dd, k0, k1, k2, k3, k5, hC, hbm⟩ := id T.cls
  have hcl : clsIn K C = some { name := nm, bases := bs, mro := .ref C :: bm, ns := N, qualname := q, hasDict := true, slotNames := sn, subclasses := sub, abstract := ab, collection := col, hasDel := false } := by
    unfold clsIn
    rw [hC] <;> rfl
  have hsup := T.sup
  unfold ks_superIn at hsup
  rw [hcl, Option.bind_some] at hsup
  obtain ⟨hh, g, d, t, os⟩ := s
  unfold supS
  refine ks_wpAt_Expr_any (ks_wpAt_MethodCall ?_ (super_eval hpos (by rfl))) hi (by rfl)
  refine ks_wpAt_super_base (env := ksEnv qn scope L f (.ref cda) cc) hks hkc (by decide) rfl (X _ _ hf) rfl hp rfl (X _ _ hcode) rfl hvs hfile T.top ?_
  refine ks_loadName_global hk hks (loadGlobal_builtin (env := ksEnv qn scope L f (.ref cda) cc) hg T.mgS hb hmb ⟨rfl, ?_⟩)
  refine wpAny_loadName_free hk hkc rfl ⟨_, X _ _ hcell, rfl⟩ ?_
  refine wpAny_loadName_local hk hka hm hself ?_
  refine ks_wpAny_isType_cls (X _ _ hC) rfl ⟨rfl, ?_⟩
  refine ks_wpAny_call_super (X _ _ hC) rfl ho rfl (fun c z => by cases z) (looks_mroIn X T.mC) fun h1 e1 kp1 => ?_
  have X1 : K.In h1 := X.keeps kp1
  have ho1 := kp1 _ _ ho
  have I1 : InstAt h1 o (excO C t0) C none := ⟨ho1, rfl, rfl, trivial⟩
  refine kxs_getMethod kxs_ValueError e1 (looks_opaque X1 T.stc) (l₀ := .ref C :: bm) ?_ rfl X1 hsup (I1.type.andThen (looks_subIn X1 T.vC)) hoC (by decide) ?_
  · exact (looks_clsIn X1 hcl).andThen .now
  have kp2 : ∀ b u, h1.get? b = some u → (h1.push (kxs_mw "ValueError.__init__" o)).get? b = some u := fun b u e => Heap.get?_push_of_some _ e
  show wpAny _ _ (callWith p4 (Value.ref h1.objs.size) [] ((false, eval (.Constant (.str msg) j p3) (ksEnv qn scope L f (.ref cda) cc)) :: []) []) _ _ _
  refine kxs_callWith (i := "ValueError.__init__") (x := o) (u := h1.objs.size) rfl (evalArgs_plain (Calls.spliced_cons (wpAny_Constant_str (Calls.spliced_nil ⟨?_, ?_⟩))))
  · show KxsAt _ _ _ (h1.push (kxs_mw "ValueError.__init__" o))
    exact Heap.get?_push_at rfl rfl
  · refine call_mw T (X1.keeps kp2) (e := o) (t0 := t0) (Heap.get?_push_at rfl rfl) (kp2 _ _ ho1) (by show 1 ≤ sizeLine; decide) fun h3 t1 k3 e3 => ?_
    exact hq h3 _ t1 (fun b u hb z => k3 b u hb (kp2 b u (kp1 b u z))) e3

/-- the stores that follow -/
inductive Stos : List Stmt → List Str → Prop
  | nil : Stos [] []
  | cons {f : Str} {a1 a2 a3 a4 : Pos} {r : List Stmt} {gs : List Str} (h : Stos r gs) : Stos (stoS f a1 a2 a3 a4 :: r) (f :: gs)
def mpOf : List (Str × Value) → Str → Option Value
  | [], _ => none
  | (f, v) :: r, y => if y = f then some v else mpOf r y
theorem mpOf_cons (f : Str) (v : Value) (r : List (Str × Value)) : mpOf ((f, v) :: r) = fun y => if y = f then some v else mpOf r y := rfl
theorem mpOf_within : ∀ l : List (Str × Value), Within (mpOf l) (l.map (·.1))
  | [] => Within.nil
  | (f, v) :: r => Within.cons f v (mpOf_within r)
/-- at o: an exception of the class at C whose own dict at dx holds l -/
structure ErrAt (h : Heap) (o C dx : Addr) (l : List (Str × Value)) : Prop where
  obj : ∃ t1 : Addr, h.get? o = some { cls := .ref C, dict := some dx, data := .fields #[.ref t1, .none, .none, .none, .bool false, .none] }
  ns : h.Ns1 dx (mpOf l)

theorem lkL {M : Model} {env : Env} {m : Str → Option Value} {y : Str} {pos : Pos} {v : Value} {Q : Value → Shared → Prop} (hn : s.heap.Ns env.locals m) (hv : m y = some v) (h : Q v s)
    (hk : env.scope.kind = .function) (hl : env.kindOf y = some .local) (hd : (y == ("__debug__" : Str)) = false) :
    wpAny M A (eval (.Name y pos) env) Q E s :=
  wpAny_Name (wpAny_loadName_local hk hl hn hv h) hd

/-- a further store -/
theorem sto_old (T : ErrTxt prog K mg x qual st fs C fI) {env : Env} {o dx : Addr} {f : Str} {a1 a2 a3 a4 : Pos} {v : Value} {m : Str → Option Value} {l : List (Str × Value)} {Q : Flow → Shared → Prop}
    (X : K.In s.heap) (hm : s.heap.Ns env.locals m) (hself : m "self" = some (.ref o)) (hv : m f = some v) (hE : ErrAt s.heap o C dx l) (hl : l.length ≤ 900) (hfs : f ∈ fs)
    (hk : env.scope.kind = .function) (h1 : env.kindOf "self" = some .local) (h2 : env.kindOf f = some .local) (hd : (f == ("__debug__" : Str)) = false)
    (hq : ∀ h' tk, (∀ b u, b ≠ dx → s.heap.get? b = some u → h'.get? b = some u) → h'.Ns1 dx (mpOf ((f, v) :: l)) → Q .next { s with heap := h', toks := tk }) :
    wpAny (model prog w) A (exec (stoS f a1 a2 a3 a4) env) Q E s := by
  obtain ⟨cd, hcd, hmro, hdict⟩ := T.cl
  obtain ⟨⟨t1, hobj⟩, hns⟩ := hE
  obtain ⟨oD, _, _, hoD, _, _⟩ := hns.count (mpOf_within l)
  obtain ⟨hh, g, d, t, os⟩ := s
  unfold stoS
  refine plainObj_wpAny_Assign_Attribute (lkL (v := v) hm hv (lkL (v := .ref o) hm hself ?_ hk h1 (by decide)) hk h2 hd)
  refine set_plain X (ox := { cls := .ref C, dict := some dx, data := .fields #[.ref t1, .none, .none, .none, .bool false, .none] }) (od := some oD) ⟨hobj, rfl, rfl, hoD⟩ T.sa ?_
  exact PySem.OEX.osa_old X hobj hns (mpOf_within l) (by rw [List.length_map]; omega) hcd hmro hdict (T.noF f hfs) fun h' tk' k hn => hq h' tk' k hn
/-- the first store: the own dict is laid -/
theorem sto_new (T : ErrTxt prog K mg x qual st fs C fI) {env : Env} {o t1 : Addr} {f : Str} {a1 a2 a3 a4 : Pos} {v : Value} {m : Str → Option Value} {Q : Flow → Shared → Prop}
    (X : K.In s.heap) (hm : s.heap.Ns env.locals m) (hself : m "self" = some (.ref o)) (hv : m f = some v) (hobj : s.heap.get? o = some (excO C t1)) (hfs : f ∈ fs)
    (hk : env.scope.kind = .function) (h1 : env.kindOf "self" = some .local) (h2 : env.kindOf f = some .local) (hd : (f == ("__debug__" : Str)) = false)
    (hq : ∀ h' tk dx, (∀ b u, b ≠ o → s.heap.get? b = some u → h'.get? b = some u) → s.heap.objs.size ≤ dx → dx ≠ o → ErrAt h' o C dx [(f, v)] → Q .next { s with heap := h', toks := tk }) :
    wpAny (model prog w) A (exec (stoS f a1 a2 a3 a4) env) Q E s := by
  obtain ⟨cd, hcd, hmro, hdict⟩ := T.cl
  obtain ⟨hh, g, d, t, os⟩ := s
  unfold stoS
  refine plainObj_wpAny_Assign_Attribute (lkL (v := v) hm hv (lkL (v := .ref o) hm hself ?_ hk h1 (by decide)) hk h2 hd)
  refine set_plain X (ox := excO C t1) (od := none) ⟨hobj, rfl, rfl, trivial⟩ T.sa ?_
  exact exc_osa X hobj hcd hmro hdict (T.noF f hfs) fun h' tk' dx k dn dne hx hn => hq h' tk' dx k dn dne ⟨⟨t1, hx⟩, hn⟩

theorem sto_run (T : ErrTxt prog K mg x qual st fs C fI) {env : Env} {o dx : Addr} {m : Str → Option Value} {Q : Flow → Shared → Prop}
    (hk : env.scope.kind = .function) (h1 : env.kindOf "self" = some .local) (hself : m "self" = some (.ref o)) (hLo : env.locals ≠ dx) (hodx : dx ≠ o) :
    ∀ {body : List Stmt} {gs : List Str}, Stos body gs → ∀ (ps : List (Str × Value)) (l : List (Str × Value)) (s : Shared), ps.map (·.1) = gs → (∀ p ∈ ps, m p.1 = some p.2 ∧ p.1 ∈ fs ∧ env.kindOf p.1 = some .local ∧ (p.1 == ("__debug__" : Str)) = false) →
      l.length + ps.length ≤ 900 → K.In s.heap → K.lookup dx = none → s.heap.Ns env.locals m → ErrAt s.heap o C dx l →
      (∀ h' tk, (∀ b u, b ≠ dx → s.heap.get? b = some u → h'.get? b = some u) → h'.Ns1 dx (mpOf (ps.reverse ++ l)) → Q .next { s with heap := h', toks := tk }) →
      wpAny (model prog w) A (execs body env) Q E s := by
  intro body gs hst
  induction hst with
  | nil =>
    intro ps l s e hp hl X hdx hm hE hq
    cases ps with
    | cons _ _ => cases e
    | nil =>
      refine wpAny_execs_nil ?_
      exact hq s.heap s.toks (fun _ _ _ z => z) hE.ns
  | @cons f a1 a2 a3 a4 r gs hst ih =>
    intro ps l s e hp hl X hdx hm hE hq
    cases ps with
    | nil => cases e
    | cons p ps =>
      obtain ⟨pf, v⟩ := p
      have e1 : pf = f := (List.cons.inj e).1
      subst e1
      obtain ⟨hv, hfs, hkf, hdf⟩ := hp (pf, v) List.mem_cons_self
      refine wpAny_execs_cons (sto_old T X hm hself hv hE (by simp only [List.length_cons] at hl; omega) hfs hk h1 hkf hdf fun h' tk k hn => ?_)
      obtain ⟨oL, es, ep, hL, hr⟩ := hm
      have kK : K.In h' := fun a u z => k a u (fun y => by rw [y, hdx] at z; cases z) (X a u z)
      refine ih ps ((pf, v) :: l) { s with heap := h', toks := tk } (List.cons.inj e).2 (fun q hq => hp q (List.mem_cons_of_mem _ hq)) (by simp only [List.length_cons] at hl ⊢; omega) kK hdx ⟨oL, es, ep, k _ _ hLo hL, hr⟩ ⟨?_, hn⟩ fun h2 tk2 k2 hn2 => ?_
      · obtain ⟨t1, z⟩ := hE.obj
        exact ⟨t1, k _ _ (Ne.symm hodx) z⟩
      · refine hq h2 tk2 (fun b u hb z => k2 b u hb (k b u hb z)) ?_
        rw [List.reverse_cons, List.append_assoc]
        exact hn2

/-- what the text of the __init__ must be (each by rfl or decide at a written text) -/
structure ErrSyn (qual : Str) (st : Stmt) (f0 : Str) (gs : List Str) : Prop where
  body : ∃ (msg : Str) (p0 p1 p2 p3 p4 p5 : Pos) (j : Nat) (a1 a2 a3 a4 : Pos) (r : List Stmt), L2.defBody st = supS msg p0 p1 p2 p3 p4 p5 j :: stoS f0 a1 a2 a3 a4 :: r ∧ Stos r gs ∧ (p2.endLine == p4.line) = true
  ar : ∃ ar : Arg, ((L2.defArgs st).posonlyargs ++ (L2.defArgs st).args).head? = some ar ∧ ar.arg = "self"
  kind : (L2.defScope st).kind = .function
  sup : (L2.defScope st).names.lookup ("super" : Str) = some .globalImplicit
  cls : (L2.defScope st).names.lookup ("__class__" : Str) = some .free
  self : (L2.defScope st).names.lookup ("self" : Str) = some .local
  loc : ∀ f ∈ f0 :: gs, (L2.defScope st).names.lookup f = some .local ∧ (f == ("__debug__" : Str)) = false
  cell : ∀ y ∈ (L2.defScope st).names, y.2 ≠ .cell
  co : (L2.defScope st).isCoroutine = false
  gen : (L2.defScope st).isGenerator = false
  nd : ((("self" : Str) :: f0 :: gs) : List Str).Nodup
  short : gs.length ≤ 100
  bind : ∀ (kV doc pm : Value) (an : Option Addr) (cdv ct : Value) (cc : Addr) (us : List Value), us.length = ((("self" : Str) :: f0 :: gs) : List Str).length →
    ∀ s : Shared, BindsTo s (ksFn "__init__" qual (L2.defArgs st) (L2.defBody st) (L2.defScope st) .none kV doc pm an cdv ct cc) ⟨us, []⟩ (((("self" : Str) :: f0 :: gs) : List Str).zip us)

theorem lookup_rev {n : Str} {v : Value} : ∀ {l : List (Str × Value)}, (l.map (·.1)).Nodup → (n, v) ∈ l → l.reverse.lookup n = some v := by
  intro l
  induction l with
  | nil => intro _ h; cases h
  | cons p l ih =>
    intro nd h
    obtain ⟨f, u⟩ := p
    rw [List.map_cons, List.nodup_cons] at nd
    rw [List.reverse_cons, List.lookup_append]
    rcases List.mem_cons.mp h with e | h
    · cases e
      have z : l.reverse.lookup n = none := by
        rw [List.lookup_eq_none_iff]
        intro q hq
        have : q.1 ∈ l.map (·.1) := List.mem_map_of_mem (List.mem_reverse.mp hq)
        have ne : ¬ n = q.1 := fun e => nd.1 (by rw [e]; exact this)
        simp [ne]
      rw [z]
      simp [List.lookup]
    · rw [ih nd.2 h]
      rfl

theorem zip_map1 : ∀ (ns : List Str) (us : List Value), us.length = ns.length → (ns.zip us).map (·.1) = ns
  | [], _, _ => rfl
  | n :: ns, [], h => by cases h
  | n :: ns, u :: us, h => by
    show n :: (ns.zip us).map (·.1) = n :: ns
    rw [zip_map1 ns us (Nat.succ.inj h)]

theorem errs_init (T : ErrTxt prog K mg x qual st fs C fI) {f0 : Str} {gs : List Str} (S : ErrSyn qual st f0 gs) (hfs : fs = f0 :: gs) {R : Result → Shared → Prop} {o t0 : Addr} {v0 : Value} {vs : List Value}
    (X : K.In s.heap) (hlim : s.heap.NoLimit) (hg : s.heap.Ns mainGlobals mg) (hb : s.heap.Ns builtinsNs mb) (hmb : mb "super" = some (.type "super"))
    (ho : s.heap.get? o = some (excO C t0)) (hno : K.lookup o = none) (hroom : A.depth < recursionLimit) (hlen : vs.length = gs.length)
    (hq : ∀ h' tk dx, (∀ b u, b ≠ o → s.heap.get? b = some u → h'.get? b = some u) → s.heap.objs.size ≤ dx → dx ≠ o → ErrAt h' o C dx (((f0, v0) :: gs.zip vs).reverse) → R (.ok (.ret .none)) { s with heap := h', toks := tk }) :
    codeAny (model prog w) A (.call (.ref fI) ⟨.ref o :: v0 :: vs, []⟩) R s := by
  obtain ⟨oc, od, kV, doc, pm, an, ct, osl, cda, cc, lk, hcd, hcell, hcode⟩ := T.fn
  obtain ⟨msg, p0, p1, p2, p3, p4, p5, j, a1, a2, a3, a4, r, hbody, hst, hpos⟩ := S.body
  obtain ⟨ar, har, hself⟩ := S.ar
  have hCo : o ≠ C := by
    rintro rfl
    obtain ⟨nm, q, N, bs, bm, sn, sub, ab, col, dd, k0, k1, k2, k3, k5, hC, hbm⟩ := T.cls
    rw [hno] at hC
    cases hC
  have hlt : o < s.heap.objs.size := Heap.lt_size ho
  have hulen : (Value.ref o :: v0 :: vs).length = ((("self" : Str) :: f0 :: gs) : List Str).length := by simp [hlen]
  have nd : ((((("self" : Str) :: f0 :: gs) : List Str).zip (Value.ref o :: v0 :: vs)).map (·.1)).Nodup := by
    rw [zip_map1 _ _ hulen]
    exact S.nd
  refine ks_codeAny_call_defAt (fd := ksFn "__init__" qual (L2.defArgs st) (L2.defBody st) (L2.defScope st) .none kV doc pm an (.ref cda) ct cc) (body := L2.defBody st) (binds := ((("self" : Str) :: f0 :: gs) : List Str).zip (Value.ref o :: v0 :: vs))
    hroom (X _ _ lk) rfl hlim (codeRec_of X hcd) rfl (S.bind _ _ _ _ _ _ _ _ hulen s) S.cell (fun y hy => ?_) (fun h0 hns hk0 => ?_) S.co S.gen S.kind
  · have : y.1 ∈ ((("self" : Str) :: f0 :: gs) : List Str) := (List.of_mem_zip hy).1
    rcases List.mem_cons.mp this with e | e
    · rw [e]; exact S.self
    · exact (S.loc _ e).1
  show PySem.wpAt _ (A.deeper (ksEnv qual (L2.defScope st) s.heap.objs.size fI (.ref cda) cc)) (.func (L2.defBody st) (ksEnv qual (L2.defScope st) s.heap.objs.size fI (.ref cda) cc)) (execs (L2.defBody st) (ksEnv qual (L2.defScope st) s.heap.objs.size fI (.ref cda) cc)) _ _ _
  have hb2 : execs (L2.defBody st) (ksEnv qual (L2.defScope st) s.heap.objs.size fI (.ref cda) cc) = execs (supS msg p0 p1 p2 p3 p4 p5 j :: stoS f0 a1 a2 a3 a4 :: r) (ksEnv qual (L2.defScope st) s.heap.objs.size fI (.ref cda) cc) := by rw [hbody]
  rw [hb2]
  have X0 : K.In h0 := X.keeps hk0
  have m_self : (((("self" : Str) :: f0 :: gs) : List Str).zip (Value.ref o :: v0 :: vs)).reverse.lookup ("self" : Str) = some (.ref o) := lookup_rev nd List.mem_cons_self
  have m_f0 : (((("self" : Str) :: f0 :: gs) : List Str).zip (Value.ref o :: v0 :: vs)).reverse.lookup f0 = some v0 := lookup_rev nd (List.mem_cons_of_mem _ List.mem_cons_self)
  have hLo : s.heap.objs.size ≠ o := Nat.ne_of_gt hlt
  refine ks_wpAt_execs_cons (sup_stmt T (fd := ksFn "__init__" qual (L2.defArgs st) (L2.defBody st) (L2.defScope st) .none kV doc pm an (.ref cda) ct cc) (ar := ar) (o := o) (t0 := t0) (m := fun y => (((("self" : Str) :: f0 :: gs) : List Str).zip (Value.ref o :: v0 :: vs)).reverse.lookup y)
    X0 (hg.keeps hk0) (hb.keeps hk0) hmb hns (by rw [hself]; exact m_self) (hk0 _ _ ho) hCo lk har hcell hcode S.kind S.sup S.cls (by rw [hself]; exact S.self) (fun h1 tk1 t1 k1 e1 => ?_) hpos (by unfold interactive; simp [S.kind]))
  show PySem.wpAt _ _ _ (execs _ _) _ _ _
  refine wpAt_of_wpAny ?_
  have hns0 := hns
  obtain ⟨oL, es, ep, hL, hr⟩ := hns
  have hns1 : h1.Ns s.heap.objs.size (fun y => (((("self" : Str) :: f0 :: gs) : List Str).zip (Value.ref o :: v0 :: vs)).reverse.lookup y) := ⟨oL, es, ep, k1 _ _ hLo hL, hr⟩
  have X1 : K.In h1 := fun a u z => k1 a u (fun y => by rw [y, hno] at z; cases z) (X0 a u z)
  refine wpAny_execs_cons (sto_new T (m := fun y => (((("self" : Str) :: f0 :: gs) : List Str).zip (Value.ref o :: v0 :: vs)).reverse.lookup y) X1 hns1 m_self m_f0 e1 (by rw [hfs]; exact List.mem_cons_self) S.kind S.self (S.loc f0 List.mem_cons_self).1 (S.loc f0 List.mem_cons_self).2
    fun h2 tk2 dx k2 dn dne hE => ?_)
  have hL1 : s.heap.objs.size < h1.objs.size := hns1.lt
  have hLdx : s.heap.objs.size ≠ dx := Nat.ne_of_lt (Nat.lt_of_lt_of_le hL1 dn)
  have hKdx : K.lookup dx = none := by
    cases z : K.lookup dx with
    | none => rfl
    | some u => exact absurd (Nat.lt_of_lt_of_le (Heap.lt_size (X1 _ _ z)) dn) (Nat.lt_irrefl _)
  have X2 : K.In h2 := fun a u z => k2 a u (fun y => by rw [y, hno] at z; cases z) (X1 a u z)
  show wpAny _ _ (execs r _) _ _ _
  refine sto_run T (env := ksEnv qual (L2.defScope st) s.heap.objs.size fI (.ref cda) cc) (dx := dx) (o := o) (m := fun y => (((("self" : Str) :: f0 :: gs) : List Str).zip (Value.ref o :: v0 :: vs)).reverse.lookup y) S.kind S.self m_self hLdx dne hst (gs.zip vs) [(f0, v0)] _ (zip_map1 gs vs hlen) (fun p hp => ?_) ?_ X2 hKdx ?_ hE fun h3 tk3 k3 hn3 => ?_
  · have pg : p.1 ∈ gs := (List.of_mem_zip hp).1
    exact ⟨lookup_rev nd (List.mem_cons_of_mem _ (List.mem_cons_of_mem _ hp)), by rw [hfs]; exact List.mem_cons_of_mem _ pg, (S.loc _ (List.mem_cons_of_mem _ pg)).1, (S.loc _ (List.mem_cons_of_mem _ pg)).2⟩
  · rw [List.length_zip]
    have := S.short
    simp only [List.length_cons, List.length_nil]
    omega
  · exact ⟨oL, es, ep, k2 _ _ hLo (k1 _ _ hLo hL), hr⟩
  · refine hq h3 _ dx (fun b u hb z => ?_) (Nat.le_of_lt (Nat.lt_of_lt_of_le hL1 dn)) dne ?_
    · have z0 := hk0 b u z
      have z1 := k1 b u hb z0
      have z2 := k2 b u hb z1
      exact k3 b u (Nat.ne_of_lt (Nat.lt_trans (Heap.lt_size z) (Nat.lt_of_lt_of_le hL1 dn))) z2
    · obtain ⟨t2, z⟩ := hE.obj
      refine ⟨⟨t2, k3 _ _ (Ne.symm dne) z⟩, ?_⟩
      rw [List.reverse_cons]
      exact hn3

/-- a made error: at e, its own dict at d -/
structure Made (h h' : Heap) (e C d : Addr) (l : List (Str × Value)) : Prop where
  keep : ∀ b o, h.get? b = some o → h'.get? b = some o
  new : h.objs.size ≤ e
  dbig : h.objs.size ≤ d
  dne : d ≠ e
  er : ErrAt h' e C d l

theorem errs_made (T : ErrTxt prog K mg x qual st fs C fI) {f0 : Str} {gs : List Str} (S : ErrSyn qual st f0 gs) (hfs : fs = f0 :: gs) {R : Result → Shared → Prop} {v0 : Value} {vs : List Value}
    (X : K.In s.heap) (hlim : s.heap.NoLimit) (hg : s.heap.Ns mainGlobals mg) (hb : s.heap.Ns builtinsNs mb) (hmb : mb "super" = some (.type "super"))
    (hroom : A.depth + 1 < recursionLimit) (hlen : vs.length = gs.length)
    (hq : ∀ h' tk e d, Made s.heap h' e C d (((f0, v0) :: gs.zip vs).reverse) → R (.ok (.ret (.ref e))) { s with heap := h', toks := tk }) :
    codeAny (model prog w) A (.call (.ref C) ⟨v0 :: vs, []⟩) R s := by
  obtain ⟨nm, q, N, bs, bm, sn, sub, ab, col, dd, k0, k1, k2, k3, k5, hC, hbm⟩ := id T.cls
  obtain ⟨hp, g, dr, tk, os⟩ := s
  have k : ∀ b o, hp.get? b = some o → ((hp.push (kdv_tup (v0 :: vs))).push (excO C hp.objs.size)).get? b = some o := fun b o e => Heap.get?_push_of_some _ (Heap.get?_push_of_some _ e)
  have hget : ((hp.push (kdv_tup (v0 :: vs))).push (excO C hp.objs.size)).get? (hp.objs.size + 1) = some (excO C hp.objs.size) := by heap_get
  have hnx : K.lookup (hp.objs.size + 1) = none := by
    cases e : K.lookup (hp.objs.size + 1) with
    | none => rfl
    | some o =>
      have z : hp.get? (hp.objs.size + 1) = some o := X _ _ e
      exact absurd (Nat.lt_of_succ_lt (Heap.lt_size z)) (Nat.lt_irrefl _)
  have hsz : (v0 :: vs).length ≤ sizeLine := by
    have := S.short
    have z : 101 ≤ sizeLine := by decide
    simp only [List.length_cons, hlen]
    omega
  refine call_own F.excBase_ValueError (fun X => refsVE_contains X bm hbm) (X _ _ hC) (looks_findIn X T.iC) (fun self => bind_fn X self T.tI) hsz ?_
  refine errs_init (s := ⟨(hp.push (kdv_tup (v0 :: vs))).push (excO C hp.objs.size), g, dr, tk, os⟩) T S hfs (X.keeps k) (hlim.keeps k) (hg.keeps k) (hb.keeps k) hmb hget hnx ?_ hlen fun h' tk' dx k' dn dne hE => ?_
  · show A.depth + 1 < recursionLimit
    exact hroom
  · have old : ∀ b o, hp.get? b = some o → h'.get? b = some o := fun b o e => k' b o (Nat.ne_of_lt (Nat.lt_succ_of_lt (Heap.lt_size e))) (k b o e)
    have z : hp.objs.size + 1 + 1 ≤ dx := by
      first
        | (simpa only [Heap.size_push] using dn)
        | exact dn
        | (have q := dn; rw [Heap.size_push, Heap.size_push] at q; exact q)
    exact ⟨rfl, hq h' tk' (hp.objs.size + 1) dx ⟨old, Nat.le_succ _, Nat.le_trans (Nat.le_trans (Nat.le_succ _) (Nat.le_succ _)) z, dne, hE⟩⟩
end
end XS
end PySem

namespace PySem
namespace XS
open PySem.W PySem.Calls PyProof.Rows PySem.HandSPX
/-! ### what the top must have written, fact by fact -/
theorem exm_of {K : Frag} {D S : Addr} {b : Bool} (h1 : subIn K (.ref S) (.type "BaseException") = some true) (h2 : isClsIn K S = true) (h3 : typeIn K (.ref S) = some (.type "type")) (h4 : subIn K (.ref D) (.ref S) = some b) :
    exmOne K (.ref D) (.ref S) = some b := by
  have e1 : (subIn K (.ref S) (.type "BaseException") == some true) = true := by rw [h1] <;> rfl
  have e2 : ((clsIn K S).isSome && typeIn K (.ref S) == some (.type "type")) = true := by
    have h2' : (clsIn K S).isSome = true := h2
    rw [h2', h3] <;> rfl
  show (if (subIn K (.ref S) (.type "BaseException") == some true) = true then (if ((clsIn K S).isSome && typeIn K (.ref S) == some (.type "type")) = true then subIn K (.ref D) (.ref S) else none) else none) = some b
  rw [if_pos e1, if_pos e2]
  exact h4
theorem xf_of {K : Frag} {C : Addr} (ga : findIn K (.ref C) "__getattribute__" = some (some (.builtin "BaseException.__getattribute__"))) (gg : findIn K (.ref C) "__getattr__" = some none)
    (eC : subIn K (.ref C) (.type "BaseException") = some true) (hC : hasDictIn K C = true) : L2.xfB K C = true := by
  unfold L2.xfB
  rw [decide_eq_true ga, decide_eq_true gg, decide_eq_true eC, hC]
  rfl
theorem errTxt_mk {prog : Program} {K : Frag} {h : Heap} {mg : Str → Option Value} {x qual : Str} {st : Stmt} {fs : List Str} {C fI : Addr} (X : K.In h) (G : h.Ns mainGlobals mg)
    {nm q : Str} {N : Addr} {bs bm : List Value} {sn : List Str} {sub : List Value} {ab : Bool} {col : Option Bool} {dd : Option Addr} {m0 m1 m2 m3 m5 : Option Value}
    {oc kV doc pm ct : Value} {od an : Option Addr} {osl : Array (Option Value)} {cda cc : Addr} {cl : Value} {cld : Option Addr} {csl : Array (Option Value)} {ccl : Value} {cdd : Option Addr} {vs : Array Value} {ccs : Array (Option Value)} {file : Str} {tf : Tok}
    (gC : nsIn K mainGlobals x = some (some (.ref C)))
    (xL : K.lookup C = some (excClassObj nm q C N bs bm true sn sub ab col dd m0 m1 m2 m3 m5 "ValueError.__new__")) (hbm : refsVE bm = true)
    (sup : ks_superIn K C C "__init__" = some (some (.builtin "ValueError.__init__"))) (stc : nsIn K cStatics "thirdparty.any" = some none)
    (sa : findIn K (.ref C) "__setattr__" = some (some (.builtin "object.__setattr__")))
    (ga : findIn K (.ref C) "__getattribute__" = some (some (.builtin "BaseException.__getattribute__"))) (gg : findIn K (.ref C) "__getattr__" = some none)
    (eC : subIn K (.ref C) (.type "BaseException") = some true) (hC : hasDictIn K C = true) (noF : ∀ f ∈ fs, findIn K (.ref C) f = some none)
    (iC : findIn K (.ref C) "__init__" = some (some (.ref fI))) (tI : typeIn K (.ref fI) = some (.type "function")) (kC : keepIn K (.ref C) = true)
    (mC : mroIn K C (.ref C) = some true) (vC : subIn K (.ref C) (.type "ValueError") = some true) (tC : typeIn K (.ref C) = some (.type "type"))
    (isC : isClsIn K C = true) (sC : subIn K (.ref C) (.ref C) = some true) (mgS : nsIn K mainGlobals "super" = some none)
    (l : K.lookup fI = some ⟨oc, od, .func (ksFn "__init__" qual (L2.defArgs st) (L2.defBody st) (L2.defScope st) .none kV doc pm an (.ref cda) ct cc), osl⟩) (c : codeIn K (.ref cda) qual = true)
    (lc : K.lookup cc = some ⟨cl, cld, .cell (some (.ref C)), csl⟩) (ld : K.lookup cda = some ⟨ccl, cdd, .fields vs, ccs⟩) (hv : vs[2]? = some (.str file tf)) (hf : ((prog.main.file : Str) == file) = true)
    (top : (prog.main.scope.names.lookup ("super" : Str)).isSome = false) : ErrTxt prog K mg x qual st fs C fI :=
  { gC := mg_of X G gC, cls := ⟨nm, q, N, bs, bm, sn, sub, ab, col, dd, m0, m1, m2, m3, m5, xL, hbm⟩, sup := sup, stc := stc, sa := sa, xf := xf_of ga gg eC hC, noF := noF, iC := iC, tI := tI, kC := kC, mC := mC, vC := vC, tC := tC,
    te := exm_of eC isC tC sC, mgS := mg_none_of X G mgS, fn := ⟨oc, od, kV, doc, pm, an, ct, osl, cda, cc, l, c, ⟨cl, cld, csl, lc⟩, ⟨ccl, cdd, vs, ccs, file, tf, ld, hv, hf⟩⟩, top := top }
end XS
end PySem

namespace L2
open PySem PySem.Spec PyProof.Rows

theorem pair_app {α β : Type} {F : α → β → Prop} {l1 : List α} {u1 : List β} (h : Paired F l1 u1) : ∀ {l2 : List α} {u2 : List β}, Paired F l2 u2 → Paired F (l1 ++ l2) (u1 ++ u2) := by
  induction h with
  | nil => intro l2 u2 g; exact g
  | cons r _ ih => intro l2 u2 g; exact .cons r (ih g)
theorem pair_rev {α β : Type} {F : α → β → Prop} {l : List α} {u : List β} (h : Paired F l u) : Paired F l.reverse u.reverse := by
  induction h with
  | nil => exact .nil
  | cons r _ ih =>
    rw [List.reverse_cons, List.reverse_cons]
    exact pair_app ih (.cons r .nil)
abbrev FV : (Str × V) → (Str × Value) → Prop := fun p q => p.1 = q.1 ∧ RelV p.2 q.2
theorem pair_zip : ∀ {ns : List Str} {vs : List V} {us : List Value}, Vals vs us → Paired FV (ns.zip vs) (ns.zip us)
  | [], _, _, _ => .nil
  | _ :: _, _, _, .nil => .nil
  | n :: ns, _, _, .cons r t => .cons ⟨rfl, r⟩ (pair_zip (ns := ns) t)
theorem relO_mp {l : List (Str × V)} {u : List (Str × Value)} (h : Paired FV l u) (g : Str) : RelO (l.lookup g) (XS.mpOf u g) := by
  induction h with
  | nil => exact True.intro
  | @cons p q l u r _ ih =>
    obtain ⟨f, v⟩ := p
    obtain ⟨f', w⟩ := q
    obtain ⟨e, rv⟩ := r
    dsimp only at e rv
    subst e
    rw [lookup_put, XS.mpOf_cons]
    dsimp only
    by_cases hw : g = f
    · rw [if_pos hw, if_pos hw]
      exact rv
    · rw [if_neg hw, if_neg hw]
      exact ih

/-- C(e, ..) of such an error: its own dict, new, holds the fields (the last one first) -/
def tMkE (C : Addr) (ns : List Str) (ta : TA) : St → Hp → XK → Prop := fun σ H Q => ta σ H fun vs H1 => vs.length = ns.length ∧ ∀ d, H1 d = none → Q (.ref C) (some d) (upd H1 d (.xd (ns.zip vs).reverse))
def tRaiseE (C : Addr) (ns : List Str) (W : WX) (ta : TA) : TS := fun _ σ H => tMkE C ns ta σ H fun cls d H' => W cls d σ H'

section
variable {X : Cx} {C fI : Addr} {x qual : Str} {st : Stmt} {f0 : Str} {gs : List Str}
theorem pmk_err {e : Expr} {es : List Expr} {ta : TA} {p pos : Pos} {k : Nat} (T : XS.ErrTxt X.prog X.K X.mg x qual st (f0 :: gs) C fI) (S : XS.ErrSyn qual st f0 gs) (hr : Room k X.A) (ha : PA X (e :: es) ta) (hg : Gl X x := by rfl)
    (hdb : (x == ("__debug__" : Str)) = false := by decide) (he : starEach (e :: es) X.env = (false, eval e X.env) :: starEach es X.env := by rfl) (hpl : (backTo pos (starEach es X.env)).any (·.1) = false := by rfl) :
    PMk X (.Call (.Name x p) (e :: es) [] pos) (tMkE C (f0 :: gs) ta) := by
  intro pins s σ H Q I h
  obtain ⟨mb, hb1, hb2⟩ := I.mod.blt
  refine wpAny_Call_Name_kw (ld_glob I hg T.gC ?_ hdb)
  refine PySem.W.callWith_K (h₀ := X.base) I.ok.mod.kin T.kC (thn (ha.run pos pins s σ H _ I h) fun us s1 hh => ?_) he hpl
  obtain ⟨vs, H1, I1, r1, hlen, q1⟩ := hh
  refine ⟨I1.kIn, ?_⟩
  cases r1 with
  | nil => cases hlen
  | @cons v u vr ur rv rr =>
    show wpAny _ _ (call (.ref C) (u :: ur)) _ _ _
    have hlim := I1.nolimit
    have hul : ur.length = gs.length := by
      rw [← Vals.length rr]
      exact Nat.succ.inj hlen
    have KI := I1.kIn
    have hglob := I1.mod.glob.keeps I1.bk
    have hblt := hb1.keeps I1.bk
    obtain ⟨hp, g, dr, tk, os⟩ := s1
    refine wpAny_call (XS.errs_made T S rfl KI hlim hglob hblt ((hb2 "super" (by decide)).trans PyProof.Rows.Boot.«super») (by have := hr.dp; omega) hul fun h' tk' ex d M => ?_)
    show MkP X pins σ Q (.ref ex) ⟨h', g, dr, tk', os⟩
    obtain ⟨t1, hoe⟩ := M.er.obj
    have hns := M.er.ns
    obtain ⟨G', g1, g2⟩ := restrict h' fun b => decide (b ≠ ex)
    have gk : ∀ b, b ≠ ex → G'.get? b = h'.get? b := fun b hb => g1 b (decide_eq_true hb)
    have ge : G'.get? ex = none := g2 ex (by simp)
    have old : ∀ b o, hp.get? b = some o → G'.get? b = some o := fun b o q => (gk b (Nat.ne_of_lt (Nat.lt_of_lt_of_le (Heap.lt_size q) M.new))).trans (M.keep b o q)
    have ob : ObjOk X.prog X.w (upd H1 d (.xd ((f0 :: gs).zip (v :: vr)).reverse)) G' d (.xd ((f0 :: gs).zip (v :: vr)).reverse) :=
      ⟨_, hns.at (fun o q => (gk d M.dne).trans q), fun f => relO_mp (pair_rev (.cons ⟨rfl, rv⟩ (pair_zip rr))) f⟩
    have J : Inv X pins σ (upd H1 d (.xd ((f0 :: gs).zip (v :: vr)).reverse)) ⟨G', g, dr, tk', os⟩ := I1.laid (t' := tk') old M.dbig ob
    refine ⟨ex, _, _, ⟨G', g, dr, tk', os⟩, _, .ref C, some d, rfl, J, fun b o q => ?_, ge, hoe, ⟨rfl, rfl⟩, rfl, rfl, ?_, rfl, I1.bare, raises_own (xfB_ok T.xf).exC T.tC, q1 d (I1.hok.fresh M.dbig)⟩
    · by_cases hb : b = ex
      · have q' : G'.get? b = some o := q
        rw [hb, ge] at q'; cases q'
      · exact (gk b hb).symm.trans q
    · rw [upd_ne (Ne.symm M.dne)]
      exact I1.hok.fresh M.new
theorem ps_raiseErr {e : Expr} {es : List Expr} {ta : TA} {W : WX} {p pos pos2 : Pos} {k : Nat} (hc : X.calm = true) (T : XS.ErrTxt X.prog X.K X.mg x qual st (f0 :: gs) C fI) (S : XS.ErrSyn qual st f0 gs) (hr : Room k X.A) (tk : Takes X W) (ha : PA X (e :: es) ta)
    (hg : Gl X x := by rfl) (hdb : (x == ("__debug__" : Str)) = false := by decide) (he : starEach (e :: es) X.env = (false, eval e X.env) :: starEach es X.env := by rfl) (hpl : (backTo pos (starEach es X.env)).any (·.1) = false := by rfl) :
    PS X (.Raise (some (.Call (.Name x p) (e :: es) [] pos)) none pos2) (tRaiseE C (f0 :: gs) W ta) := ps_raise hc tk (pmk_err T S hr ha hg hdb he hpl)
end

/-! ### isinstance(e, c), e the error that the suite holds, whatever its own dict -/
def rIsX (K : PySem.W.Frag) (a : Addr) (cls : Value) (d : Option Addr) : List V → Hp → VK → Prop := fun xs H Q =>
  ∃ (D dd : Addr) (fs : List (Str × V)) (c : V) (cv : Value) (b : Bool), cls = .ref D ∧ d = some dd ∧ xs = [.ref a, c] ∧ (∀ u, RelV c u → u = cv) ∧ PySem.W.kitOne K (.ref D) cv = some b ∧ H dd = some (.xd fs) ∧
    (PySem.W.findIn K (.ref D) "__class__" = some (some (.builtin "object.__class__")) ∧ PySem.W.mroIn K D (.type "object") = some true ∧ xfB K D = true) ∧ Q (.bl b) H
theorem call_isX {X : Cx} {a : Addr} {oe : Obj} {cls : Value} {d : Option Addr} {pn : List (Addr × Obj)} (hn : PySem.W.specialIn X.K (.builtin "object.__class__") "__get__" = some (some (.builtin "getset_descriptor.__get__")))
    (ht : PySem.W.takesIn X.K (.builtin "object.__class__") = some true) (hz : Zc cls d oe) (hf : ∃ vs, oe.data = .fields vs) : CallR (X.suite a ((a, oe) :: pn)) (.builtin "isinstance") (rIsX X.K a cls d) := by
  intro pins s σ H xs us Q I r h
  obtain ⟨D, dd, fs, c, cv, b, rfl, rfl, rfl, hcv, e, hdd, ⟨ha, hm, hx⟩, q⟩ := h
  obtain ⟨ga, gg, exC, hdC⟩ := xfB_ok hx
  cases r with
  | cons rx rr =>
    cases rr with
    | cons rt rr =>
      cases rr
      cases rx
      have ec := hcv _ rt
      subst ec
      obtain ⟨hget, _⟩ := I.pin (a, oe) (List.mem_append.mpr (.inl List.mem_cons_self))
      obtain ⟨vs, hv⟩ := hf
      have hxd : ObjOk X.prog X.w H s.heap dd (.xd fs) := I.hok dd _ hdd
      obtain ⟨mA, hns, _⟩ := hxd
      obtain ⟨od, ho, _⟩ := lookIn_ns hns
      have J : PySem.W.InstAt s.heap a oe D (some od) := ⟨hget, hz.1, by unfold PySem.W.notCls; rw [hv] <;> rfl, by rw [hz.2]; exact ho⟩
      obtain ⟨cd, hc, _⟩ := PySem.W.any_some hdC
      exact PySem.W.kia_one (PySem.W.kitx_exc (by rw [hc]; rfl) ga gg exC ha hn ht hm) I.kIn J e (fun z => nomatch z) fun tk => ⟨.bl b, H, I.kept (t' := tk) fun _ _ z => z, rfl, q⟩
end L2

/-! ### try with several clauses, with a name or without -/
namespace L2
open PySem PySem.Spec PyProof.Rows
abbrev Clause := Value × Option Nat × (Addr → Value → Option Addr → TS)
def endN : Option Nat → Ends → Ends
  | none, D => D
  | some i, D => { nx := fun σ' H' => D.nx (σ'.set i none) H', rt := D.rt, bk := fun σ' H' => D.bk (σ'.set i none) H', ct := fun σ' H' => D.ct (σ'.set i none) H' }
def inN : Option Nat → Addr → St → St
  | none, _, σ => σ
  | some i, a, σ => σ.set i (some (.ref a))
/-- what the clauses wish of an exception of the body, one after the other -/
def wGen (K : PySem.W.Frag) (Wout : WX) (D : Ends) : List Clause → WX
  | [] => Wout
  | (c, io, ts) :: r => fun cls d σ H => ∃ b, PySem.W.exmOne K cls c = some b ∧ (b = true → ∀ a, H a = none → ts a cls d (endN io D) (inN io a σ) H) ∧ (b = false → wGen K Wout D r cls d σ H)
inductive HdsG (X : Cx) : List ExceptHandler → List Clause → Prop
  | nil : HdsG X [] []
  | plain {x : Str} {c : Value} {ts : Addr → Value → Option Addr → TS} {b₀ : Stmt} {suite : List Stmt} {np pq : Pos} {hds : List ExceptHandler} {l : List Clause} (hc : Names X x c)
      (hsu : ∀ (a : Addr) (oe : Obj) (cls : Value) (d : Option Addr) (pn : List (Addr × Obj)), Zc cls d oe → (∃ vs, oe.data = .fields vs) → PSs (X.suite a ((a, oe) :: pn)) (b₀ :: suite) (ts a cls d)) (r : HdsG X hds l) :
      HdsG X (.ExceptHandler (some (.Name x np)) none (b₀ :: suite) pq :: hds) ((c, none, ts) :: l)
  | named {x n : Str} {c : Value} {i : Nat} {ts : Addr → Value → Option Addr → TS} {b₀ : Stmt} {suite : List Stmt} {np pq : Pos} {hds : List ExceptHandler} {l : List Clause} (hc : Names X x c)
      (hi : X.N[i]? = some n) (hln : X.env.kindOf n = some .local)
      (hsu : ∀ (a : Addr) (oe : Obj) (cls : Value) (d : Option Addr) (pn : List (Addr × Obj)), Zc cls d oe → (∃ vs, oe.data = .fields vs) → PSs (X.suite a ((a, oe) :: pn)) (b₀ :: suite) (ts a cls d)) (r : HdsG X hds l) :
      HdsG X (.ExceptHandler (some (.Name x np)) (some n) (b₀ :: suite) pq :: hds) ((c, some i, ts) :: l)
section
variable {X : Cx} {body : List Stmt} {hd0 : ExceptHandler} {hds : List ExceptHandler} {l : List Clause} {pos : Pos} {tb : WX → TS} {Wout : WX}
theorem ps_try_gen (hs : X.stack = X.env :: X.outer) (hf : X.env.frame = some X.env.locals) (hN : X.N.Nodup) (tk : Takes X Wout)
    (hb : ∀ (W : WX) (pn : List (Addr × Obj)) (xe : Value → Shared → Prop), Takes (X.tr pn xe) W → PassesOwn (model X.prog X.w) X.A X.env xe → PSs (X.tr pn xe) body (tb W))
    (hh : HdsG X (hd0 :: hds) l) : PS X (.Try body (hd0 :: hds) [] [] pos) (fun D σ H => tb (wGen X.K Wout D l) D σ H) := by
  refine ⟨fun pins s σ H D I h => ?_⟩
  have ok := I.ok
  have frm : X.A.frames = some (X.env :: X.outer) := by rw [ok.frames, hs]
  refine wpAny_Try_except ?_
  refine wpAny_mono ((hb (wGen X.K Wout D l) (X.pn ++ pins)
    (fun ev z1 => wpAny (model X.prog X.w) X.A (noteFrame ev X.env) (fun _ z2 => wpAny (model X.prog X.w) X.A (setFlight ev none) (fun _ z3 => wpAny (model X.prog X.w) X.A (handleBy ev X.env (hd0 :: hds)) (SP X pins D) X.xe z3) X.xe z2) X.xe z1)
    (fun u s' xx => ?_) PassesOwn.looking).run [] s σ H D (I.toTry _) h) (fun fl s1 hsp => ?_) (fun ev s1 he => he)
  · obtain ⟨ea, B, sI, pp, σq, Hq, cls, d, rfl, Jt, nb, up, sky, na, os, ag, wish⟩ := xx
    have J : Inv X pins σq Hq sI := Jt.ofTry ok
    have sky2 : Sky B (X.env :: X.outer) ea (Zc cls d) X.env.locals s'.heap := by rw [← hs]; exact sky
    show wpAny (model X.prog X.w) X.A (noteFrame (Value.ref ea) X.env) _ _ _
    refine Sky.land Zc.steady frm hf sky2 fun g3 fly3 upg3 => ?_
    have K3 : Inv X pins σq Hq { s' with heap := g3 } := J.landed nb fly3.1 (up.trans upg3) os ag
    obtain ⟨ob3, fv3, hg3, zc3, dt3⟩ := fly3.there
    have noframe : ∀ {hh : Heap} {o : Obj} {vs : Array Value}, hh.FunFrames B (X.env :: X.outer) → hh.get? ea = some o → o.data = .fields vs → ea ∉ frs (X.env :: X.outer) := fun {hh o vs} ff e1 dd1 hm1 => by
      obtain ⟨_, o2, e2, hnf⟩ := ff.mem hm1
      rw [e1] at e2
      cases e2
      exact hnf _ dd1
    have nofr := noframe fly3.2.2.1 hg3 dt3
    have neL : ea ≠ X.env.locals := fun z => nofr (List.mem_filterMap.mpr ⟨X.env, List.mem_cons_self, by rw [hf, z]⟩)
    have neF : ea ∉ X.fs := fun hm1 => by
      obtain ⟨e1, he1, q1⟩ := List.mem_filterMap.mp hm1
      exact nofr (List.mem_filterMap.mpr ⟨e1, List.mem_cons_of_mem _ he1, q1⟩)
    have Q3 := K3.suite hg3 dt3 na neL neF
    have LT : PySem.W.Looks (model X.prog X.w) g3 (typeOf (.ref ea)) cls := fun A1 Q1 E1 z1 k1 q1 => wpAny_typeOf_ref (k1 _ _ hg3) (by rw [zc3.1]; exact q1)
    have named : ∀ {x : Str} {c : Value} {np : Pos} {Q1 : Value → Shared → Prop} {E1 : Value → Shared → Prop}, Names X x c → Q1 c { s' with heap := g3 } → wpAny (model X.prog X.w) (X.A.mark (some (.ref ea))) (eval (.Name x np) X.env) Q1 E1 { s' with heap := g3 } := fun {x c np Q1 E1} hc q1 => by
      obtain ⟨hg, hdbg, hm | ⟨hm, hv, hnn⟩⟩ := hc
      · exact ld_glob (X := X.suite ea ((ea, ob3) :: (X.pn ++ pins))) Q3 hg hm q1 hdbg
      · exact ld_blt (X := X.suite ea ((ea, ob3) :: (X.pn ++ pins))) Q3 hg hm hv q1 hnn hdbg
    have run : ∀ {hs2 : List ExceptHandler} {l2 : List Clause}, HdsG X hs2 l2 → wGen X.K Wout D l2 cls d σq Hq → wpAny (model X.prog X.w) X.A (handleBy (.ref ea) X.env hs2) (SP X pins D) X.xe { s' with heap := g3 } := by
      intro hs2 l2 hk
      induction hk with
      | nil =>
        intro w1
        refine wpAny_handleBy_nil ?_
        obtain ⟨_, _, _, o1, vs1, T1, oT1, tt1, he1, hz1, hd1, hw1, hr1⟩ := id fly3
        unfold PySem.passOn
        refine wpAny_bind (wpAny_field he1 hd1 hw1 ?_)
        rw [if_neg (show ¬ ((Value.ref T1 == Value.none) = true) from by simp)]
        have last : wpAny (model X.prog X.w) X.A (setFlight (.ref ea) X.env.frame) (fun _ z4 => wpAny (model X.prog X.w) X.A (throw (.ref ea) : Sem Flow) (SP X pins D) X.xe z4) X.xe { s' with heap := g3 } := by
          rw [hf]
          refine HandSPX.setFlight_upZ fly3 fun g4 fly4 upg4 => wpAny_throw (tk _ _ ?_)
          exact ⟨ea, B, sI, pins, σq, Hq, cls, d, rfl, J, nb, (up.trans upg3).trans upg4, .inr (.inr (by rw [hs]; exact fly4)), na, os, ag, w1⟩
        first
          | exact wpAny_bind (wpAny_pure (wpAny_bind last))
          | exact wpAny_bind last
      | @plain x c ts b₀ suite np pq hs3 l3 hc hsu r ih =>
        intro w1
        obtain ⟨b, hb1, hyes, hno⟩ := w1
        refine wpAny_handleBy_cons (codeAny_handlers_test ?_) (by intro q; cases q)
        refine named hc ((PySem.W.exm_one (M := model X.prog X.w) K3.kIn LT hb1).here ?_)
        cases b with
        | true =>
          refine codeAny_handlers_suite (HandSPX.lands_againZ fly3 fun g4 fly4 upg4 => ?_)
          have K4 : Inv X pins σq Hq { s' with heap := g4 } := J.landed nb fly4.1 ((up.trans upg3).trans upg4) os ag
          obtain ⟨ob4, fv4, hg4, zc4, dt4⟩ := fly4.there
          have Q4 := K4.suite hg4 dt4 na neL neF
          refine wpAny_mono ((hsu ea ob4 cls d (X.pn ++ pins) zc4 ⟨_, dt4⟩).run [] _ _ Hq _ Q4 (hyes rfl ea na)) (fun f1 s6 hsp => ?_) (fun _ _ z => False.elim z)
          cases f1 with
          | ret u6 =>
            obtain ⟨v6, σ6, H6, S6, r6, q6⟩ := hsp
            exact ⟨_, _, _, S6.unsuite ok, r6, q6⟩
          | next | brk | cont =>
            obtain ⟨σ6, H6, S6, q6⟩ := hsp
            exact ⟨_, _, S6.unsuite ok, q6⟩
        | false =>
          show wpAny _ X.A (handleBy (.ref ea) X.env hs3) _ _ _
          exact ih (hno rfl)
      | @named x n c i ts b₀ suite np pq hs3 l3 hc hi hln hsu r ih =>
        intro w1
        obtain ⟨b, hb1, hyes, hno⟩ := w1
        refine wpAny_handleBy_cons (codeAny_handlers_test ?_) (by intro q; cases q)
        refine named hc ((PySem.W.exm_one (M := model X.prog X.w) K3.kIn LT hb1).here ?_)
        cases b with
        | true =>
          refine codeAny_handlers_suite_as (HandSPX.lands_againZ fly3 fun g4 fly4 upg4 => ?_)
          have K4 : Inv X pins σq Hq { s' with heap := g4 } := J.landed nb fly4.1 ((up.trans upg3).trans upg4) os ag
          obtain ⟨ob4, fv4, hg4, zc4, dt4⟩ := fly4.there
          have Q4 := K4.suite hg4 dt4 na neL neF
          refine store_ok (X := X.suite ea ((ea, ob4) :: (X.pn ++ pins))) (v := .ref ea) Q4 hN hi (.inl hln) rfl (fun s5 S5 => ?_) (.inr hln)
          refine wpAny_mono ((hsu ea ob4 cls d (X.pn ++ pins) zc4 ⟨_, dt4⟩).run [] s5 _ Hq _ S5 (hyes rfl ea na)) (fun f1 s6 hsp => ?_) (fun _ _ z => False.elim z)
          have away : ∀ {σ6 : St} {H6 : Hp} {Q6 : Shared → Prop}, Inv (X.suite ea ((ea, ob4) :: (X.pn ++ pins))) [] σ6 H6 s6 → (∀ s7, Inv X pins (σ6.set i none) H6 s7 → Q6 s7) →
              wpAny (model X.prog X.w) X.A (do bindName X.env n .none; unbindBehindTheSuite X.env n pq) (fun _ s7 => Q6 s7) X.xe s6 := fun S6 hq => gone_ok (S6.unsuite ok) hN hi hln hq
          cases f1 with
          | ret u6 =>
            obtain ⟨v6, σ6, H6, S6, r6, q6⟩ := hsp
            exact away S6 fun s7 J7 => ⟨_, _, _, J7, r6, q6⟩
          | next | brk | cont =>
            obtain ⟨σ6, H6, S6, q6⟩ := hsp
            exact away S6 fun s7 J7 => ⟨_, _, J7, q6⟩
        | false =>
          show wpAny _ X.A (handleBy (.ref ea) X.env hs3) _ _ _
          exact ih (hno rfl)
    exact run hh wish
  · cases fl with
    | next =>
      obtain ⟨σq, Hq, Jt, q1⟩ := hsp
      exact wpAny_execs_nil ⟨σq, Hq, Jt.ofTry ok, q1⟩
    | brk | cont =>
      obtain ⟨σq, Hq, Jt, q1⟩ := hsp
      exact ⟨σq, Hq, Jt.ofTry ok, q1⟩
    | ret u =>
      obtain ⟨v, σq, Hq, Jt, r1, q1⟩ := hsp
      exact ⟨v, σq, Hq, Jt.ofTry ok, r1, q1⟩
end
end L2

/-! # Own layer: defs bundled by name, list items read for a store, frames, reading steps -/
namespace L2
open PySem PySem.Spec PyProof.Rows

/-- the def of this name keeps the promise -/
def FnB (P : Program) (w : World) (K : PySem.W.Frag) (mg : Str → Option Value) (base : Heap) (CX : CXT) (k : Nat) (x : Str) (ps : List Str) (sp : Sp) : Prop :=
  ∃ (f : Addr) (fd : FuncData), FnOk P w K mg base CX k f fd ps sp ∧ mg x = some (.ref f) ∧ PySem.W.keepIn K (.ref f) = true ∧ Binds K fd ps []

section
variable {X : Cx} {CX : CXT} {k : Nat} {ps : List Str} {sp : Sp} {E : XK} {x : Str} {p pos : Pos} {e : Expr} {es : List Expr} {t : TA}
theorem pe_callF (F : FnB X.prog X.w X.K X.mg X.base CX k x ps sp) (hr : Room k X.A) (hg : Gl X x) (hx : Passes CX X E)
    (ha : PA X (e :: es) t) (hdb : (x == ("__debug__" : Str)) = false := by decide) (he : starEach (e :: es) X.env = (false, eval e X.env) :: starEach es X.env := by rfl) (hpl : (backTo pos (starEach es X.env)).any (·.1) = false := by rfl) :
    PE X (.Call (.Name x p) (e :: es) [] pos) (tCall sp [] E t) := by
  obtain ⟨f, fd, F1, g, kp, b⟩ := F
  exact pe_call F1 hr hg g kp b .nil hx ha hdb he hpl
theorem pe_callFS {ES : St → XK} (F : FnB X.prog X.w X.K X.mg X.base CX k x ps sp) (hr : Room k X.A) (hg : Gl X x) (hx : ∀ σ, PassesAt CX X σ (ES σ))
    (ha : PA X (e :: es) t) (hdb : (x == ("__debug__" : Str)) = false := by decide) (he : starEach (e :: es) X.env = (false, eval e X.env) :: starEach es X.env := by rfl) (hpl : (backTo pos (starEach es X.env)).any (·.1) = false := by rfl) :
    PE X (.Call (.Name x p) (e :: es) [] pos) (tCallS sp ES t) := by
  obtain ⟨f, fd, F1, g, kp, b⟩ := F
  exact pe_callS F1 hr hg g kp b hx ha hdb he hpl
theorem pget_list : PGet X (rIxL X.K) := by
  intro pins s σ H o i ov iv Q I ro ri h
  obtain ⟨p, xs, j, z, rfl, rfl, hq, he, q⟩ := h
  cases ro
  obtain ⟨t, rfl⟩ := ri
  obtain ⟨its, r, pl, hz⟩ := I.list hq
  obtain ⟨n, h1, h2, h3, h4, h5⟩ := atI_get he
  obtain ⟨w, ew, rw'⟩ := r.get h2
  have hl := r.length
  have hn := line63
  have fin : EP X pins σ Q w s := ⟨z, H, I, rw', q⟩
  by_cases h0 : 0 ≤ j
  · have hj : j.toNat = n := by
      rw [seqIndex_of h0 h5] at h1
      exact Option.some.inj h1
    exact wpAny_getItem_list pl.isList h0 (by omega) (by rw [hj]; simpa using ew) fin
  · have hj : (j + (its.toArray.size : Int)).toNat = n := by
      rw [seqIndex_neg (by omega) h4] at h1
      rw [List.size_toArray, ← hl]
      exact Option.some.inj h1
    exact wpAny_getItem_list_neg (Q := fun v s' => EP X pins σ Q v s') pl.isList (by omega) (by rw [List.size_toArray] <;> omega) (by omega) (by rw [hj]; simpa using ew) fin
end

theorem passN {X : Cx} : Passes (L2.CX X.prog X.w) X E0 := fun _ _ _ _ _ _ _ h => by
  obtain ⟨_, _, _, _, _, _, _, _, _, _, _, _, z⟩ := h
  exact z.elim
/-! ### frames: what is tracked stays, but for the addresses of S -/
def Fr (S : List Addr) (H H' : Hp) : Prop := ∀ a o, H a = some o → a ∉ S → H' a = some o
theorem Fr.refl (S : List Addr) (H : Hp) : Fr S H H := fun _ _ h _ => h
theorem Fr.trans {S : List Addr} {H H1 H2 : Hp} (a : Fr S H H1) (b : Fr S H1 H2) : Fr S H H2 := fun c o h n => b c o (a c o h n) n
theorem Fr.new {S : List Addr} {H H' : Hp} {p : Addr} {o : HO} (e : Fr S H H') (h : H' p = none) : Fr S H (upd H' p o) := fun a u ha n => by
  have z := e a u ha n
  rw [upd_ne (ne_of_none z h)]
  exact z
/-- a store at an address of S, or at one that H does not know -/
theorem Fr.put {S : List Addr} {H H' : Hp} {p : Addr} {o : HO} (e : Fr S H H') (h : p ∈ S ∨ H p = none) : Fr S H (upd H' p o) := fun a u ha n => by
  have ne : a ≠ p := by
    rintro rfl
    rcases h with h | h
    · exact n h
    · rw [ha] at h
      cases h
  rw [upd_ne ne]
  exact e a u ha n
theorem Fr.sub {S S' : List Addr} {H H' : Hp} (e : Fr S H H') (h : ∀ a, a ∈ S → a ∈ S') : Fr S' H H' := fun a o ha n => e a o ha fun z => n (h a z)
theorem Fr.nil {S : List Addr} {H H' : Hp} (e : Fr [] H H') : Fr S H H' := fun a o ha _ => e a o ha (by simp)
theorem Fr.free {H H' : Hp} {p : Addr} (e : Fr [] H H') (h : H' p = none) : H p = none := by
  cases q : H p with
  | none => rfl
  | some o =>
    rw [e p o q (by simp)] at h
    cases h
theorem Fr.free1 {H H' : Hp} {p b : Addr} {o : HO} (e : Fr [b] H H') (hb : H' b = some o) (h : H' p = none) : H p = none := by
  cases q : H p with
  | none => rfl
  | some u =>
    by_cases z : p = b
    · rw [z, hb] at h
      cases h
    · rw [e p u q (by simpa using z)] at h
      cases h
theorem Fr.l {K : PySem.W.Frag} {H H' : Hp} {a : Addr} {xs : List V} (e : Fr [] H H') (h : SqL K H a xs) : SqL K H' a xs := by
  rcases h with (h | ⟨o, h⟩) | h
  · exact .inl (.inl (e _ _ h (by simp)))
  · exact .inl (.inr ⟨o, e _ _ h (by simp)⟩)
  · exact .inr h
theorem Fr.t {K : PySem.W.Frag} {H H' : Hp} {a : Addr} {xs : List V} (e : Fr [] H H') (h : SqT K H a xs) : SqT K H' a xs := by
  rcases h with (h | ⟨o, h⟩) | h
  · exact .inl (.inl (e _ _ h (by simp)))
  · exact .inl (.inr ⟨o, e _ _ h (by simp)⟩)
  · exact .inr h

/-! ### places of lists -/
theorem at_map {α : Type} {f : α → V} {xs : List α} {j : Nat} {v : α} (h : xs[j]? = some v) : atI (xs.map f) (j : Int) = some (f v) := atI_nat (by rw [List.getElem?_map, h]; rfl)
theorem ix_nat {n j : Nat} (h : j < n) : ixN n (j : Int) = some j := by
  unfold ixN
  rw [if_pos (Int.natCast_nonneg j), if_pos (by exact_mod_cast h)]
  rfl
theorem at_int {α : Type} {xs : List α} {i : Int} {v : α} (h0 : 0 ≤ i) (h : xs[i.toNat]? = some v) : atI xs i = some v := by
  have e : ((i.toNat : Nat) : Int) = i := Int.toNat_of_nonneg h0
  rw [← e]
  exact atI_nat h
theorem ix_int {n : Nat} {i : Int} (h0 : 0 ≤ i) (h : i < n) : ixN n i = some i.toNat := by
  unfold ixN
  rw [if_pos h0, if_pos h]
end L2

namespace L2
open PySem PySem.Spec PyProof.Rows
/-- the built-in names that no module of the row binds -/
structure Blt (mg : Str → Option Value) : Prop where
  m_len : mg "len" = none
  m_int : mg "int" = none
  m_range : mg "range" = none
  m_list : mg "list" = none
  m_min : mg "min" = none
  m_max : mg "max" = none
  m_abs : mg "abs" = none
  m_isinstance : mg "isinstance" = none
  m_bool : mg "bool" = none
  m_str : mg "str" = none
  m_tuple : mg "tuple" = none
  m_dict : mg "dict" = none
  m_sorted : mg "sorted" = none
  m_sum : mg "sum" = none
  m_repr : mg "repr" = none
  m_zip : mg "zip" = none
  m_enumerate : mg "enumerate" = none
  m_reversed : mg "reversed" = none

theorem dec_iff {p : Prop} [Decidable p] {A B : Prop} (h1 : p → A) (h2 : ¬ p → B) : if decide p = true then A else B := by
  by_cases h : p
  · rw [decide_eq_true h]
    exact iteT (h1 h)
  · rw [decide_eq_false h]
    exact iteF (h2 h)
theorem iteY {c : Bool} {A B : Prop} (hc : c = true) (h : A) : if c = true then A else B := by rw [if_pos hc]; exact h
theorem iteN {c : Bool} {A B : Prop} (hc : c = false) (h : B) : if c = true then A else B := by rw [hc, if_neg Bool.false_ne_true]; exact h
/-- b || c by its ways -/
theorem bool_iff {c : Bool} {A B : Prop} (h1 : c = true → A) (h2 : c = false → B) : if c = true then A else B := by
  cases c with
  | true => exact iteT (h1 rfl)
  | false => exact iteF (h2 rfl)

/-! ### the bag of a law: what is left of the script, and the numbers drawn from it -/
def BagAt (H : Hp) (b c : Addr) (ns : List Int) (i v s : Int) : Prop :=
  H b = some (.lst [.ref c, .int i, .int v, .int s]) ∧ H c = some (.lst (ns.map V.int)) ∧ 0 ≤ i ∧ 0 ≤ v ∧ 0 ≤ s
def Bag (H : Hp) (b : Addr) : Prop := ∃ c ns i v s, BagAt H b c ns i v s
theorem BagAt.ne {H : Hp} {b c : Addr} {ns : List Int} {i v s : Int} (h : BagAt H b c ns i v s) : c ≠ b := by
  rintro rfl
  have e := h.1.symm.trans h.2.1
  cases ns with
  | nil => cases e
  | cons n r =>
    have e2 := HO.lst.inj (Option.some.inj e)
    cases e2
theorem BagAt.put {H : Hp} {b c : Addr} {ns : List Int} {i v s i' v' s' : Int} (h : BagAt H b c ns i v s) (hi : 0 ≤ i') (hv : 0 ≤ v') (hs : 0 ≤ s') : BagAt (upd H b (.lst [.ref c, .int i', .int v', .int s'])) b c ns i' v' s' :=
  ⟨upd_same, by rw [upd_ne h.ne]; exact h.2.1, hi, hv, hs⟩
theorem BagAt.fr {S : List Addr} {H H' : Hp} {b c : Addr} {ns : List Int} {i v s : Int} (h : BagAt H b c ns i v s) (e : Fr S H H') (hb : b ∉ S) (hc : c ∉ S) : BagAt H' b c ns i v s :=
  ⟨e _ _ h.1 hb, e _ _ h.2.1 hc, h.2.2⟩
theorem Bag.fr {H H' : Hp} {b : Addr} (h : Bag H b) (e : Fr [] H H') : Bag H' b := by
  obtain ⟨c, ns, i, v, s, h⟩ := h
  exact ⟨c, ns, i, v, s, h.fr e (by simp) (by simp)⟩
theorem Bag.new {H : Hp} {b p : Addr} {o : HO} (h : Bag H b) (hp : H p = none) : Bag (upd H p o) b := h.fr ((Fr.refl [] H).new hp)
theorem Bag.some {H : Hp} {b : Addr} (h : Bag H b) : ∃ o, H b = Option.some o := by
  obtain ⟨c, ns, i, v, s, h⟩ := h
  exact ⟨_, h.1⟩
/-- the bag at b whose numbers stand at c -/
def BagC (H : Hp) (b c : Addr) : Prop := ∃ ns i v s, BagAt H b c ns i v s
theorem BagC.ne {H : Hp} {b c : Addr} (h : BagC H b c) : c ≠ b := by
  obtain ⟨ns, i, v, s, h⟩ := h
  exact h.ne
theorem BagC.fr {S : List Addr} {H H' : Hp} {b c : Addr} (h : BagC H b c) (e : Fr S H H') (hb : b ∉ S) (hc : c ∉ S) : BagC H' b c := by
  obtain ⟨ns, i, v, s, h⟩ := h
  exact ⟨ns, i, v, s, h.fr e hb hc⟩
theorem BagC.put {H : Hp} {b c p : Addr} {o : HO} (h : BagC H b c) (hb : p ≠ b) (hc : p ≠ c) : BagC (upd H p o) b c :=
  h.fr (S := [p]) ((Fr.refl _ H).put (.inl (by simp))) (by simpa using hb.symm) (by simpa using hc.symm)
theorem BagC.new {H : Hp} {b c p : Addr} {o : HO} (h : BagC H b c) (hp : H p = none) : BagC (upd H p o) b c := by
  obtain ⟨ns, i, v, s, h⟩ := h
  exact ⟨ns, i, v, s, h.fr ((Fr.refl [] H).new hp) (by simp) (by simp)⟩
theorem BagC.b {H : Hp} {b c : Addr} (h : BagC H b c) : ∃ i v s, H b = some (.lst [.ref c, .int i, .int v, .int s]) := by
  obtain ⟨ns, i, v, s, h⟩ := h
  exact ⟨_, _, _, h.1⟩
theorem BagC.neb {H : Hp} {b c p : Addr} (h : BagC H b c) (hp : H p = none) : p ≠ b := by
  obtain ⟨i, v, s, h⟩ := h.b
  exact (ne_of_none h hp).symm
theorem BagC.nec {H : Hp} {b c p : Addr} (h : BagC H b c) (hp : H p = none) : p ≠ c := by
  obtain ⟨ns, i, v, s, h⟩ := h
  exact (ne_of_none h.2.1 hp).symm
/-- _law_take(bag, many): some number below many; all but the bag stays -/
def spTake : Sp := fun vs H Q _ => ∃ (b c : Addr) (many : Int), vs = [.ref b, .int many] ∧ BagC H b c ∧ 0 < many ∧ many.natAbs.log2 < 9000 ∧
  ∀ (t : Int) (H' : Hp), 0 ≤ t → t < many → Fr [b] H H' → BagC H' b c → Q (.int t) H'
/-- _law_bag(script): a new bag -/
def spBag (K : PySem.W.Frag) : Sp := fun vs H Q _ => ∃ (a : Addr) (ns : List Int), vs = [.ref a] ∧ SqL K H a (ns.map V.int) ∧ ns.length ≤ 1000 ∧
  ∀ (b c : Addr) (H' : Hp), H b = none → H c = none → Fr [] H H' → BagC H' b c → Q (.ref b) H'
theorem log_ok {z : Int} (h : z.natAbs < 2 ^ 250) : z.natAbs.log2 < 9000 := by
  by_cases c : z.natAbs = 0
  · rw [c]
    decide
  · rw [Nat.log2_lt c]
    exact Nat.lt_of_lt_of_le h (Nat.pow_le_pow_right (by decide) (by decide))
end L2

namespace L2
open PySem PySem.Spec PyProof.Rows
theorem get_map_int {ns : List Int} {i : Nat} {y : V} (h : (ns.map V.int)[i]? = some y) : ∃ z, ns[i]? = some z ∧ y = V.int z := by
  rw [List.getElem?_map] at h
  cases e : ns[i]? with
  | none => rw [e] at h; cases h
  | some z => rw [e] at h; exact ⟨z, rfl, (Option.some.inj h).symm⟩
theorem get_mapf {α : Type} {f : α → V} {ns : List α} {i : Nat} {y : V} (h : (ns.map f)[i]? = some y) : ∃ z, ns[i]? = some z ∧ y = f z := by
  rw [List.getElem?_map] at h
  cases e : ns[i]? with
  | none => rw [e] at h; cases h
  | some z => rw [e] at h; exact ⟨z, rfl, (Option.some.inj h).symm⟩
theorem take_succ {α : Type} {ns : List α} {i : Nat} {z : α} (h : ns[i]? = some z) : ns.take (i + 1) = ns.take i ++ [z] := by
  rw [List.take_add_one, h]
  rfl
end L2

namespace L2
open PySem PySem.Spec PyProof.Rows
theorem for_rng {n : Nat} {g : TG} {tb : TS} {D : Ends} {σ : St} {H : Hp} (Pv : Nat → St → Hp → Prop) (h0 : Pv 0 σ H)
    (hs : ∀ i σ H, i < n → Pv i σ H → g (.int (i : Int)) σ H fun σ2 H2 => tb { D with nx := Pv (i + 1), ct := Pv (i + 1), bk := D.nx } σ2 H2) (hd : ∀ σ H, Pv n σ H → D.nx σ H) :
    ∃ W : Nat → Nat → St → Hp → Prop, (∃ m, W 0 m σ H) ∧ ∀ i m σ H, W i m σ H →
      ((Itr 0 n).stop i H ∧ D.nx σ H) ∨ ((Itr 0 n).go i H ∧ ∃ N : St → Hp → Prop, (∀ σ' H', N σ' H' → ∃ m', m' < m ∧ W (i + 1) m' σ' H') ∧ ∀ x H', (Itr 0 n).yld i H x H' → g x σ H' fun σ2 H2 => tb { D with nx := N, ct := N, bk := D.nx } σ2 H2) :=
  for_range Pv h0 (fun i σ H hi p => by rw [Int.zero_add]; exact hs i σ H hi p) hd
theorem lc_rng {n : Nat} {g : TG} {tt : TT} {te : TE} {vs : List Nat} {σ : St} {H1 : Hp} {D : Addr} {Qd : Hp → Prop} (Pv : Nat → Hp → Prop) (h0 : Pv 0 (upd H1 D (.lst [])))
    (hs : ∀ i H, i < n → Pv i H → g (.int (i : Int)) (wipe σ vs) H fun σ2 H2 => wipe σ2 vs = wipe σ vs ∧ tt σ2 H2 fun b H3 =>
      if b = true then te σ2 H3 fun y H4 => ∃ acc, H4 D = some (.lst acc) ∧ acc.length < sizeLine ∧ Pv (i + 1) (upd H4 D (.lst (acc ++ [y]))) else Pv (i + 1) H3) (hd : ∀ H, Pv n H → Qd H) :
    ∃ W : Nat → Nat → Hp → Prop, (∃ m, W 0 m (upd H1 D (.lst []))) ∧ ∀ i m H, W i m H →
      ((Itr 0 n).stop i H ∧ Qd H) ∨ ((Itr 0 n).go i H ∧ ∃ Nx : Hp → Prop, (∀ H', Nx H' → ∃ m', m' < m ∧ W (i + 1) m' H') ∧ ∀ x H', (Itr 0 n).yld i H x H' → g x (wipe σ vs) H' fun σ2 H2 => wipe σ2 vs = wipe σ vs ∧ tt σ2 H2 fun b H3 =>
        if b = true then te σ2 H3 fun y H4 => ∃ acc, H4 D = some (.lst acc) ∧ acc.length < sizeLine ∧ Nx (upd H4 D (.lst (acc ++ [y]))) else Nx H3) :=
  lc_range Pv h0 (fun i H hi p => by rw [Int.zero_add]; exact hs i H hi p) hd
/-- numbers that a range takes -/
theorem rg_ok {n : Nat} (h : n ≤ 100000000) : -(2 ^ 62) ≤ (n : Int) ∧ (n : Int) < 2 ^ 62 := by omega
theorem len_line {n : Nat} (h : n ≤ 100000) : n ≤ sizeLine := Nat.le_trans h (by decide)
theorem len_lt {n : Nat} (h : n < 100000) : n < sizeLine := Nat.lt_of_lt_of_le h (by decide)
/-- ends that nobody asks for -/
def noEnds : Ends := { nx := fun _ _ => False, rt := fun _ _ => False }
theorem rep_one {n : Nat} {v : V} : (List.replicate n [v]).flatten = List.replicate n v := by
  induction n with
  | zero => rfl
  | succ m ih =>
    rw [List.replicate_succ, List.flatten_cons, ih, List.replicate_succ]
    rfl
end L2

namespace L2
open PySem PySem.Spec PyProof.Rows
theorem while_m {c : TT} {tb : TS} {D : Ends} {σ : St} {H : Hp} (W : Nat → St → Hp → Prop) (m0 : Nat) (h0 : W m0 σ H)
    (hs : ∀ m σ H, W m σ H → c σ H fun b H1 => if b = true then tb { D with nx := fun σ' H' => ∃ m', m' < m ∧ W m' σ' H', ct := fun σ' H' => ∃ m', m' < m ∧ W m' σ' H', bk := D.nx } σ H1 else D.nx σ H1)
    (mono : ∀ σ H Q Q', (∀ b H1, Q b H1 → Q' b H1) → c σ H Q → c σ H Q') : tWhile c tb D σ H := by
  refine ⟨W, ⟨m0, h0⟩, fun m σ H p => mono σ H _ _ (fun b H1 q => ?_) (hs m σ H p)⟩
  cases b with
  | true => exact ⟨_, fun σ' H' h => h, q⟩
  | false => exact q
/-- while True -/
theorem while_true {tb : TS} {D : Ends} {σ : St} {H : Hp} (W : Nat → St → Hp → Prop) (m0 : Nat) (h0 : W m0 σ H)
    (hs : ∀ m σ H, W m σ H → tb { D with nx := fun σ' H' => ∃ m', m' < m ∧ W m' σ' H', ct := fun σ' H' => ∃ m', m' < m ∧ W m' σ' H', bk := D.nx } σ H) : tWhile (tB (tC (.bl true))) tb D σ H :=
  while_m W m0 h0 (fun m σ H p => ⟨true, rfl, iteT (hs m σ H p)⟩) fun σ H Q Q' h ⟨c, e, q⟩ => ⟨c, e, h _ _ q⟩
/-- the places of a list of numbers, as a dict -/
def kvsOf : List Int → Nat → List (Key × V)
  | [], _ => []
  | v :: r, i => (Sum.inl v, V.int (i : Int)) :: kvsOf r (i + 1)
theorem kvsOf_len : ∀ (l : List Int) (i : Nat), (kvsOf l i).length = l.length
  | [], _ => rfl
  | v :: r, i => by
    show (kvsOf r (i + 1)).length + 1 = r.length + 1
    rw [kvsOf_len r]
theorem kvsOf_snoc (v : Int) : ∀ (l : List Int) (i : Nat), kvsOf (l ++ [v]) i = kvsOf l i ++ [(Sum.inl v, V.int ((i + l.length : Nat) : Int))]
  | [], i => rfl
  | u :: r, i => by
    show (_ :: kvsOf (r ++ [v]) (i + 1)) = _ :: (kvsOf r (i + 1) ++ _)
    rw [kvsOf_snoc v r (i + 1)]
    have e : i + 1 + r.length = i + (u :: r).length := by
      rw [List.length_cons]
      omega
    rw [e]
theorem kvsOf_val (v : Int) : ∀ (l : List Int) (i : Nat), valV (kvsOf l i) (Sum.inl v : Key) = if v ∈ l then some (V.int ((i + l.idxOf v : Nat) : Int)) else none
  | [], i => rfl
  | u :: r, i => by
    have ih := kvsOf_val v r (i + 1)
    unfold valV at ih ⊢
    show ((_ :: kvsOf r (i + 1)).find? _).map _ = _
    rw [List.find?_cons]
    by_cases c : u = v
    · have d : decide ((Sum.inl u : Key) = Sum.inl v) = true := decide_eq_true (by rw [c])
      simp only [d]
      rw [if_pos (by rw [c]; exact List.mem_cons_self), c, List.idxOf_cons_self]
      rfl
    · have d : decide ((Sum.inl u : Key) = Sum.inl v) = false := decide_eq_false (fun e => c (Sum.inl.inj e))
      simp only [d]
      rw [ih]
      by_cases m : v ∈ r
      · rw [if_pos m, if_pos (List.mem_cons_of_mem _ m)]
        have ec : (u == v) = false := by simpa using c
        rw [List.idxOf_cons, ec]
        have e : i + 1 + r.idxOf v = i + (r.idxOf v + 1) := by omega
        rw [e]
        rfl
      · rw [if_neg m, if_neg]
        intro h
        rcases List.mem_cons.mp h with h | h
        · exact c h.symm
        · exact m h
theorem cut_drop (xs : List V) (i : Nat) (h : i ≤ xs.length) : cutV xs (some (i : Int)) none = xs.drop i := by
  unfold cutV
  have e1 : HT.sIx xs.length 0 (some (i : Int)) = i := by
    rw [HT.sIx_nat]
    omega
  have e2 : HT.sIx xs.length xs.length none = xs.length := rfl
  rw [e1, e2]
  exact List.take_of_length_le (by rw [List.length_drop]; exact Nat.le_refl _)
end L2

namespace L2
open PySem PySem.Spec PyProof.Rows
theorem nint {a b : Int} (h : (!decide (V.int a = V.int b)) = true) : a ≠ b := fun e => by
  rw [e] at h
  simp at h
theorem yint {a b : Int} (h : (!decide (V.int a = V.int b)) = false) : a = b := by
  have : decide (V.int a = V.int b) = true := by simpa using h
  exact V.int.inj (of_decide_eq_true this)
theorem ne_if {a b : Int} {A B : Prop} (h1 : a ≠ b → A) (h2 : a = b → B) : if (!decide (V.int a = V.int b)) = true then A else B := bool_iff (fun h => h1 (nint h)) fun h => h2 (yint h)
theorem eq_if {a b : Int} {A B : Prop} (h1 : a = b → A) (h2 : a ≠ b → B) : if decide (V.int a = V.int b) = true then A else B :=
  dec_iff (fun h => h1 (V.int.inj h)) fun h => h2 fun e => h (congrArg V.int e)
theorem not_if {p : Prop} [Decidable p] {A B : Prop} (h1 : ¬ p → A) (h2 : p → B) : if (!decide p) = true then A else B := by
  by_cases h : p
  · rw [decide_eq_true h]
    exact iteF (h2 h)
  · rw [decide_eq_false h]
    exact iteT (h1 h)
end L2

namespace L2
open PySem PySem.Spec PyProof.Rows
/-- min(t), t a tuple of two ints -/
def rMinT (K : PySem.W.Frag) : List V → Hp → VK → Prop := fun vs H Q => ∃ (a : Addr) (i j : Int), vs = [V.ref a] ∧ SqT K H a [.int i, .int j] ∧ Q (.int (if j < i then j else i)) H
theorem cr_minT {X : Cx} (hc : X.calm = true) (hu : X.A.units + 65 < cLine) : CallR X (.builtin "min") (rMinT X.K) := by
  intro pins s σ H vs us Q I r h
  obtain ⟨a, i, j, rfl, hs, q⟩ := h
  obtain ⟨its, rv, hl, _⟩ := I.tuple hs
  rw [Vals.ref1 r]
  obtain ⟨u1, u2, rfl, ⟨t1, rfl⟩, ⟨t2, rfl⟩⟩ := vals2 rv
  refine PySem.W.min_tuple_datum (α := Int) (x := i) (xs := [j]) (I.ok.hd hc) hl (PySem.W.HoldAll.cons (PySem.W.holds_int _ _) (PySem.W.HoldAll.cons (PySem.W.holds_int _ _) PySem.W.HoldAll.nil)) (by show X.A.units + 1 + 0 < cLine; omega) fun k v h' tk hk hv kp => ?_
  have J := I.kept (t' := tk) kp
  have hval : ∀ (n : Int) (t : Tok), v = .int n t → n = PySem.W.minOf i [j] := fun n t e => by
    subst e
    obtain ⟨as, rd⟩ := hv
    cases rd
    rfl
  have em : PySem.W.minOf i [j] = if j < i then j else i := by
    show (if PySem.W.DatumOrd.lt j i = true then j else i) = _
    by_cases c : j < i
    · rw [if_pos c, if_pos (by show decide (j < i) = true; exact decide_eq_true c)]
    · rw [if_neg c, if_neg (by show ¬ decide (j < i) = true; simpa using c)]
  obtain ⟨n, t, rfl⟩ : ∃ n t, v = Value.int n t := by
    match k, hk with
    | 0, hk => exact ⟨i, t1, (Option.some.inj hk).symm⟩
    | 1, hk => exact ⟨j, t2, (Option.some.inj hk).symm⟩
    | k + 2, hk => simp at hk
  have en := hval n t rfl
  rw [em] at en
  exact ⟨.int n, H, J, ⟨t, rfl⟩, by rw [en]; exact q⟩
end L2

namespace L2
open PySem PySem.Spec PyProof.Rows
/-! ### data: lists of ints, pairs of ints, lists of pairs -/
def dInts (xs : List Int) : PyData := .list (xs.map PyData.int)
def dPr (p : Int × Int) : PyData := .tuple [.int p.1, .int p.2]
def dPrs (ps : List (Int × Int)) : PyData := .list (ps.map dPr)
theorem dpa_ints {K : PySem.W.Frag} {H : Hp} : ∀ xs : List Int, DpAll K H (xs.map V.int) (xs.map PyData.int)
  | [] => .nil
  | x :: xs => .cons (.int x) (dpa_ints xs)
theorem dp_ints {K : PySem.W.Frag} {H : Hp} {a : Addr} {xs : List Int} (h : SqL K H a (xs.map V.int)) : Dp K H (.ref a) (dInts xs) := .lst h (dpa_ints xs)
theorem dp_pr {K : PySem.W.Frag} {H : Hp} {t : Addr} {p : Int × Int} (h : SqT K H t [.int p.1, .int p.2]) : Dp K H (.ref t) (dPr p) := .tup h (.cons (.int _) (.cons (.int _) .nil))
theorem dpa_prs {K : PySem.W.Frag} {H : Hp} : ∀ (ts : List Addr) (ps : List (Int × Int)), ts.length = ps.length → (∀ (k : Nat) (t : Addr) (p : Int × Int), ts[k]? = some t → ps[k]? = some p → SqT K H t [.int p.1, .int p.2]) → DpAll K H (ts.map V.ref) (ps.map dPr)
  | [], [], _, _ => .nil
  | t :: ts, p :: ps, hl, h => .cons (dp_pr (h 0 t p rfl rfl)) (dpa_prs ts ps (by simpa using hl) fun k t' p' a b => h (k + 1) t' p' a b)
  | [], _ :: _, hl, _ => by simp at hl
  | _ :: _, [], hl, _ => by simp at hl
theorem ints_lay : ∀ xs : List Int, PyData.canLayAll0 (xs.map PyData.int) = true
  | [] => by simp [PyData.canLayAll0]
  | x :: xs => by simp [PyData.canLayAll0, PyData.canLay0, ints_lay xs]
theorem ints_depth : ∀ xs : List Int, PyData.depthAll (xs.map PyData.int) ≤ 1
  | [] => by simp [PyData.depthAll]
  | x :: xs => by
    have := ints_depth xs
    simp only [List.map_cons, PyData.depthAll, PyData.depth]
    omega
theorem prs_lay : ∀ ps : List (Int × Int), PyData.canLayAll0 (ps.map dPr) = true
  | [] => by simp [PyData.canLayAll0]
  | p :: ps => by simp [PyData.canLayAll0, PyData.canLay0, dPr, prs_lay ps]
theorem pr_depth (p : Int × Int) : (dPr p).depth ≤ 2 := by simp [dPr, PyData.depth, PyData.depthAll]
theorem prs_depth : ∀ ps : List (Int × Int), PyData.depthAll (ps.map dPr) ≤ 2
  | [] => by simp [PyData.depthAll]
  | p :: ps => by
    have h1 := prs_depth ps
    have h2 := pr_depth p
    simp only [List.map_cons, PyData.depthAll]
    omega
theorem shaped_of {d : PyData} (h : d.canLay0 = true) (h2 : d.depth ≤ 64) : SeqAt.shaped d = true := by
  show (d.canLay0 && decide (d.depth ≤ 64)) = true
  rw [h, decide_eq_true h2]
  rfl
theorem ints_shaped (xs : List Int) : SeqAt.shaped (dInts xs) = true := shaped_of (by simp only [dInts, PyData.canLay0]; exact ints_lay xs) (by have := ints_depth xs; simp only [dInts, PyData.depth]; omega)
theorem pr_shaped (p : Int × Int) : SeqAt.shaped (dPr p) = true := shaped_of (by simp [dPr, PyData.canLay0, PyData.canLayAll0]) (by have := pr_depth p; omega)
theorem prs_shaped (ps : List (Int × Int)) : SeqAt.shaped (dPrs ps) = true := shaped_of (by simp only [dPrs, PyData.canLay0]; exact prs_lay ps) (by have := prs_depth ps; simp only [dPrs, PyData.depth]; omega)
theorem ints_eqvA : ∀ xs : List Int, PyData.eqvAll (xs.map PyData.int) (xs.map PyData.int) = true
  | [] => by simp [PyData.eqvAll]
  | x :: xs => by simp [PyData.eqvAll, PyData.eqv, ints_eqvA xs]
theorem ints_eqv (xs : List Int) : PyData.eqv (dInts xs) (dInts xs) = true := by simp only [dInts, PyData.eqv]; exact ints_eqvA xs
theorem pr_eqv (p q : Int × Int) : PyData.eqv (dPr p) (dPr q) = decide (p = q) := by
  obtain ⟨a, b⟩ := p
  obtain ⟨c, d⟩ := q
  have e : PyData.eqv (dPr (a, b)) (dPr (c, d)) = ((a == c) && ((b == d) && true)) := by simp only [dPr, PyData.eqv, PyData.eqvAll]
  rw [e]
  by_cases h1 : a = c
  · by_cases h2 : b = d
    · subst h1 h2
      simp
    · simp [h2]
  · simp [h1]
theorem prs_eqvA : ∀ ps : List (Int × Int), PyData.eqvAll (ps.map dPr) (ps.map dPr) = true
  | [] => by simp [PyData.eqvAll]
  | p :: ps => by
    simp only [List.map_cons, PyData.eqvAll, prs_eqvA ps, pr_eqv]
    simp
theorem prs_eqv (ps : List (Int × Int)) : PyData.eqv (dPrs ps) (dPrs ps) = true := by simp only [dPrs, PyData.eqv]; exact prs_eqvA ps
theorem any_pr (ps : List (Int × Int)) (p : Int × Int) : ((ps.map dPr).any fun z => PyData.eqv z (dPr p)) = decide (p ∈ ps) := by
  induction ps with
  | nil => rfl
  | cons q ps ih =>
    rw [List.map_cons, List.any_cons, ih, pr_eqv]
    by_cases c : q = p
    · subst c; simp
    · simp [c, Ne.symm c]
end L2

/-! # Networks: what is carried, rounds of fractional arcs, rounding. Plain Lean -/
namespace Cir

abbrev Arc := Int × Int
def Good (n : Int) (p : Arc) : Prop := (0 ≤ p.1 ∧ p.1 < n) ∧ (0 ≤ p.2 ∧ p.2 < n) ∧ p.1 ≠ p.2
instance (n : Int) (p : Arc) : Decidable (Good n p) := by unfold Good; infer_instance
def ind (a v : Int) : Int := if a = v then 1 else 0
def dlt (p : Arc) (v : Int) : Int := ind p.2 v - ind p.1 v
def net : List Arc → List Int → Int → Int
  | p :: as, x :: xs, v => x * dlt p v + net as xs v
  | _, _, _ => 0
def arcOf (arcs : List Arc) (k : Nat) : Arc := arcs.getD k (0, 0)
def part (xs : List Int) (k : Nat) : Int := xs.getD k 0

theorem net_snoc : ∀ (as : List Arc) (xs : List Int) (p : Arc) (x v : Int), as.length = xs.length → net (as ++ [p]) (xs ++ [x]) v = net as xs v + x * dlt p v
  | [], [], p, x, v, _ => by simp [net]
  | q :: as, y :: xs, p, x, v, h => by
    have ih := net_snoc as xs p x v (by simpa using h)
    simp only [List.cons_append, net, ih]
    omega
  | [], _ :: _, _, _, _, h => by simp at h
  | _ :: _, [], _, _, _, h => by simp at h
theorem net_set : ∀ (as : List Arc) (xs : List Int) (k : Nat) (y v : Int), as.length = xs.length → k < xs.length → net as (xs.set k y) v = net as xs v + (y - part xs k) * dlt (arcOf as k) v
  | [], [], k, y, v, _, h => by simp at h
  | p :: as, x :: xs, 0, y, v, _, _ => by
    have e1 : part (x :: xs) 0 = x := rfl
    have e2 : arcOf (p :: as) 0 = p := rfl
    rw [List.set_cons_zero, e1, e2]
    simp only [net, Int.sub_mul]
    omega
  | p :: as, x :: xs, k + 1, y, v, hl, h => by
    have ih := net_set as xs k y v (by simpa using hl) (by simpa using h)
    have e1 : part (x :: xs) (k + 1) = part xs k := rfl
    have e2 : arcOf (p :: as) (k + 1) = arcOf as k := rfl
    rw [List.set_cons_succ, e1, e2]
    simp only [net, ih]
    omega
  | [], _ :: _, _, _, _, h, _ => by simp at h
  | _ :: _, [], _, _, _, h, _ => by simp at h
theorem part_get {xs : List Int} {k : Nat} {x : Int} (h : xs[k]? = some x) : part xs k = x := by
  unfold part
  rw [List.getD_eq_getElem?_getD, h]
  rfl
theorem arc_get {xs : List Arc} {k : Nat} {x : Arc} (h : xs[k]? = some x) : arcOf xs k = x := by
  unfold arcOf
  rw [List.getD_eq_getElem?_getD, h]
  rfl
theorem get_part {xs : List Int} {k : Nat} (h : k < xs.length) : xs[k]? = some (part xs k) := by
  rw [List.getElem?_eq_getElem h, part_get (List.getElem?_eq_getElem h)]
theorem get_arc {xs : List Arc} {k : Nat} (h : k < xs.length) : xs[k]? = some (arcOf xs k) := by
  rw [List.getElem?_eq_getElem h, arc_get (List.getElem?_eq_getElem h)]
theorem part_set_same {xs : List Int} {k : Nat} {y : Int} (h : k < xs.length) : part (xs.set k y) k = y := part_get (by rw [List.getElem?_set_self h])
theorem part_set_ne {xs : List Int} {k j : Nat} {y : Int} (h : k ≠ j) : part (xs.set k y) j = part xs j := by
  unfold part
  rw [List.getD_eq_getElem?_getD, List.getD_eq_getElem?_getD, List.getElem?_set_ne h]

/-! ### what enters each node -/
def spareL (n : Nat) (as : List Arc) (xs : List Int) : List Int := (List.range n).map fun (v : Nat) => net as xs (v : Int)
theorem spareL_len (n : Nat) (as : List Arc) (xs : List Int) : (spareL n as xs).length = n := by simp [spareL]
theorem spareL_get {n : Nat} {as : List Arc} {xs : List Int} {i : Int} (h0 : 0 ≤ i) (h : i < n) : (spareL n as xs)[i.toNat]? = some (net as xs i) := by
  unfold spareL
  rw [List.getElem?_map, List.getElem?_range (by omega)]
  simp only [Option.map_some]
  rw [Int.toNat_of_nonneg h0]
theorem spareL_zero (n : Nat) : spareL n [] [] = List.replicate n 0 := by
  apply List.ext_getElem?
  intro i
  unfold spareL
  by_cases h : i < n
  · rw [List.getElem?_map, List.getElem?_range h, List.getElem?_replicate, if_pos h]
    rfl
  · rw [List.getElem?_eq_none (by simp; omega), List.getElem?_eq_none (by simp; omega)]
theorem spare_step {n : Nat} {as : List Arc} {xs : List Int} {p : Arc} {x : Int} (hl : as.length = xs.length) (hg : Good n p) :
    ((spareL n as xs).set p.1.toNat (net as xs p.1 - x)).set p.2.toNat (net as xs p.2 + x) = spareL n (as ++ [p]) (xs ++ [x]) := by
  obtain ⟨⟨h1, h2⟩, ⟨h3, h4⟩, h5⟩ := hg
  apply List.ext_getElem?
  intro i
  by_cases hi : i < n
  · have e : (spareL n (as ++ [p]) (xs ++ [x]))[i]? = some (net as xs i + x * dlt p i) := by
      have := spareL_get (n := n) (as := as ++ [p]) (xs := xs ++ [x]) (i := (i : Int)) (by omega) (by omega)
      rw [Int.toNat_natCast] at this
      rw [this, net_snoc _ _ _ _ _ hl]
    have e0 : (spareL n as xs)[i]? = some (net as xs i) := by
      have := spareL_get (n := n) (as := as) (xs := xs) (i := (i : Int)) (by omega) (by omega)
      rwa [Int.toNat_natCast] at this
    rw [e]
    by_cases c2 : p.2.toNat = i
    · have c3 : (i : Int) = p.2 := by omega
      rw [c2, List.getElem?_set_self (by rw [List.length_set, spareL_len]; omega), c3]
      have e1 : dlt p p.2 = 1 := by
        unfold dlt ind
        rw [if_pos rfl, if_neg h5]
        rfl
      rw [e1, Int.mul_one]
    · rw [List.getElem?_set_ne c2]
      have c3 : p.2 ≠ i := by omega
      by_cases c1 : p.1.toNat = i
      · have c5 : (i : Int) = p.1 := by omega
        rw [c1, List.getElem?_set_self (by rw [spareL_len]; omega), c5]
        have e1 : dlt p p.1 = -1 := by
          unfold dlt ind
          rw [if_pos rfl, if_neg (Ne.symm h5)]
          rfl
        rw [e1]
        congr 1
        omega
      · have c5 : p.1 ≠ i := by omega
        rw [List.getElem?_set_ne c1, e0]
        simp [dlt, ind, if_neg c3, if_neg c5]
  · rw [List.getElem?_eq_none (by simp [spareL_len]; omega), List.getElem?_eq_none (by rw [spareL_len]; omega)]

/-! ### the arcs that touch a node -/
def touch (p : Arc) (v : Int) : Bool := decide (p.1 = v) || decide (p.2 = v)
def nearI (arcs : List Arc) (i : Nat) (v : Int) : List Nat := (List.range i).filter fun k => touch (arcOf arcs k) v
def nearOf (arcs : List Arc) (v : Int) : List Nat := nearI arcs arcs.length v
theorem nearI_succ (arcs : List Arc) (i : Nat) (v : Int) : nearI arcs (i + 1) v = nearI arcs i v ++ (if touch (arcOf arcs i) v then [i] else []) := by
  unfold nearI
  rw [List.range_succ, List.filter_append]
  congr 1
  by_cases h : touch (arcOf arcs i) v = true
  · rw [List.filter_cons, if_pos h, if_pos h]; rfl
  · rw [List.filter_cons, if_neg h, if_neg h]; rfl
theorem mem_near {arcs : List Arc} {v : Int} {k : Nat} : k ∈ nearOf arcs v ↔ k < arcs.length ∧ touch (arcOf arcs k) v = true := by
  unfold nearOf nearI
  rw [List.mem_filter, List.mem_range]
theorem nearI_len (arcs : List Arc) (i : Nat) (v : Int) : (nearI arcs i v).length ≤ i := by
  unfold nearI
  exact Nat.le_trans (List.length_filter_le _ _) (by simp)

/-! ### a round of fractional arcs -/
def frac (p : List Int) (d : Int) (k : Nat) : Bool := decide (part p k % d ≠ 0)
def other (row : List Nat) (p : List Int) (d : Int) (came : Nat) : Nat := (row.find? fun k => decide (k ≠ came) && frac p d k).getD came
def stepN (arcs : List Arc) (arc : Nat) (node : Int) : Int × Int := if (arcOf arcs arc).1 = node then ((arcOf arcs arc).2, 1) else ((arcOf arcs arc).1, -1)
def fround (arcs : List Arc) (p : List Int) (d : Int) : Nat → List Int → List (Nat × Int) → Int → Nat → List (Nat × Int)
  | 0, _, _, _, _ => []
  | f + 1, vs, path, node, arc =>
    if (stepN arcs arc node).1 ∈ vs then (path ++ [(arc, (stepN arcs arc node).2)]).drop (vs.idxOf (stepN arcs arc node).1)
    else fround arcs p d f (vs ++ [(stepN arcs arc node).1]) (path ++ [(arc, (stepN arcs arc node).2)]) (stepN arcs arc node).1 (other (nearOf arcs (stepN arcs arc node).1) p d arc)
def roundOf (n : Nat) (arcs : List Arc) (p : List Int) (d : Int) (start : Nat) : List (Nat × Int) := fround arcs p d (n + 1) [(arcOf arcs start).1] [] (arcOf arcs start).1 start

/-- the arc a, passed in the way w, leads from u to v -/
def Ste (arcs : List Arc) (a : Nat) (w u v : Int) : Prop := (w = 1 ∧ (arcOf arcs a).1 = u ∧ (arcOf arcs a).2 = v) ∨ (w = -1 ∧ (arcOf arcs a).2 = u ∧ (arcOf arcs a).1 = v)
def Wk (arcs : List Arc) : List Int → List (Nat × Int) → Prop
  | [_], [] => True
  | u :: v :: us, q :: path => Ste arcs q.1 q.2 u v ∧ Wk arcs (v :: us) path
  | _, _ => False
theorem Wk.snoc {arcs : List Arc} : ∀ {us : List Int} {path : List (Nat × Int)} {a : Nat} {w u v : Int}, Wk arcs us path → us.getLast? = some u → Ste arcs a w u v → Wk arcs (us ++ [v]) (path ++ [(a, w)])
  | [x], [], a, w, u, v, _, hu, hs => by
    simp at hu
    subst hu
    exact ⟨hs, trivial⟩
  | x :: y :: us, q :: path, a, w, u, v, h, hu, hs => by
    obtain ⟨h1, h2⟩ := h
    refine ⟨h1, ?_⟩
    exact Wk.snoc (us := y :: us) h2 (by rw [List.getLast?_cons_cons] at hu; exact hu) hs
  | [], _, _, _, _, _, h, _, _ => by simp [Wk] at h
  | [x], _ :: _, _, _, _, _, h, _, _ => by simp [Wk] at h
  | _ :: _ :: _, [], _, _, _, _, h, _, _ => by simp [Wk] at h
theorem Wk.len {arcs : List Arc} : ∀ {us : List Int} {path : List (Nat × Int)}, Wk arcs us path → us.length = path.length + 1
  | [_], [], _ => rfl
  | u :: v :: us, q :: path, h => by
    have := Wk.len (us := v :: us) h.2
    simp only [List.length_cons] at this ⊢
    omega
  | [], _, h => by simp [Wk] at h
  | [_], _ :: _, h => by simp [Wk] at h
  | _ :: _ :: _, [], h => by simp [Wk] at h
theorem Wk.drop {arcs : List Arc} : ∀ {us : List Int} {path : List (Nat × Int)} (i : Nat), Wk arcs us path → i ≤ path.length → Wk arcs (us.drop i) (path.drop i)
  | us, path, 0, h, _ => by simpa using h
  | u :: v :: us, q :: path, i + 1, h, hi => by
    have := Wk.drop (us := v :: us) i h.2 (by simpa using hi)
    simpa using this
  | [], _, _ + 1, h, _ => by simp [Wk] at h
  | [_], [], _ + 1, _, hi => by simp at hi
  | [_], _ :: _, _ + 1, h, _ => by simp [Wk] at h
  | _ :: _ :: _, [], _ + 1, h, _ => by simp [Wk] at h
theorem Wk.get {arcs : List Arc} : ∀ {us : List Int} {path : List (Nat × Int)} {i : Nat} {q : Nat × Int}, Wk arcs us path → path[i]? = some q → ∃ u v, us[i]? = some u ∧ us[i + 1]? = some v ∧ Ste arcs q.1 q.2 u v
  | u :: v :: us, q :: path, 0, q', h, hq => by
    simp at hq
    subst hq
    exact ⟨u, v, rfl, rfl, h.1⟩
  | u :: v :: us, q :: path, i + 1, q', h, hq => by
    obtain ⟨a, b, h1, h2, h3⟩ := Wk.get (us := v :: us) (i := i) (q := q') h.2 (by simpa using hq)
    exact ⟨a, b, by simpa using h1, by simpa using h2, h3⟩
  | [], _, _, _, h, _ => by simp [Wk] at h
  | [_], [], _, _, _, hq => by simp at hq
  | [_], _ :: _, _, _, h, _ => by simp [Wk] at h
  | _ :: _ :: _, [], _, _, h, _ => by simp [Wk] at h
def fsum (arcs : List Arc) : List (Nat × Int) → Int → Int
  | [], _ => 0
  | q :: r, v => q.2 * dlt (arcOf arcs q.1) v + fsum arcs r v
theorem Ste.sum {arcs : List Arc} {a : Nat} {w u v : Int} (h : Ste arcs a w u v) (x : Int) : w * dlt (arcOf arcs a) x = ind v x - ind u x := by
  unfold dlt
  rcases h with ⟨rfl, h1, h2⟩ | ⟨rfl, h1, h2⟩
  · rw [h1, h2]; omega
  · rw [h1, h2]; omega
theorem Wk.sum {arcs : List Arc} : ∀ {u : Int} {us : List Int} {path : List (Nat × Int)} {l : Int}, Wk arcs (u :: us) path → (u :: us).getLast? = some l → ∀ x, fsum arcs path x = ind l x - ind u x
  | u, [], [], l, _, hl, x => by
    simp at hl
    subst hl
    simp [fsum]
  | u, v :: us, q :: path, l, h, hl, x => by
    have ih := Wk.sum (u := v) (us := us) h.2 (by rw [List.getLast?_cons_cons] at hl; exact hl) x
    simp only [fsum, ih, Ste.sum h.1 x]
    omega
  | _, [], _ :: _, _, h, _, _ => by simp [Wk] at h
  | _, _ :: _, [], _, h, _, _ => by simp [Wk] at h

/-! ### a round is found -/
theorem nodup_le : ∀ (n : Nat) (l : List Int), l.Nodup → (∀ v ∈ l, 0 ≤ v ∧ v < n) → l.length ≤ n
  | 0, [], _, _ => Nat.le_refl _
  | 0, v :: l, _, h => by
    have := h v List.mem_cons_self
    omega
  | n + 1, l, nd, h => by
    have ih := nodup_le n (l.erase (n : Int)) (nd.erase _) fun v hv => by
      have h1 := h v (List.mem_of_mem_erase hv)
      have h2 : v ≠ n := (nd.mem_erase_iff.mp hv).1
      omega
    have := List.length_erase (a := (n : Int)) (l := l)
    split at this <;> omega
theorem touch_dlt {n : Int} {p : Arc} {v : Int} (hg : Good n p) (h : touch p v = true) : dlt p v = 1 ∨ dlt p v = -1 := by
  unfold touch at h
  unfold dlt ind
  have h5 := hg.2.2
  by_cases c1 : p.1 = v
  · have c2 : p.2 ≠ v := fun e => h5 (c1.trans e.symm)
    rw [if_pos c1, if_neg c2]; omega
  · have c2 : p.2 = v := by simpa [c1] using h
    rw [if_neg c1, if_pos c2]; omega
theorem untouch_dlt {p : Arc} {v : Int} (h : touch p v = false) : dlt p v = 0 := by
  unfold touch at h
  simp only [Bool.or_eq_false_iff, decide_eq_false_iff_not] at h
  unfold dlt ind
  rw [if_neg h.1, if_neg h.2]; rfl
/-- all but the arc a are whole or away from v: the rest is a's -/
theorem net_mod (d v : Int) : ∀ (as : List Arc) (xs : List Int) (a : Nat), as.length = xs.length → a < xs.length →
    (∀ k, k < xs.length → k ≠ a → dlt (arcOf as k) v = 0 ∨ part xs k % d = 0) → ∃ c, net as xs v = c * d + part xs a * dlt (arcOf as a) v
  | [], [], a, _, h, _ => by simp at h
  | p :: as, x :: xs, 0, hl, _, h => by
    have e1 : part (x :: xs) 0 = x := rfl
    have e2 : arcOf (p :: as) 0 = p := rfl
    have all : ∀ (as : List Arc) (xs : List Int), as.length = xs.length → (∀ k, k < xs.length → dlt (arcOf as k) v = 0 ∨ part xs k % d = 0) → ∃ c, net as xs v = c * d := by
      intro as
      induction as with
      | nil =>
        intro xs hl _
        cases xs with
        | nil => exact ⟨0, by simp [net]⟩
        | cons _ _ => simp at hl
      | cons q as ih =>
        intro xs hl h
        cases xs with
        | nil => simp at hl
        | cons y xs =>
          obtain ⟨c, hc⟩ := ih xs (by simpa using hl) fun k hk => h (k + 1) (by simpa using hk)
          rcases h 0 (by simp) with z | z
          · have z' : dlt q v = 0 := z
            exact ⟨c, by simp only [net, z', hc]; omega⟩
          · have z' : y % d = 0 := z
            obtain ⟨e, he⟩ := Int.dvd_of_emod_eq_zero z'
            refine ⟨c + e * dlt q v, ?_⟩
            simp only [net, hc, he, Int.add_mul]
            rw [Int.mul_assoc, Int.mul_comm d, Int.add_comm]
    obtain ⟨c, hc⟩ := all as xs (by simpa using hl) fun k hk => h (k + 1) (by simpa using hk) (by omega)
    refine ⟨c, ?_⟩
    rw [e1, e2]
    simp only [net, hc]
    omega
  | p :: as, x :: xs, a + 1, hl, ha, h => by
    obtain ⟨c, hc⟩ := net_mod d v as xs a (by simpa using hl) (by simpa using ha) fun k hk hne => h (k + 1) (by simpa using hk) (by omega)
    have e1 : part (x :: xs) (a + 1) = part xs a := rfl
    have e2 : arcOf (p :: as) (a + 1) = arcOf as a := rfl
    rw [e1, e2]
    rcases h 0 (by simp) (by omega) with z | z
    · have z' : dlt p v = 0 := z
      exact ⟨c, by simp only [net, z', hc]; omega⟩
    · have z' : x % d = 0 := z
      obtain ⟨e, he⟩ := Int.dvd_of_emod_eq_zero z'
      refine ⟨c + e * dlt p v, ?_⟩
      simp only [net, hc, he, Int.add_mul]
      rw [Int.mul_assoc d, Int.mul_comm d]
      omega
  | [], _ :: _, _, h, _, _ => by simp at h
  | _ :: _, [], _, h, _, _ => by simp at h
theorem bal_other {n : Int} {arcs : List Arc} {p : List Int} {d v : Int} {a : Nat} (hl : arcs.length = p.length) (hg : ∀ k, k < arcs.length → Good n (arcOf arcs k)) (hb : net arcs p v % d = 0)
    (ha : a < arcs.length) (hf : frac p d a = true) (ht : touch (arcOf arcs a) v = true) : ∃ k, k ∈ nearOf arcs v ∧ k ≠ a ∧ frac p d k = true := by
  refine Classical.byContradiction fun no => ?_
  have h : ∀ k, k < p.length → k ≠ a → dlt (arcOf arcs k) v = 0 ∨ part p k % d = 0 := fun k hk hne => by
    by_cases c : touch (arcOf arcs k) v = true
    · right
      refine Classical.byContradiction fun z => no ⟨k, mem_near.mpr ⟨by omega, c⟩, hne, ?_⟩
      unfold frac
      exact decide_eq_true z
    · left
      exact untouch_dlt (by simpa using c)
  obtain ⟨c, hc⟩ := net_mod d v arcs p a hl (by omega) h
  have hf' : part p a % d ≠ 0 := of_decide_eq_true hf
  rw [hc, Int.add_comm, Int.add_mul_emod_self_right] at hb
  rcases touch_dlt (hg a ha) ht with z | z
  · rw [z, Int.mul_one] at hb
    exact hf' hb
  · rw [z, Int.mul_neg, Int.mul_one] at hb
    exact hf' (Int.emod_eq_zero_of_dvd ((Int.dvd_neg).mp (Int.dvd_of_emod_eq_zero hb)))
theorem other_ok {row : List Nat} {p : List Int} {d : Int} {came : Nat} (h : ∃ k, k ∈ row ∧ k ≠ came ∧ frac p d k = true) :
    other row p d came ∈ row ∧ other row p d came ≠ came ∧ frac p d (other row p d came) = true := by
  unfold other
  cases e : row.find? fun k => decide (k ≠ came) && frac p d k with
  | none =>
    obtain ⟨k, h1, h2, h3⟩ := h
    have := List.find?_eq_none.mp e k h1
    simp [h2, h3] at this
  | some k =>
    have h1 := List.find?_some e
    have h2 := List.mem_of_find?_eq_some e
    simp only [Bool.and_eq_true, decide_eq_true_eq] at h1
    exact ⟨h2, h1.1, h1.2⟩

structure St0 (n : Nat) (arcs : List Arc) (p : List Int) (d : Int) (vs : List Int) (path : List (Nat × Int)) (node : Int) (arc : Nat) : Prop where
  wk : Wk arcs vs path
  nd : vs.Nodup
  last : vs.getLast? = some node
  rng : ∀ v ∈ vs, 0 ≤ v ∧ v < n
  ar : arc < arcs.length ∧ frac p d arc = true ∧ touch (arcOf arcs arc) node = true
  old : ∀ q ∈ path, q.1 < arcs.length ∧ frac p d q.1 = true ∧ (q.2 = 1 ∨ q.2 = -1)
  cons : ∀ i q q', path[i]? = some q → path[i + 1]? = some q' → q.1 ≠ q'.1
  lastne : ∀ q, path.getLast? = some q → q.1 ≠ arc
structure Rnd (arcs : List Arc) (p : List Int) (d : Int) (found : List (Nat × Int)) : Prop where
  ne : found ≠ []
  ok : ∀ q ∈ found, q.1 < arcs.length ∧ frac p d q.1 = true ∧ (q.2 = 1 ∨ q.2 = -1)
  nd : (found.map (·.1)).Nodup
  bal : ∀ v, fsum arcs found v = 0
theorem stepN_ste {arcs : List Arc} {arc : Nat} {node : Int} (h : touch (arcOf arcs arc) node = true) : Ste arcs arc (stepN arcs arc node).2 node (stepN arcs arc node).1 ∧ ((stepN arcs arc node).2 = 1 ∨ (stepN arcs arc node).2 = -1) := by
  unfold touch at h
  unfold stepN
  by_cases c : (arcOf arcs arc).1 = node
  · rw [if_pos c]
    exact ⟨.inl ⟨rfl, c, rfl⟩, .inl rfl⟩
  · rw [if_neg c]
    exact ⟨.inr ⟨rfl, by simpa [c] using h, rfl⟩, .inr rfl⟩
theorem Ste.far {n : Int} {arcs : List Arc} {a : Nat} {w u v : Int} (hg : Good n (arcOf arcs a)) (h : Ste arcs a w u v) : (0 ≤ v ∧ v < n) ∧ touch (arcOf arcs a) v = true := by
  unfold touch
  rcases h with ⟨_, h1, h2⟩ | ⟨_, h1, h2⟩
  · refine ⟨by rw [← h2]; exact hg.2.1, ?_⟩
    simp [h2]
  · refine ⟨by rw [← h2]; exact hg.1, ?_⟩
    simp [h2]
theorem getElem?_snoc_last {α : Type} {l : List α} {x y : α} {i : Nat} (h : (l ++ [x])[i]? = some y) : (i < l.length ∧ l[i]? = some y) ∨ (i = l.length ∧ y = x) := by
  by_cases c : i < l.length
  · rw [List.getElem?_append_left c] at h
    exact .inl ⟨c, h⟩
  · rw [List.getElem?_append_right (by omega)] at h
    have : i - l.length = 0 := by
      by_cases z : i - l.length = 0
      · exact z
      · rw [List.getElem?_eq_none (by simp; omega)] at h
        cases h
    rw [this] at h
    exact .inr ⟨by omega, by simpa using h.symm⟩
theorem cons_snoc {n : Nat} {arcs : List Arc} {p : List Int} {d : Int} {vs : List Int} {path : List (Nat × Int)} {node : Int} {arc : Nat} {w : Int} (S : St0 n arcs p d vs path node arc) :
    ∀ i q q', (path ++ [(arc, w)])[i]? = some q → (path ++ [(arc, w)])[i + 1]? = some q' → q.1 ≠ q'.1 := by
  intro i q q' h1 h2
  rcases getElem?_snoc_last h2 with ⟨c2, h2⟩ | ⟨c2, rfl⟩
  · rcases getElem?_snoc_last h1 with ⟨c1, h1⟩ | ⟨c1, _⟩
    · exact S.cons i q q' h1 h2
    · omega
  · rcases getElem?_snoc_last h1 with ⟨c1, h1⟩ | ⟨c1, _⟩
    · refine S.lastne q ?_
      rw [List.getLast?_eq_getElem?, ← h1]
      congr 1
      omega
    · omega
theorem rnd_of {n : Nat} {arcs : List Arc} {p : List Int} {d : Int} {vs : List Int} {path : List (Nat × Int)} {node : Int} {arc : Nat} (hg : ∀ k, k < arcs.length → Good n (arcOf arcs k)) (S : St0 n arcs p d vs path node arc)
    (hin : (stepN arcs arc node).1 ∈ vs) : Rnd arcs p d ((path ++ [(arc, (stepN arcs arc node).2)]).drop (vs.idxOf (stepN arcs arc node).1)) := by
  obtain ⟨hs, hw⟩ := stepN_ste S.ar.2.2
  have wk2 := S.wk.snoc S.last hs
  revert hin hs hw wk2
  generalize (stepN arcs arc node).1 = v
  generalize (stepN arcs arc node).2 = w
  intro hin hs hw wk2
  have hlen := S.wk.len
  have hi : vs.idxOf v < vs.length := List.idxOf_lt_length_of_mem hin
  have hget : vs[vs.idxOf v]? = some v := by rw [List.getElem?_eq_getElem hi, List.getElem_idxOf hi]
  have cs := cons_snoc (w := w) S
  revert hi hget
  generalize vs.idxOf v = i0
  intro hi hget
  have wk3 := wk2.drop i0 (by simp; omega)
  have old2 : ∀ q ∈ path ++ [(arc, w)], q.1 < arcs.length ∧ frac p d q.1 = true ∧ (q.2 = 1 ∨ q.2 = -1) := fun q hq => by
    rcases List.mem_append.mp hq with hq | hq
    · exact S.old q hq
    · rw [List.mem_singleton] at hq
      subst hq
      exact ⟨S.ar.1, S.ar.2.1, hw⟩
  refine ⟨fun e => ?_, fun q hq => old2 q (List.mem_of_mem_drop hq), ?_, fun x => ?_⟩
  · have := congrArg List.length e
    simp at this
    omega
  · rw [List.nodup_iff_pairwise_ne, List.pairwise_iff_getElem]
    intro i j hi2 hj2 hij e
    rw [List.length_map, List.length_drop, List.length_append] at hi2 hj2
    simp only [List.length_cons, List.length_nil] at hi2 hj2
    have gi : ((path ++ [(arc, w)]).drop i0)[i]? = some (((path ++ [(arc, w)]).drop i0)[i]'(by simp; omega)) := List.getElem?_eq_getElem _
    have gj : ((path ++ [(arc, w)]).drop i0)[j]? = some (((path ++ [(arc, w)]).drop i0)[j]'(by simp; omega)) := List.getElem?_eq_getElem _
    obtain ⟨u, v', g1, g2, g3⟩ := wk3.get gi
    obtain ⟨u2, v2, f1, f2, f3⟩ := wk3.get gj
    rw [List.getElem_map, List.getElem_map] at e
    rw [List.getElem?_drop] at g1 g2 f1 f2 gi gj
    have inj : ∀ {a b : Nat} {z : Int}, a < vs.length → b < vs.length → (vs ++ [v])[a]? = some z → (vs ++ [v])[b]? = some z → a = b := fun {a b z} ha hb h1 h2 => by
      rw [List.getElem?_append_left ha] at h1
      rw [List.getElem?_append_left hb] at h2
      obtain ⟨ha', e1⟩ := List.getElem?_eq_some_iff.mp h1
      obtain ⟨hb', e2⟩ := List.getElem?_eq_some_iff.mp h2
      exact (List.getElem_inj S.nd).mp (e1.trans e2.symm)
    have nxt : j ≠ i + 1 := fun z => by
      subst z
      exact cs (i0 + i) _ _ gi (by rw [show i0 + i + 1 = i0 + (i + 1) from by omega]; exact gj) e
    rw [e] at g3
    have two : u = u2 ∨ v' = u2 := by
      rcases g3 with ⟨_, a1, a2⟩ | ⟨_, a1, a2⟩ <;> rcases f3 with ⟨_, b1, b2⟩ | ⟨_, b1, b2⟩
      · exact .inl (a1.symm.trans b1)
      · exact .inr (a2.symm.trans b1)
      · exact .inr (a2.symm.trans b1)
      · exact .inl (a1.symm.trans b1)
    rcases two with z | z
    · rw [z] at g1
      have := inj (by omega) (by omega) g1 f1
      omega
    · rw [z] at g2
      have := inj (by omega) (by omega) g2 f1
      omega
  · have e1 : (vs ++ [v]).drop i0 = v :: (vs ++ [v]).drop (i0 + 1) := by
      have h0 : (vs ++ [v])[i0]? = some v := by rw [List.getElem?_append_left hi]; exact hget
      obtain ⟨h1, h2⟩ := List.getElem?_eq_some_iff.mp h0
      rw [List.drop_eq_getElem_cons h1, h2]
    rw [e1] at wk3
    have := wk3.sum (l := v) (by
      rw [← e1, List.getLast?_drop, if_neg (by simp; omega)]
      simp) x
    rw [this]
    omega
theorem fround_ok {n : Nat} {arcs : List Arc} {p : List Int} {d : Int} (hl : arcs.length = p.length) (hg : ∀ k, k < arcs.length → Good n (arcOf arcs k)) (hb : ∀ v, net arcs p v % d = 0) :
    ∀ (f : Nat) (vs : List Int) (path : List (Nat × Int)) (node : Int) (arc : Nat), St0 n arcs p d vs path node arc → n + 1 ≤ f + vs.length → Rnd arcs p d (fround arcs p d f vs path node arc)
  | 0, vs, path, node, arc, S, hf => by
    have := nodup_le n vs S.nd S.rng
    omega
  | f + 1, vs, path, node, arc, S, hf => by
    unfold fround
    by_cases hin : (stepN arcs arc node).1 ∈ vs
    · rw [if_pos hin]
      exact rnd_of hg S hin
    · rw [if_neg hin]
      obtain ⟨hs, hw⟩ := stepN_ste S.ar.2.2
      have wk2 := S.wk.snoc S.last hs
      have far := hs.far (hg arc S.ar.1)
      have oth := other_ok (bal_other (v := (stepN arcs arc node).1) hl hg (hb _) S.ar.1 S.ar.2.1 far.2)
      have mem := mem_near.mp oth.1
      have cs := cons_snoc (w := (stepN arcs arc node).2) S
      refine fround_ok hl hg hb f _ _ _ _ ⟨wk2, ?_, by simp, fun v hv => ?_, ⟨mem.1, oth.2.2, mem.2⟩, fun q hq => ?_, cs, fun q hq => ?_⟩ (by simp; omega)
      · rw [List.nodup_append]
        refine ⟨S.nd, by simp, fun a ha b hb2 => ?_⟩
        rw [List.mem_singleton] at hb2
        subst hb2
        rintro rfl
        exact hin ha
      · rcases List.mem_append.mp hv with hv | hv
        · exact S.rng v hv
        · rw [List.mem_singleton] at hv
          subst hv
          exact far.1
      · rcases List.mem_append.mp hq with hq | hq
        · exact S.old q hq
        · rw [List.mem_singleton] at hq
          subst hq
          exact ⟨S.ar.1, S.ar.2.1, hw⟩
      · rw [List.getLast?_append] at hq
        simp at hq
        subst hq
        exact Ne.symm oth.2.1
theorem roundOf_ok {n : Nat} {arcs : List Arc} {p : List Int} {d : Int} {k : Nat} (hl : arcs.length = p.length) (hg : ∀ k, k < arcs.length → Good n (arcOf arcs k)) (hb : ∀ v, net arcs p v % d = 0) (hk : k < arcs.length) (hf : frac p d k = true) :
    Rnd arcs p d (roundOf n arcs p d k) := by
  unfold roundOf
  have g := hg k hk
  refine fround_ok hl hg hb _ _ _ _ _ ⟨trivial, by simp, rfl, fun v hv => ?_, ⟨hk, hf, by simp [touch]⟩, fun q hq => by simp at hq, fun i q q' h => by simp at h, fun q h => by simp at h⟩ (by simp)
  rw [List.mem_singleton] at hv
  subst hv
  exact g.1

/-! ### a round is carried -/
def dist (p : List Int) (d : Int) (q : Nat × Int) : Int := (q.2 * -(part p q.1)) % d
def stepOf (p : List Int) (d : Int) (found : List (Nat × Int)) : Int := found.foldl (fun s q => if dist p d q < s then dist p d q else s) d
def applyR (p : List Int) (s : Int) (found : List (Nat × Int)) : List Int := found.foldl (fun p q => p.set q.1 (part p q.1 + q.2 * s)) p
theorem applyR_len (s : Int) : ∀ (f : List (Nat × Int)) (p : List Int), (applyR p s f).length = p.length
  | [], _ => rfl
  | q :: f, p => by
    show (applyR (p.set q.1 (part p q.1 + q.2 * s)) s f).length = p.length
    rw [applyR_len s f, List.length_set]
theorem applyR_net (arcs : List Arc) (s v : Int) : ∀ (f : List (Nat × Int)) (p : List Int), arcs.length = p.length → (∀ q ∈ f, q.1 < arcs.length) → net arcs (applyR p s f) v = net arcs p v + s * fsum arcs f v
  | [], p, _, _ => by simp [applyR, fsum]
  | q :: f, p, hl, h => by
    show net arcs (applyR (p.set q.1 (part p q.1 + q.2 * s)) s f) v = _
    have h0 := h q List.mem_cons_self
    rw [applyR_net arcs s v f _ (by rw [List.length_set]; exact hl) fun q' hq => h q' (List.mem_cons_of_mem _ hq), net_set _ _ _ _ _ hl (by omega)]
    simp only [fsum]
    have e : part p q.1 + q.2 * s - part p q.1 = s * q.2 := by rw [Int.mul_comm s]; omega
    rw [e, Int.mul_add, Int.mul_assoc]
    omega
theorem applyR_out (s : Int) : ∀ (f : List (Nat × Int)) (p : List Int) (k : Nat), k ∉ f.map (·.1) → part (applyR p s f) k = part p k
  | [], _, _, _ => rfl
  | q :: f, p, k, h => by
    show part (applyR (p.set q.1 (part p q.1 + q.2 * s)) s f) k = part p k
    simp only [List.map_cons, List.mem_cons, not_or] at h
    rw [applyR_out s f _ k h.2, part_set_ne (Ne.symm h.1)]
theorem applyR_in (s : Int) : ∀ (f : List (Nat × Int)) (p : List Int), (f.map (·.1)).Nodup → (∀ q ∈ f, q.1 < p.length) → ∀ q ∈ f, part (applyR p s f) q.1 = part p q.1 + q.2 * s
  | [], _, _, _, q, h => by simp at h
  | q' :: f, p, nd, hl, q, hq => by
    show part (applyR (p.set q'.1 (part p q'.1 + q'.2 * s)) s f) q.1 = _
    rw [List.map_cons, List.nodup_cons] at nd
    have h0 := hl q' List.mem_cons_self
    rcases List.mem_cons.mp hq with rfl | hq
    · rw [applyR_out s f _ _ nd.1, part_set_same h0]
    · have ne : q'.1 ≠ q.1 := fun e => nd.1 (by rw [e]; exact List.mem_map_of_mem hq)
      rw [applyR_in s f _ nd.2 (fun q2 h2 => by rw [List.length_set]; exact hl q2 (List.mem_cons_of_mem _ h2)) q hq, part_set_ne ne]
theorem fold_min (g : Nat × Int → Int) : ∀ (f : List (Nat × Int)) (s : Int), (∀ q ∈ f, f.foldl (fun s q => if g q < s then g q else s) s ≤ g q) ∧ f.foldl (fun s q => if g q < s then g q else s) s ≤ s ∧
    (f.foldl (fun s q => if g q < s then g q else s) s = s ∨ ∃ q ∈ f, f.foldl (fun s q => if g q < s then g q else s) s = g q)
  | [], s => ⟨fun q h => by simp at h, Int.le_refl _, .inl rfl⟩
  | q :: f, s => by
    by_cases c : g q < s
    · obtain ⟨h1, h2, h3⟩ := fold_min g f (g q)
      simp only [List.foldl_cons, if_pos c]
      refine ⟨fun q' hq => ?_, by omega, ?_⟩
      · rcases List.mem_cons.mp hq with rfl | hq
        · exact h2
        · exact h1 q' hq
      · rcases h3 with h3 | ⟨q', hq, h3⟩
        · exact .inr ⟨q, List.mem_cons_self, h3⟩
        · exact .inr ⟨q', List.mem_cons_of_mem _ hq, h3⟩
    · obtain ⟨h1, h2, h3⟩ := fold_min g f s
      simp only [List.foldl_cons, if_neg c]
      refine ⟨fun q' hq => ?_, h2, ?_⟩
      · rcases List.mem_cons.mp hq with rfl | hq
        · omega
        · exact h1 q' hq
      · rcases h3 with h3 | ⟨q', hq, h3⟩
        · exact .inl h3
        · exact .inr ⟨q', List.mem_cons_of_mem _ hq, h3⟩
theorem dist_frac {p : List Int} {d : Int} {q : Nat × Int} (hd : 0 < d) (hf : frac p d q.1 = true) (hw : q.2 = 1 ∨ q.2 = -1) : 0 < dist p d q ∧ dist p d q < d ∧ (part p q.1 + q.2 * dist p d q) % d = 0 := by
  have hf' : part p q.1 % d ≠ 0 := of_decide_eq_true hf
  have h1 := Int.emod_nonneg (q.2 * -(part p q.1)) (b := d) (by omega)
  have h2 := Int.emod_lt_of_pos (q.2 * -(part p q.1)) hd
  unfold dist
  have e := Int.emod_add_mul_ediv (q.2 * -(part p q.1)) d
  revert e h1 h2
  generalize (q.2 * -(part p q.1)) % d = r
  generalize (q.2 * -(part p q.1)) / d = c
  intro h1 h2 e
  rcases hw with hw | hw
  · rw [hw] at e ⊢
    have e2 : part p q.1 + 1 * r = d * -c := by rw [Int.mul_neg]; omega
    refine ⟨?_, h2, ?_⟩
    · rcases Int.lt_or_eq_of_le h1 with z | z
      · exact z
      · exfalso
        apply hf'
        have : part p q.1 = d * -c := by omega
        rw [this]
        exact Int.mul_emod_right _ _
    · rw [e2]
      exact Int.mul_emod_right _ _
  · rw [hw] at e ⊢
    have e2 : part p q.1 + -1 * r = d * c := by omega
    refine ⟨?_, h2, ?_⟩
    · rcases Int.lt_or_eq_of_le h1 with z | z
      · exact z
      · exfalso
        apply hf'
        have : part p q.1 = d * c := by omega
        rw [this]
        exact Int.mul_emod_right _ _
    · rw [e2]
      exact Int.mul_emod_right _ _

def turn (n : Nat) (arcs : List Arc) (d : Int) (p : List Int) (k : Nat) : List Int := applyR p (stepOf p d (roundOf n arcs p d k)) (roundOf n arcs p d k)
def fracs (m : Nat) (p : List Int) (d : Int) : Nat := ((List.range m).filter (frac p d)).length
theorem filter_lt {P Q : Nat → Bool} : ∀ (l : List Nat), (∀ k ∈ l, P k = true → Q k = true) → (∃ k ∈ l, Q k = true ∧ P k = false) → (l.filter P).length < (l.filter Q).length
  | [], _, h => by simp at h
  | a :: l, h1, h2 => by
    have le : ∀ (l : List Nat), (∀ k ∈ l, P k = true → Q k = true) → (l.filter P).length ≤ (l.filter Q).length := by
      intro l
      induction l with
      | nil => intro _; exact Nat.le_refl _
      | cons b l ih =>
        intro h
        have ih := ih fun k hk => h k (List.mem_cons_of_mem _ hk)
        have hb := h b List.mem_cons_self
        rw [List.filter_cons, List.filter_cons]
        by_cases c : P b = true
        · rw [if_pos c, if_pos (hb c)]; simp; exact ih
        · rw [if_neg c]
          split
          · simp; omega
          · exact ih
    have h0 := h1 a List.mem_cons_self
    have ht : ∀ k ∈ l, P k = true → Q k = true := fun k hk => h1 k (List.mem_cons_of_mem _ hk)
    rw [List.filter_cons, List.filter_cons]
    obtain ⟨k, hk, hq, hp⟩ := h2
    rcases List.mem_cons.mp hk with rfl | hk
    · rw [if_neg (by rw [hp]; decide), if_pos hq]
      have := le l ht
      simp
      omega
    · have ih := filter_lt l ht ⟨k, hk, hq, hp⟩
      by_cases c : P a = true
      · rw [if_pos c, if_pos (h0 c)]; simp; exact ih
      · rw [if_neg c]
        split
        · simp; omega
        · exact ih

/-- what stays true of the parts -/
structure Inv (arcs : List Arc) (am : List Int) (d : Int) (p : List Int) : Prop where
  len : p.length = arcs.length
  bal : ∀ v, net arcs p v = 0
  lo : ∀ k, k < arcs.length → part am k / d * d ≤ part p k
  hi : ∀ k, k < arcs.length → part p k ≤ -(-(part am k) / d) * d
theorem up_le {d x r h : Int} (hd : 0 < d) (hx : x % d ≠ 0) (h1 : x ≤ h * d) (hr : r ≤ (1 * -x) % d) : x + 1 * r ≤ h * d := by
  have e1 := Int.emod_add_mul_ediv (1 * -x) d
  have e2 := Int.emod_lt_of_pos (1 * -x) hd
  have e3 := Int.emod_nonneg (1 * -x) (b := d) (by omega)
  revert hr e1 e2 e3
  generalize (1 * -x) % d = t
  generalize (1 * -x) / d = c
  intro hr e1 e2 e3
  have ne : x ≠ h * d := fun e => hx (by rw [e]; exact Int.mul_emod_left _ _)
  have lt : x < h * d := by omega
  have e4 : x + t = -c * d := by
    rw [Int.neg_mul, Int.mul_comm c d]
    omega
  have le : -c ≤ h := by
    refine Classical.byContradiction fun z => ?_
    have z1 : h + 1 ≤ -c := by omega
    have z2 : (h + 1) * d ≤ -c * d := Int.mul_le_mul_of_nonneg_right z1 (by omega)
    rw [Int.add_mul] at z2
    omega
  have := Int.mul_le_mul_of_nonneg_right le (show 0 ≤ d by omega)
  omega
theorem down_le {d x r h : Int} (hd : 0 < d) (hx : x % d ≠ 0) (h1 : h * d ≤ x) (hr : r ≤ (-1 * -x) % d) : h * d ≤ x + -1 * r := by
  have := up_le (d := d) (x := -x) (r := r) (h := -h) hd (fun e => hx (Int.emod_eq_zero_of_dvd (Int.dvd_neg.mp (Int.dvd_of_emod_eq_zero e)))) (by rw [Int.neg_mul]; omega)
    (by rw [show (1 : Int) * - -x = -1 * -x by omega]; exact hr)
  rw [Int.neg_mul] at this
  omega
theorem turn_ok {n : Nat} {arcs : List Arc} {am : List Int} {d : Int} {p : List Int} {k : Nat} (hd : 0 < d) (hg : ∀ k, k < arcs.length → Good n (arcOf arcs k)) (I : Inv arcs am d p) (hk : k < arcs.length) (hf : frac p d k = true) :
    Inv arcs am d (turn n arcs d p k) ∧ (∀ j, j < arcs.length → frac (turn n arcs d p k) d j = true → frac p d j = true) ∧ fracs arcs.length (turn n arcs d p k) d < fracs arcs.length p d := by
  have R := roundOf_ok (n := n) (p := p) (d := d) (k := k) I.len.symm hg (fun v => by rw [I.bal v]; exact Int.zero_emod _) hk hf
  unfold turn
  revert R
  generalize roundOf n arcs p d k = f
  intro R
  have hlen : ∀ q ∈ f, q.1 < p.length := fun q hq => by rw [I.len]; exact (R.ok q hq).1
  obtain ⟨m1, m2, m3⟩ := fold_min (dist p d) f d
  have step_le : ∀ q ∈ f, stepOf p d f ≤ dist p d q := m1
  obtain ⟨q0, hq0, e0⟩ : ∃ q ∈ f, stepOf p d f = dist p d q := by
    rcases m3 with m3 | m3
    · exfalso
      cases hf' : f with
      | nil => exact R.ne hf'
      | cons q r =>
        have hq : q ∈ f := by rw [hf']; exact List.mem_cons_self
        have a := step_le q hq
        have b := (dist_frac hd (R.ok q hq).2.1 (R.ok q hq).2.2).2.1
        have c : stepOf p d f = d := m3
        omega
    · exact m3
  have d0 := dist_frac hd (R.ok q0 hq0).2.1 (R.ok q0 hq0).2.2
  have inn := applyR_in (stepOf p d f) f p R.nd hlen
  have out := applyR_out (stepOf p d f) f p
  have key : ∀ j, j < arcs.length → (part (applyR p (stepOf p d f) f) j = part p j) ∨ ∃ q ∈ f, q.1 = j ∧ part (applyR p (stepOf p d f) f) j = part p j + q.2 * stepOf p d f := fun j _ => by
    by_cases c : j ∈ f.map (·.1)
    · obtain ⟨q, hq, e⟩ := List.mem_map.mp c
      exact .inr ⟨q, hq, e, by rw [← e]; exact inn q hq⟩
    · exact .inl (out j c)
  have stays : ∀ j, j < arcs.length → frac (applyR p (stepOf p d f) f) d j = true → frac p d j = true := fun j hj h => by
    rcases key j hj with e | ⟨q, hq, e, _⟩
    · unfold frac at h ⊢
      rw [e] at h
      exact h
    · rw [← e]
      exact (R.ok q hq).2.1
  refine ⟨⟨by rw [applyR_len]; exact I.len, fun v => ?_, fun j hj => ?_, fun j hj => ?_⟩, stays, ?_⟩
  · rw [applyR_net arcs _ v f p I.len.symm fun q hq => (R.ok q hq).1, R.bal v, I.bal v]
    omega
  · rcases key j hj with e | ⟨q, hq, e, e2⟩
    · rw [e]
      exact I.lo j hj
    · have fr : part p j % d ≠ 0 := by rw [← e]; exact of_decide_eq_true (R.ok q hq).2.1
      have le := step_le q hq
      have lo := I.lo j hj
      rw [e2]
      unfold dist at le
      rcases (R.ok q hq).2.2 with w | w
      · have s0 : 0 < stepOf p d f := by rw [e0]; exact d0.1
        rw [w]
        omega
      · rw [w, e] at le
        rw [w]
        exact down_le hd fr lo le
  · rcases key j hj with e | ⟨q, hq, e, e2⟩
    · rw [e]
      exact I.hi j hj
    · have fr : part p j % d ≠ 0 := by rw [← e]; exact of_decide_eq_true (R.ok q hq).2.1
      have le := step_le q hq
      have hi := I.hi j hj
      rw [e2]
      unfold dist at le
      rcases (R.ok q hq).2.2 with w | w
      · rw [w, e] at le
        rw [w]
        exact up_le hd fr hi le
      · have s0 : 0 < stepOf p d f := by rw [e0]; exact d0.1
        rw [w]
        omega
  · refine filter_lt _ (fun j hj h => stays j (List.mem_range.mp hj) h) ⟨q0.1, List.mem_range.mpr (R.ok q0 hq0).1, (R.ok q0 hq0).2.1, ?_⟩
    unfold frac
    rw [inn q0 hq0, e0]
    exact decide_eq_false (fun z => z d0.2.2)

/-! ### rounding -/
def inner (n : Nat) (arcs : List Arc) (d : Int) : Nat → List Int → Nat → List Int
  | 0, p, _ => p
  | f + 1, p, k => if frac p d k then inner n arcs d f (turn n arcs d p k) k else p
theorem inner_ok {n : Nat} {arcs : List Arc} {am : List Int} {d : Int} (hd : 0 < d) (hg : ∀ k, k < arcs.length → Good n (arcOf arcs k)) {k : Nat} (hk : k < arcs.length) :
    ∀ (f : Nat) (p : List Int), Inv arcs am d p → fracs arcs.length p d ≤ f → Inv arcs am d (inner n arcs d f p k) ∧ (∀ j, j < arcs.length → frac (inner n arcs d f p k) d j = true → frac p d j = true) ∧ frac (inner n arcs d f p k) d k = false
  | 0, p, I, h => by
    refine ⟨I, fun j _ h => h, ?_⟩
    show frac p d k = false
    unfold fracs at h
    have e := List.eq_nil_of_length_eq_zero (Nat.le_zero.mp h)
    rw [List.filter_eq_nil_iff] at e
    have := e k (List.mem_range.mpr hk)
    simpa using this
  | f + 1, p, I, h => by
    unfold inner
    by_cases c : frac p d k = true
    · rw [if_pos c]
      obtain ⟨I2, h2, h3⟩ := turn_ok hd hg I hk c
      obtain ⟨I3, h4, h5⟩ := inner_ok hd hg hk f _ I2 (by omega)
      exact ⟨I3, fun j hj z => h2 j hj (h4 j hj z), h5⟩
    · rw [if_neg c]
      exact ⟨I, fun j _ h => h, by simpa using c⟩
def outer (n : Nat) (arcs : List Arc) (d : Int) (am : List Int) (i : Nat) : List Int := (List.range i).foldl (fun p k => inner n arcs d (arcs.length + 1) p k) am
theorem outer_succ (n : Nat) (arcs : List Arc) (d : Int) (am : List Int) (i : Nat) : outer n arcs d am (i + 1) = inner n arcs d (arcs.length + 1) (outer n arcs d am i) i := by
  unfold outer
  rw [List.range_succ, List.foldl_append]
  rfl
theorem fracs_le (m : Nat) (p : List Int) (d : Int) : fracs m p d ≤ m := by
  unfold fracs
  exact Nat.le_trans (List.length_filter_le _ _) (by simp)
theorem inv0 {arcs : List Arc} {am : List Int} {d : Int} (hd : 0 < d) (hl : arcs.length = am.length) (hb : ∀ v, net arcs am v = 0) : Inv arcs am d am := by
  refine ⟨hl.symm, hb, fun k _ => Int.ediv_mul_le _ (by omega), fun k _ => ?_⟩
  have := Int.ediv_mul_le (-(part am k)) (b := d) (by omega)
  rw [Int.neg_mul]
  omega
theorem outer_ok {n : Nat} {arcs : List Arc} {am : List Int} {d : Int} (hd : 0 < d) (hg : ∀ k, k < arcs.length → Good n (arcOf arcs k)) (hl : arcs.length = am.length) (hb : ∀ v, net arcs am v = 0) :
    ∀ i, i ≤ arcs.length → Inv arcs am d (outer n arcs d am i) ∧ ∀ j, j < i → frac (outer n arcs d am i) d j = false
  | 0, _ => ⟨inv0 hd hl hb, fun j h => by omega⟩
  | i + 1, hi => by
    obtain ⟨I, h⟩ := outer_ok hd hg hl hb i (by omega)
    rw [outer_succ]
    obtain ⟨I2, h2, h3⟩ := inner_ok hd hg (k := i) (by omega) (arcs.length + 1) _ I (Nat.le_trans (fracs_le _ _ _) (by omega))
    refine ⟨I2, fun j hj => ?_⟩
    by_cases c : j = i
    · rw [c]; exact h3
    · have := h j (by omega)
      cases z : frac (inner n arcs d (arcs.length + 1) (outer n arcs d am i) i) d j with
      | false => rfl
      | true => rw [h2 j (by omega) z] at this; exact this
def roundedF (n : Nat) (arcs : List Arc) (am : List Int) (d : Int) : List Int := (outer n arcs d am arcs.length).map (· / d)
theorem net_scale (d v : Int) : ∀ (as : List Arc) (xs : List Int), (∀ k, k < xs.length → part xs k % d = 0) → d * net as (xs.map (· / d)) v = net as xs v
  | [], _, _ => by simp [net]
  | _ :: _, [], _ => by simp [net]
  | p :: as, x :: xs, h => by
    have ih := net_scale d v as xs fun k hk => h (k + 1) (by simpa using hk)
    have h0 : x % d = 0 := h 0 (by simp)
    have e : d * (x / d) = x := Int.mul_ediv_cancel' (Int.dvd_of_emod_eq_zero h0)
    simp only [List.map_cons, net, Int.mul_add, ih, ← Int.mul_assoc, e]
theorem rounded_ok {n : Nat} {arcs : List Arc} {am : List Int} {d : Int} (hd : 0 < d) (hg : ∀ k, k < arcs.length → Good n (arcOf arcs k)) (hl : arcs.length = am.length) (hb : ∀ v, net arcs am v = 0) :
    (roundedF n arcs am d).length = arcs.length ∧ (∀ k, k < arcs.length → part am k - d < part (roundedF n arcs am d) k * d ∧ part (roundedF n arcs am d) k * d < part am k + d) ∧ ∀ v, net arcs (roundedF n arcs am d) v = 0 := by
  obtain ⟨I, h⟩ := outer_ok hd hg hl hb arcs.length (Nat.le_refl _)
  unfold roundedF
  revert I h
  generalize outer n arcs d am arcs.length = p
  intro I h
  have whole : ∀ k, k < arcs.length → part p k % d = 0 := fun k hk => by
    have := of_decide_eq_false (h k hk)
    exact Classical.byContradiction this
  refine ⟨by rw [List.length_map, I.len], fun k hk => ?_, fun v => ?_⟩
  · have e : part (p.map (· / d)) k = part p k / d := by
      refine part_get ?_
      rw [List.getElem?_map, get_part (by rw [I.len]; exact hk)]
      rfl
    rw [e, Int.ediv_mul_cancel (Int.dvd_of_emod_eq_zero (whole k hk))]
    have lo := I.lo k hk
    have hi := I.hi k hk
    have a := Int.lt_ediv_add_one_mul_self (part am k) hd
    have b := Int.lt_ediv_add_one_mul_self (-(part am k)) hd
    rw [Int.add_mul] at a b
    rw [Int.neg_mul] at hi
    omega
  · have := net_scale d v arcs p fun k hk => whole k (by rw [I.len] at hk; exact hk)
    rw [I.bal v] at this
    rcases Int.mul_eq_zero.mp this with z | z
    · omega
    · exact z

/-! ### networks that are drawn -/
structure NetOk (n : Nat) (d : Int) (c : Nat) (as : List Arc) (xs : List Int) : Prop where
  len : as.length = xs.length
  good : ∀ k, k < as.length → Good n (arcOf as k)
  few : as.length ≤ c
  some : 0 < c → 0 < as.length
  size : ∀ k, k < xs.length → -(2 * d * c) ≤ part xs k ∧ part xs k ≤ 2 * d * c
theorem NetOk.zero (n : Nat) (d : Int) : NetOk n d 0 [] [] := ⟨rfl, fun k h => by simp at h, by simp, fun h => absurd h (by omega), fun k h => by simp at h⟩
theorem NetOk.more {n c : Nat} {d : Int} {as : List Arc} {xs : List Int} (h : NetOk n d c as xs) (hc : 0 < c ) (hd : 0 < d) {c' : Nat} (le : c ≤ c') : NetOk n d c' as xs := by
  refine ⟨h.len, h.good, Nat.le_trans h.few le, fun _ => h.some hc, fun k hk => ?_⟩
  have := h.size k hk
  have m : 2 * d * (c : Int) ≤ 2 * d * (c' : Int) := Int.mul_le_mul_of_nonneg_left (by omega) (by omega)
  omega
theorem arcOf_snoc_lt {as : List Arc} {e : Arc} {k : Nat} (h : k < as.length) : arcOf (as ++ [e]) k = arcOf as k := by
  refine arc_get ?_
  rw [List.getElem?_append_left h, get_arc h]
theorem arcOf_snoc {as : List Arc} {e : Arc} : arcOf (as ++ [e]) as.length = e := by
  refine arc_get ?_
  rw [List.getElem?_append_right (Nat.le_refl _), Nat.sub_self]
  rfl
theorem part_snoc_lt {xs : List Int} {x : Int} {k : Nat} (h : k < xs.length) : part (xs ++ [x]) k = part xs k := by
  refine part_get ?_
  rw [List.getElem?_append_left h, get_part h]
theorem part_snoc {xs : List Int} {x : Int} : part (xs ++ [x]) xs.length = x := by
  refine part_get ?_
  rw [List.getElem?_append_right (Nat.le_refl _), Nat.sub_self]
  rfl
/-- an arc's amount grows -/
theorem NetOk.old {n c : Nat} {d pt : Int} {as : List Arc} {xs : List Int} (h : NetOk n d c as xs) (hd : 0 < d) (h1 : -(2 * d) ≤ pt) (h2 : pt ≤ 2 * d) {k : Nat} (hk : k < as.length) :
    NetOk n d (c + 1) as (xs.set k (part xs k + pt)) ∧ ∀ v, net as (xs.set k (part xs k + pt)) v = net as xs v + pt * dlt (arcOf as k) v := by
  have e : 2 * d * ((c + 1 : Nat) : Int) = 2 * d * c + 2 * d := by
    rw [Int.natCast_add, Int.mul_add]
    omega
  have p : 0 ≤ 2 * d * (c : Int) := Int.mul_nonneg (by omega) (by omega)
  refine ⟨⟨by rw [List.length_set]; exact h.len, h.good, by have := h.few; omega, fun _ => by omega, fun j hj => ?_⟩, fun v => ?_⟩
  · rw [List.length_set] at hj
    rw [e]
    have a := h.size j hj
    by_cases c : k = j
    · rw [c, part_set_same hj]
      omega
    · rw [part_set_ne c]
      omega
  · rw [net_set as xs k _ v h.len (by rw [← h.len]; exact hk)]
    have : part xs k + pt - part xs k = pt := by omega
    rw [this]
/-- a new arc with this amount -/
theorem NetOk.new {n c : Nat} {d pt : Int} {as : List Arc} {xs : List Int} {e : Arc} (h : NetOk n d c as xs) (hd : 0 < d) (h1 : -(2 * d) ≤ pt) (h2 : pt ≤ 2 * d) (hg : Good n e) :
    NetOk n d (c + 1) (as ++ [e]) (xs ++ [pt]) ∧ ∀ v, net (as ++ [e]) (xs ++ [pt]) v = net as xs v + pt * dlt e v := by
  have ee : 2 * d * ((c + 1 : Nat) : Int) = 2 * d * c + 2 * d := by
    rw [Int.natCast_add, Int.mul_add]
    omega
  have p : 0 ≤ 2 * d * (c : Int) := Int.mul_nonneg (by omega) (by omega)
  refine ⟨⟨by simp [h.len], fun k hk => ?_, by have := h.few; simp; omega, fun _ => by simp, fun j hj => ?_⟩, fun v => net_snoc as xs e pt v h.len⟩
  · by_cases c : k < as.length
    · rw [arcOf_snoc_lt c]
      exact h.good k c
    · have e : k = as.length := by
        rw [List.length_append, List.length_singleton] at hk
        omega
      rw [e, arcOf_snoc]
      exact hg
  · rw [ee]
    by_cases c : j < xs.length
    · rw [part_snoc_lt c]
      have := h.size j c
      omega
    · have e : j = xs.length := by
        rw [List.length_append, List.length_singleton] at hj
        omega
      rw [e, part_snoc]
      omega
/-- the nodes in a drawn order -/
structure Ord (n : Nat) (os : List Int) : Prop where
  len : os.length = n
  nd : os.Nodup
  in_ : ∀ v ∈ os, 0 ≤ v ∧ v < n
theorem Ord.base (n : Nat) : Ord n ((List.range n).map fun (i : Nat) => (i : Int)) := by
  refine ⟨by simp, ?_, fun v hv => ?_⟩
  · exact List.Pairwise.map _ (fun a b h e => h (by have e2 : (a : Int) = (b : Int) := e; omega)) (List.nodup_iff_pairwise_ne.mp List.nodup_range)
  · obtain ⟨i, hi, rfl⟩ := List.mem_map.mp hv
    have := List.mem_range.mp hi
    omega
theorem Ord.swap {n : Nat} {os : List Int} (h : Ord n os) {i j : Nat} (hi : i < n) (hj : j < n) : Ord n ((os.set i (part os j)).set j (part os i)) := by
  have li : i < os.length := by rw [h.len]; exact hi
  have lj : j < os.length := by rw [h.len]; exact hj
  have e1 : part os i = os[i] := part_get (List.getElem?_eq_getElem li)
  have e2 : part os j = os[j] := part_get (List.getElem?_eq_getElem lj)
  have p : ((os.set i os[j]).set j os[i]).Perm os := List.set_set_perm li lj
  rw [e1, e2]
  exact ⟨by rw [List.length_set, List.length_set]; exact h.len, p.nodup_iff.mpr h.nd, fun v hv => h.in_ v (p.mem_iff.mp hv)⟩
theorem Ord.ne {n : Nat} {os : List Int} (h : Ord n os) {i j : Nat} (hi : i < n) (hj : j < n) (ne : i ≠ j) : part os i ≠ part os j := by
  intro e
  have li : i < os.length := by rw [h.len]; exact hi
  have lj : j < os.length := by rw [h.len]; exact hj
  have e1 : part os i = os[i] := part_get (List.getElem?_eq_getElem li)
  have e2 : part os j = os[j] := part_get (List.getElem?_eq_getElem lj)
  rw [e1, e2] at e
  exact ne ((List.getElem_inj h.nd).mp e)
theorem Ord.at {n : Nat} {os : List Int} (h : Ord n os) {i : Nat} (hi : i < n) : 0 ≤ part os i ∧ part os i < n := by
  have li : i < os.length := by rw [h.len]; exact hi
  exact h.in_ _ (List.mem_of_getElem? (get_part li))
theorem whole_part {d p : Int} (hd : 0 < d) (h1 : -d ≤ p) (h2 : p ≤ 2 * d) : -d ≤ d * (p / d) ∧ d * (p / d) ≤ 2 * d := by
  have a := Int.mul_ediv_self_le (x := p) (k := d) (by omega)
  have b := Int.lt_mul_ediv_self_add (x := p) (k := d) hd
  have c : -1 ≤ p / d := Int.le_ediv_of_mul_le hd (by omega)
  have e := Int.mul_le_mul_of_nonneg_left c (show 0 ≤ d by omega)
  omega
end Cir

namespace K00
open PySem PySem.Spec PyProof.Rows L2
def top (i : Nat) : Stmt := PySem.Challenge.pw_eachfloweachlink_k00_rounding_keeps_ever.main.body.getD i (.Pass ⟨0, 0, 0, 0⟩)
/-! _check_ends(count, arcs): slots 0 count 1 arcs 2 k 3 tail 4 head -/
abbrev s_check_ends : Stmt := top 5
abbrev n_check_ends : List Str := ["count", "arcs", "k", "tail", "head"]
theorem sc_check_ends : FnScope n_check_ends ["count", "arcs"] (defScope s_check_ends) := ⟨rfl, rfl, rfl, by decide +kernel, rfl, by decide +kernel, by decide +kernel⟩
/-! _spare(count, arcs, amounts): slots 0 count 1 arcs 2 amounts 3 spare 4 k -/
abbrev s_spare : Stmt := top 6
abbrev n_spare : List Str := ["count", "arcs", "amounts", "spare", "k"]
theorem sc_spare : FnScope n_spare ["count", "arcs", "amounts"] (defScope s_spare) := ⟨rfl, rfl, rfl, by decide +kernel, rfl, by decide +kernel, by decide +kernel⟩
/-! _check_balance(count, arcs, amounts): slots 0 count 1 arcs 2 amounts 3 spare 4 node -/
abbrev s_check_balance : Stmt := top 7
abbrev n_check_balance : List Str := ["count", "arcs", "amounts", "spare", "node"]
theorem sc_check_balance : FnScope n_check_balance ["count", "arcs", "amounts"] (defScope s_check_balance) := ⟨rfl, rfl, rfl, by decide +kernel, rfl, by decide +kernel, by decide +kernel⟩
/-! _near(count, arcs): slots 0 count 1 arcs 2 near 3 k 4 _ -/
abbrev s_near : Stmt := top 8
abbrev n_near : List Str := ["count", "arcs", "near", "k", "_"]
theorem sc_near : FnScope n_near ["count", "arcs"] (defScope s_near) := ⟨rfl, rfl, rfl, by decide +kernel, rfl, by decide +kernel, by decide +kernel⟩
/-! _other_arc(row, parts, divisor, came): slots 0 row 1 parts 2 divisor 3 came 4 k -/
abbrev s_other_arc : Stmt := top 9
abbrev n_other_arc : List Str := ["row", "parts", "divisor", "came", "k"]
theorem sc_other_arc : FnScope n_other_arc ["row", "parts", "divisor", "came"] (defScope s_other_arc) := ⟨rfl, rfl, rfl, by decide +kernel, rfl, by decide +kernel, by decide +kernel⟩
/-! _fraction_round(arcs, near, parts, divisor, start): slots 0 arcs 1 near 2 parts 3 divisor 4 start 5 node 6 arc 7 path 8 places 9 way -/
abbrev s_fraction_round : Stmt := top 10
abbrev n_fraction_round : List Str := ["arcs", "near", "parts", "divisor", "start", "node", "arc", "path", "places", "way"]
theorem sc_fraction_round : FnScope n_fraction_round ["arcs", "near", "parts", "divisor", "start"] (defScope s_fraction_round) := ⟨rfl, rfl, rfl, by decide +kernel, rfl, by decide +kernel, by decide +kernel⟩
/-! rounded(count, arcs, amounts, divisor): slots 0 count 1 arcs 2 amounts 3 divisor 4 parts 5 near 6 k 7 found 8 step 9 arc 10 way 11 part -/
abbrev s_rounded : Stmt := top 11
abbrev n_rounded : List Str := ["count", "arcs", "amounts", "divisor", "parts", "near", "k", "found", "step", "arc", "way", "part"]
theorem sc_rounded : FnScope n_rounded ["count", "arcs", "amounts", "divisor"] (defScope s_rounded) := ⟨rfl, rfl, rfl, by decide +kernel, rfl, by decide +kernel, by decide +kernel⟩
abbrev s_iA : Stmt := inClass (top 2) 0
abbrev s_iU : Stmt := inClass (top 3) 0
theorem S_BadArc : XS.ErrSyn "BadArc.__init__" s_iA "arc" [] where
  body := ⟨_, _, _, _, _, _, _, _, _, _, _, _, _, rfl, .nil, by decide +kernel⟩
  ar := ⟨_, rfl, rfl⟩
  kind := rfl
  sup := rfl
  cls := rfl
  self := rfl
  loc := by decide +kernel
  cell := by decide +kernel
  co := rfl
  gen := rfl
  nd := by decide +kernel
  short := by decide
  bind := fun _ _ _ _ _ _ _ us hl s => match us, hl with | [_, _], _ => .of_eq rfl
theorem S_Unbalanced : XS.ErrSyn "Unbalanced.__init__" s_iU "node" [] where
  body := ⟨_, _, _, _, _, _, _, _, _, _, _, _, _, rfl, .nil, by decide +kernel⟩
  ar := ⟨_, rfl, rfl⟩
  kind := rfl
  sup := rfl
  cls := rfl
  self := rfl
  loc := by decide +kernel
  cell := by decide +kernel
  co := rfl
  gen := rfl
  nd := by decide +kernel
  short := by decide
  bind := fun _ _ _ _ _ _ _ us hl s => match us, hl with | [_, _], _ => .of_eq rfl
/-- what the top has written -/
structure Txt (P : Program) (K : PySem.W.Frag) (mg : Str → Option Value) (CA CU : Addr) : Prop extends Blt mg where
  arc : ∃ fI, XS.ErrTxt P K mg "BadArc" "BadArc.__init__" s_iA ["arc"] CA fI
  unb : ∃ fI, XS.ErrTxt P K mg "Unbalanced" "Unbalanced.__init__" s_iU ["node"] CU fI
/-- at a: the list of these arcs -/
def ArcsAt (K : PySem.W.Frag) (H : Hp) (a : Addr) (arcs : List Cir.Arc) : Prop :=
  ∃ ts : List Addr, SqL K H a (ts.map V.ref) ∧ ts.length = arcs.length ∧ ∀ (k : Nat) (t : Addr) (p : Cir.Arc), ts[k]? = some t → arcs[k]? = some p → SqT K H t [.int p.1, .int p.2]
theorem ArcsAt.fr {K : PySem.W.Frag} {H H' : Hp} {a : Addr} {arcs : List Cir.Arc} (h : ArcsAt K H a arcs) (e : Fr [] H H') : ArcsAt K H' a arcs := by
  obtain ⟨ts, h1, h2, h3⟩ := h
  exact ⟨ts, e.l h1, h2, fun k t p a b => e.t (h3 k t p a b)⟩
theorem ArcsAt.at {K : PySem.W.Frag} {H : Hp} {a : Addr} {arcs : List Cir.Arc} (h : ArcsAt K H a arcs) : ∃ ts : List Addr, SqL K H a (ts.map V.ref) ∧ ts.length = arcs.length ∧
    ∀ k, k < arcs.length → ∃ t, atI (ts.map V.ref) (k : Int) = some (.ref t) ∧ SqT K H t [.int (Cir.arcOf arcs k).1, .int (Cir.arcOf arcs k).2] := by
  obtain ⟨ts, h1, h2, h3⟩ := h
  refine ⟨ts, h1, h2, fun k hk => ?_⟩
  have e : ts[k]? = some (ts[k]'(by omega)) := List.getElem?_eq_getElem _
  exact ⟨_, at_map e, h3 k _ _ e (Cir.get_arc hk)⟩
theorem at_part {xs : List Int} {k : Nat} (h : k < xs.length) : atI (xs.map V.int) (k : Int) = some (.int (Cir.part xs k)) := at_map (Cir.get_part h)
/-- the first wrong arc -/
def spCheckEnds (K : PySem.W.Frag) (CA : Addr) : Sp := fun vs H Q E => ∃ (n : Nat) (a : Addr) (arcs : List Cir.Arc), vs = [.int (n : Int), .ref a] ∧ ArcsAt K H a arcs ∧ arcs.length ≤ 100000 ∧
  ((∀ k, k < arcs.length → Cir.Good n (Cir.arcOf arcs k)) → Q .non H) ∧
  (∀ k, k < arcs.length → ¬ Cir.Good n (Cir.arcOf arcs k) → (∀ j, j < k → Cir.Good n (Cir.arcOf arcs j)) → ∀ d, H d = none → E (.ref CA) (some d) (upd H d (.xd [(("arc" : Str), .int (k : Int))])))
/-- what enters each node less what leaves it -/
def spSpare (K : PySem.W.Frag) : Sp := fun vs H Q _ => ∃ (n : Nat) (a am : Addr) (arcs : List Cir.Arc) (xs : List Int), vs = [.int (n : Int), .ref a, .ref am] ∧ ArcsAt K H a arcs ∧ SqL K H am (xs.map V.int) ∧ arcs.length = xs.length ∧ arcs.length ≤ 100000 ∧ n ≤ 100000 ∧
  (∀ k, k < arcs.length → Cir.Good n (Cir.arcOf arcs k)) ∧ ∀ (p : Addr) (H' : Hp), H p = none → Fr [] H H' → H' p = some (.lst ((Cir.spareL n arcs xs).map V.int)) → Q (.ref p) H'
/-- the first node that is not in balance -/
def spCheckBal (K : PySem.W.Frag) (CU : Addr) : Sp := fun vs H Q E => ∃ (n : Nat) (a am : Addr) (arcs : List Cir.Arc) (xs : List Int), vs = [.int (n : Int), .ref a, .ref am] ∧ ArcsAt K H a arcs ∧ SqL K H am (xs.map V.int) ∧ arcs.length = xs.length ∧ arcs.length ≤ 100000 ∧ n ≤ 100000 ∧
  (∀ k, k < arcs.length → Cir.Good n (Cir.arcOf arcs k)) ∧ ((∀ v : Nat, v < n → Cir.net arcs xs v = 0) → ∀ H', Fr [] H H' → Q .non H') ∧
  (∀ v : Nat, v < n → Cir.net arcs xs v ≠ 0 → (∀ u : Nat, u < v → Cir.net arcs xs u = 0) → ∀ (d : Addr) (H' : Hp), Fr [] H H' → H' d = some (.xd [(("node" : Str), .int (v : Int))]) → E (.ref CU) (some d) H')
section
variable {P : Program} {w : World} {K : PySem.W.Frag} {mg : Str → Option Value} {base : Heap} {CA CU : Addr}
theorem ok_check_ends {f : Addr} {fd : FuncData} (F : Fun K "_check_ends" "_check_ends" s_check_ends f fd) (T : Txt P K mg CA CU) : FnOk P w K mg base (L2.CX P w) 2 f fd ["count", "arcs"] (spCheckEnds K CA) := by
  refine F.okX sc_check_ends (fun vs H Q E h => ?_) (fun cdv A outer s H vs Q E hr h => ?_)
  · obtain ⟨n, a, arcs, rfl, _⟩ := h
    rfl
  · obtain ⟨n, a, arcs, rfl, hA, hl, kQ, kE⟩ := h
    obtain ⟨fI, TA⟩ := T.arc
    refine ⟨_, (pss_one (ps_for (passes_of rfl) rfl (pi_range1 (by rfl) T.m_range (pa_cons (pe_callB call_len_seq (by rfl) T.m_len (by decide +kernel) (pa_cons (pv 1) pa_nil)) pa_nil)) (pg_name (i := 2) sc_check_ends.nd rfl (Or.inl rfl))
      (pss_cons (ps_par (i := 3) (j := 4) rfl sc_check_ends.nd rfl rfl (by decide) rfl rfl (pa_cons (pe_ix ix_tup (pe_ix ix_list (pv 1) (pv 2) (fun _ _ => rfl)) pe_int (fun _ _ => rfl)) (pa_cons (pe_ix ix_tup (pe_ix ix_list (pv 1) (pv 2) (fun _ _ => rfl)) pe_int (fun _ _ => rfl)) pa_nil)) (by rfl))
      (pss_one (ps_if (PW.pt (pw_or (pt_not (pt_chain op_le op_lt pe_int (pv 3) (pv 0))) (pw_or (pt_not (pt_chain op_le op_lt pe_int (pv 4) (pv 0))) (pw_or1 (pt_cmpR op_eq (pv 3) (pv 4) (nomark _))))))
        (pss_one (ps_raiseErr rfl TA S_BadArc hr (takes_of rfl rfl rfl rfl) (pa_cons (pv 2) pa_nil)))
        pss_nil))))), ?_⟩
    obtain ⟨ts, hL, hn, hT⟩ := hA.at
    refine ⟨_, rfl, _, _, rfl, .inl hL, _, rfl, (rg_ok (by simp; omega)).1, (rg_ok (by simp; omega)).2, for_rng (n := (ts.map V.ref).length) (fun i σ H' => H' = H ∧ (∀ j, j < i → Cir.Good n (Cir.arcOf arcs j)) ∧ ∃ o1 o2 o3 : Option V, σ = [some (.int (n : Int)), some (.ref a), o1, o2, o3])
      ⟨rfl, fun j hj => by omega, _, _, _, rfl⟩ ?_ ?_⟩
    · rintro i σ H' hi ⟨rfl, hgood, o1, o2, o3, rfl⟩
      rw [List.length_map, hn] at hi
      obtain ⟨t, e1, e2⟩ := hT i hi
      refine ⟨_, rfl, _, rfl, _, _, _, _, rfl, rfl, hL, e1, _, _, _, _, rfl, rfl, e2, rfl, ?_⟩
      refine ⟨_, rfl, _, rfl, _, _, _, _, rfl, rfl, hL, e1, _, _, _, _, rfl, rfl, e2, rfl, _, _, rfl, ?_⟩
      have bad : ¬ Cir.Good n (Cir.arcOf arcs i) → tRaiseE CA [("arc" : Str)] (fun cls d _ H => E cls d H) (tCons (tVar 2) tNil) noEnds [some (.int (n : Int)), some (.ref a), some (.int (i : Int)), some (.int (Cir.arcOf arcs i).1), some (.int (Cir.arcOf arcs i).2)] H' :=
        fun hb => ⟨_, rfl, rfl, fun d hd => kE i hi hb hgood d hd⟩
      refine ⟨_, rfl, _, _, rfl, rfl, _, rfl, dec_iff (fun g1 => ⟨_, rfl, _, _, rfl, rfl, _, rfl, ?_⟩) fun b1 => ⟨_, rfl, iteT (bad (fun g => b1 g.1.1))⟩⟩
      refine bool_iff (fun b2 => bad (fun g => ?_)) fun g2 => ?_
      · have := g.1.2
        simp [this] at b2
      refine ⟨_, rfl, _, _, rfl, rfl, _, rfl, dec_iff (fun g3 => ⟨_, rfl, _, _, rfl, rfl, _, rfl, ?_⟩) fun b1 => ⟨_, rfl, iteT (bad (fun g => b1 g.2.1.1))⟩⟩
      refine bool_iff (fun b2 => bad (fun g => ?_)) fun g4 => ?_
      · have := g.2.1.2
        simp [this] at b2
      refine ⟨_, rfl, _, rfl, rfl, _, rfl, ?_⟩
      refine dec_iff (fun b5 => bad (fun g => ?_)) fun g5 => ?_
      · exact g.2.2 (V.int.inj b5)
      · refine ⟨rfl, fun j hj => ?_, _, _, _, rfl⟩
        by_cases c : j < i
        · exact hgood j c
        · have e : j = i := by omega
          subst e
          exact ⟨⟨g1, by simpa using g2⟩, ⟨g3, by simpa using g4⟩, fun e => g5 (congrArg V.int e)⟩
    · rintro σ H' ⟨rfl, hgood, o1, o2, o3, rfl⟩
      refine kQ fun k hk => hgood k ?_
      rw [List.length_map, hn]
      exact hk
theorem ok_spare {f : Addr} {fd : FuncData} (F : Fun K "_spare" "_spare" s_spare f fd) (T : Txt P K mg CA CU) : FnOk P w K mg base CX0 1 f fd ["count", "arcs", "amounts"] (spSpare K) := by
  refine F.ok sc_spare (fun vs H Q E h => ?_) (fun cdv A outer s H vs Q E hr h => ?_)
  · obtain ⟨n, a, am, arcs, xs, rfl, _⟩ := h
    rfl
  · obtain ⟨n, a, am, arcs, xs, rfl, hA, hX, hlx, hl, hn, hgood, k⟩ := h
    refine ⟨_, (pss_cons (ps_set (i := 3) sc_spare.nd rfl (Or.inl rfl) (pe_op op_rep (pe_lst (pa_cons pe_int pa_nil)) (pv 0)))
    (pss_cons (ps_for PassesOwn.never rfl (pi_range1 (by rfl) T.m_range (pa_cons (pe_callB call_len_seq (by rfl) T.m_len (by decide +kernel) (pa_cons (pv 1) pa_nil)) pa_nil)) (pg_name (i := 4) sc_spare.nd rfl (Or.inl rfl))
      (pss_cons (ps_augS (pv 3) (pe_ix ix_tup (pe_ix ix_list (pv 1) (pv 4) (fun _ _ => rfl)) pe_int (fun _ _ => rfl)) pget_list (pe_ix ix_list (pv 2) (pv 4) (fun _ _ => rfl)) ip_sub set_list)
      (pss_one (ps_augS (pv 3) (pe_ix ix_tup (pe_ix ix_list (pv 1) (pv 4) (fun _ _ => rfl)) pe_int (fun _ _ => rfl)) pget_list (pe_ix ix_list (pv 2) (pv 4) (fun _ _ => rfl)) ip_add set_list))))
    (pss_one (ps_ret (pv 3))))), ?_⟩
    obtain ⟨ts, hL, hts, hT⟩ := hA.at
    refine ⟨by show 1 ≤ sizeLine; decide, fun l0 hl0 => ⟨_, rfl, l0, _, _, rfl, rfl, upd_same, by omega, by omega, ?_, fun p hp => ?_⟩⟩
    · show 1 * (n : Int).toNat ≤ sizeLine
      rw [Nat.one_mul]
      exact len_line hn
    have np : H p = none := ((Fr.refl [] H).new hl0).free hp
    have e0 : (List.replicate (n : Int).toNat [V.int 0]).flatten = (Cir.spareL n [] []).map V.int := by
      rw [Cir.spareL_zero, List.map_replicate, rep_one]
      rfl
    rw [e0]
    refine ⟨_, rfl, _, _, rfl, .inl ?_, _, rfl, (rg_ok (by simp; omega)).1, (rg_ok (by simp; omega)).2, for_rng (n := (ts.map V.ref).length)
      (fun i σ H' => Fr [] H H' ∧ H' p = some (.lst ((Cir.spareL n (arcs.take i) (xs.take i)).map V.int)) ∧ ∃ o : Option V, σ = [some (.int (n : Int)), some (.ref a), some (.ref am), some (.ref p), o])
      ⟨((Fr.refl [] H).new hl0).new hp, upd_same, _, rfl⟩ ?_ ?_⟩
    · exact (((Fr.refl [] H).new hl0).new hp).l hL
    · rintro i σ H' hi ⟨e, h1, o, rfl⟩
      rw [List.length_map, hts] at hi
      obtain ⟨t, e1, e2⟩ := hT i hi
      have g := hgood i hi
      have len1 : (arcs.take i).length = (xs.take i).length := by rw [List.length_take, List.length_take, hlx]
      have i1 : (Cir.arcOf arcs i).1.toNat < (Cir.spareL n (arcs.take i) (xs.take i)).length := by rw [Cir.spareL_len]; have := g.1; omega
      have i2 : (Cir.arcOf arcs i).2.toNat < (Cir.spareL n (arcs.take i) (xs.take i)).length := by rw [Cir.spareL_len]; have := g.2.1; omega
      refine ⟨_, rfl, _, rfl, _, rfl, _, _, _, _, rfl, rfl, e.l hL, e1, _, _, _, _, rfl, rfl, e.t e2, rfl, ?_⟩
      refine ⟨_, _, _, _, rfl, rfl, SqL.of h1, at_int g.1.1 (by rw [List.getElem?_map, Cir.spareL_get g.1.1 g.1.2]; rfl), ?_⟩
      refine ⟨_, rfl, _, rfl, _, _, _, _, rfl, rfl, e.l hX, at_part (by omega), _, _, rfl, rfl, _, _, _, _, rfl, rfl, h1, ix_int g.1.1 (by rw [List.length_map, Cir.spareL_len]; exact g.1.2), ?_⟩
      have e' : Fr [] H (upd H' p (.lst (((Cir.spareL n (arcs.take i) (xs.take i)).map V.int).set (Cir.arcOf arcs i).1.toNat (.int (Cir.net (arcs.take i) (xs.take i) (Cir.arcOf arcs i).1 - Cir.part xs i))))) := e.put (.inr np)
      refine ⟨_, rfl, _, rfl, _, rfl, _, _, _, _, rfl, rfl, e'.l hL, e1, _, _, _, _, rfl, rfl, e'.t e2, rfl, ?_⟩
      refine ⟨_, _, _, _, rfl, rfl, SqL.of upd_same, at_int (v := V.int (Cir.net (arcs.take i) (xs.take i) (Cir.arcOf arcs i).2)) g.2.1.1 ?_, ?_⟩
      · rw [List.getElem?_set_ne (by have := g.1; have := g.2.1; have := g.2.2; omega), List.getElem?_map, Cir.spareL_get g.2.1.1 g.2.1.2]
        rfl
      refine ⟨_, rfl, _, rfl, _, _, _, _, rfl, rfl, e'.l hX, at_part (by omega), _, _, rfl, rfl, _, _, _, _, rfl, rfl, upd_same, ix_int g.2.1.1 (by rw [List.length_set, List.length_map, Cir.spareL_len]; exact g.2.1.2), ?_⟩
      refine ⟨e'.put (.inr np), ?_, _, rfl⟩
      rw [upd_same]
      have st := Cir.spare_step (n := n) (x := Cir.part xs i) len1 g
      rw [take_succ (Cir.get_arc hi), take_succ (Cir.get_part (by omega)), ← st, List.map_set, List.map_set]
    · rintro σ H' ⟨e, h1, o, rfl⟩
      rw [List.length_map, hts, List.take_length, hlx, List.take_length] at h1
      exact ⟨_, rfl, k p H' np e h1⟩
theorem ok_check_balance {f : Addr} {fd : FuncData} (F : Fun K "_check_balance" "_check_balance" s_check_balance f fd) (T : Txt P K mg CA CU)
    (F_spare : FnB P w K mg base CX0 1 "_spare" ["count", "arcs", "amounts"] (spSpare K)) : FnOk P w K mg base (L2.CX P w) 3 f fd ["count", "arcs", "amounts"] (spCheckBal K CU) := by
  refine F.okX sc_check_balance (fun vs H Q E h => ?_) (fun cdv A outer s H vs Q E hr h => ?_)
  · obtain ⟨n, a, am, arcs, xs, rfl, _⟩ := h
    rfl
  · obtain ⟨n, a, am, arcs, xs, rfl, hA, hX, hlx, hl, hn, hgood, kQ, kE⟩ := h
    obtain ⟨fI, TU⟩ := T.unb
    refine ⟨_, (pss_cons (ps_set (i := 3) sc_check_balance.nd rfl (Or.inl rfl) (pe_callF F_spare (hr.mono (by decide)) rfl pass0 (pa_cons (pv 0) (pa_cons (pv 1) (pa_cons (pv 2) pa_nil)))))
    (pss_one (ps_for (passes_of rfl) rfl (pi_range1 (by rfl) T.m_range (pa_cons (pv 0) pa_nil)) (pg_name (i := 4) sc_check_balance.nd rfl (Or.inl rfl))
      (pss_one (ps_if (pt_cmpR op_ne (pe_ix ix_list (pv 3) (pv 4) (fun _ _ => rfl)) pe_int (nomark _))
        (pss_one (ps_raiseErr rfl TU S_Unbalanced hr (takes_of rfl rfl rfl rfl) (pa_cons (pv 4) pa_nil)))
        pss_nil))))), ?_⟩
    refine ⟨_, rfl, _, rfl, _, rfl, n, a, am, arcs, xs, rfl, hA, hX, hlx, hl, hn, hgood, fun p H1 np e1 h1 => ?_⟩
    refine ⟨_, rfl, _, rfl, (rg_ok (by omega)).1, (rg_ok (by omega)).2, for_rng (n := n)
      (fun i σ H' => H' = H1 ∧ (∀ u : Nat, u < i → Cir.net arcs xs u = 0) ∧ ∃ o : Option V, σ = [some (.int (n : Int)), some (.ref a), some (.ref am), some (.ref p), o])
      ⟨rfl, fun u hu => by omega, _, rfl⟩ ?_ ?_⟩
    · rintro i σ H' hi ⟨rfl, hz, o, rfl⟩
      refine ⟨_, rfl, _, rfl, _, _, _, _, rfl, rfl, SqL.of h1, at_int (v := V.int (Cir.net arcs xs i)) (by omega) (by rw [List.getElem?_map, Cir.spareL_get (by omega) (by omega)]; rfl), rfl, _, rfl, ?_⟩
      refine bool_iff (fun b => ?_) fun b => ?_
      · have ne : Cir.net arcs xs i ≠ 0 := fun z => by
          rw [z] at b
          simp at b
        exact ⟨_, rfl, rfl, fun d hd => kE i hi ne hz d _ (e1.new hd) upd_same⟩
      · refine ⟨rfl, fun u hu => ?_, _, rfl⟩
        by_cases c : u < i
        · exact hz u c
        · have e : u = i := by omega
          subst e
          have := of_decide_eq_true (show decide (V.int (Cir.net arcs xs u) = V.int 0) = true by simpa using b)
          exact V.int.inj this
    · rintro σ H' ⟨rfl, hz, o, rfl⟩
      exact kQ hz _ e1
end
abbrev vN (k : Nat) : V := .int (k : Int)
/-- at p: for each node the numbers of the arcs that touch it -/
def NearAt (z : Addr → Prop) (H : Hp) (p : Addr) (n : Nat) (arcs : List Cir.Arc) : Prop :=
  ∃ rs : List Addr, rs.length = n ∧ H p = some (.lst (rs.map V.ref)) ∧ (∀ (v : Nat) (r : Addr), rs[v]? = some r → H r = some (.lst ((Cir.nearOf arcs v).map vN))) ∧ ∀ r ∈ rs, z r
theorem NearAt.fr {z : Addr → Prop} {H H' : Hp} {p : Addr} {n : Nat} {arcs : List Cir.Arc} (h : NearAt z H p n arcs) (e : Fr [] H H') : NearAt z H' p n arcs := by
  obtain ⟨rs, h1, h2, h3, h4⟩ := h
  exact ⟨rs, h1, e _ _ h2 (by simp), fun v r hr => e _ _ (h3 v r hr) (by simp), h4⟩
theorem NearAt.imp {z z' : Addr → Prop} {H : Hp} {p : Addr} {n : Nat} {arcs : List Cir.Arc} (h : NearAt z H p n arcs) (hz : ∀ r, z r → z' r) : NearAt z' H p n arcs := by
  obtain ⟨rs, h1, h2, h3, h4⟩ := h
  exact ⟨rs, h1, h2, h3, fun r hr => hz r (h4 r hr)⟩
/-- at p: a list of these pairs -/
def PairsAt (H : Hp) (p : Addr) (f : List (Nat × Int)) : Prop :=
  ∃ ts : List Addr, H p = some (.lst (ts.map V.ref)) ∧ ts.length = f.length ∧ ∀ (k : Nat) (t : Addr) (q : Nat × Int), ts[k]? = some t → f[k]? = some q → H t = some (.tup [.int (q.1 : Int), .int q.2])
def spNear (K : PySem.W.Frag) : Sp := fun vs H Q _ => ∃ (n : Nat) (a : Addr) (arcs : List Cir.Arc), vs = [.int (n : Int), .ref a] ∧ ArcsAt K H a arcs ∧ arcs.length ≤ 10000 ∧ n ≤ 10000 ∧
  (∀ k, k < arcs.length → Cir.Good n (Cir.arcOf arcs k)) ∧ ∀ (p : Addr) (H' : Hp), H p = none → Fr [] H H' → NearAt (fun r => H r = none) H' p n arcs → Q (.ref p) H'
def spOther (K : PySem.W.Frag) : Sp := fun vs H Q _ => ∃ (r pp : Addr) (row : List Nat) (xs : List Int) (d : Int) (came : Nat), vs = [.ref r, .ref pp, .int d, .int (came : Int)] ∧ SqL K H r (row.map vN) ∧ SqL K H pp (xs.map V.int) ∧
  (∀ k ∈ row, k < xs.length) ∧ 0 < d ∧ Q (.int ((Cir.other row xs d came : Nat) : Int)) H
def spRound (K : PySem.W.Frag) : Sp := fun vs H Q _ => ∃ (n : Nat) (a ne pp : Addr) (arcs : List Cir.Arc) (xs : List Int) (d : Int) (start : Nat), vs = [.ref a, .ref ne, .ref pp, .int d, .int (start : Int)] ∧ ArcsAt K H a arcs ∧ NearAt (fun _ => True) H ne n arcs ∧ SqL K H pp (xs.map V.int) ∧
  arcs.length = xs.length ∧ arcs.length ≤ 10000 ∧ n ≤ 10000 ∧ (∀ k, k < arcs.length → Cir.Good n (Cir.arcOf arcs k)) ∧ (∀ v, Cir.net arcs xs v % d = 0) ∧ 0 < d ∧ start < arcs.length ∧ Cir.frac xs d start = true ∧
  ∀ (p : Addr) (H' : Hp), H p = none → Fr [] H H' → PairsAt H' p (Cir.roundOf n arcs xs d start) → Q (.ref p) H'
section
variable {P : Program} {w : World} {K : PySem.W.Frag} {mg : Str → Option Value} {base : Heap} {CA CU : Addr}
theorem ok_near {f : Addr} {fd : FuncData} (F : Fun K "_near" "_near" s_near f fd) (T : Txt P K mg CA CU) : FnOk P w K mg base CX0 1 f fd ["count", "arcs"] (spNear K) := by
  refine F.ok sc_near (fun vs H Q E h => ?_) (fun cdv A outer s H vs Q E hr h => ?_)
  · obtain ⟨n, a, arcs, rfl, _⟩ := h
    rfl
  · obtain ⟨n, a, arcs, rfl, hA, hl, hn, hgood, k⟩ := h
    refine ⟨_, (pss_cons (ps_setLc (i := 2) (own := [("_", 4)]) rfl sc_near.nd rfl rfl (sw_true rfl rfl rfl (by decide +kernel)) (pi_range1 (by rfl) T.m_range (pa_cons (pv 0) pa_nil)) (blkOk_by (own := [("_", 4)]) (N := n_near) (sc := defScope s_near) (by decide +kernel)) (fun _ _ _ _ _ => (pg_name (i := 4) sc_near.nd rfl (Or.inl rfl))) (fun _ _ _ _ _ => pts_nil) (fun _ _ _ _ _ => (pe_lst pa_nil)))
    (pss_cons (ps_for PassesOwn.never rfl (pi_range1 (by rfl) T.m_range (pa_cons (pe_callB call_len_seq (by rfl) T.m_len (by decide +kernel) (pa_cons (pv 1) pa_nil)) pa_nil)) (pg_name (i := 3) sc_near.nd rfl (Or.inl rfl))
      (pss_cons (ps_expr (pe_bm PySem.F.plainAttrs_list PySem.F.slot_list_append PySem.F.type_list_append mt_append (pe_ix ix_list (pv 2) (pe_ix ix_tup (pe_ix ix_list (pv 1) (pv 3) (fun _ _ => rfl)) pe_int (fun _ _ => rfl)) (fun _ _ => rfl)) (pa_cons (pv 3) pa_nil)))
      (pss_one (ps_expr (pe_bm PySem.F.plainAttrs_list PySem.F.slot_list_append PySem.F.type_list_append mt_append (pe_ix ix_list (pv 2) (pe_ix ix_tup (pe_ix ix_list (pv 1) (pv 3) (fun _ _ => rfl)) pe_int (fun _ _ => rfl)) (fun _ _ => rfl)) (pa_cons (pv 3) pa_nil))))))
    (pss_one (ps_ret (pv 2))))), ?_⟩
    obtain ⟨ts, hL, hts, hT⟩ := hA.at
    refine ⟨_, rfl, _, rfl, (rg_ok (by omega)).1, (rg_ok (by omega)).2, fun D hD => lc_rng (n := n)
      (fun i H' => ∃ rs : List Addr, rs.length = i ∧ H' D = some (.lst (rs.map V.ref)) ∧ Fr [] H H' ∧ rs.Nodup ∧ ∀ r ∈ rs, H r = none ∧ r ≠ D ∧ H' r = some (.lst [])) ⟨[], rfl, upd_same, (Fr.refl _ _).new hD, List.nodup_nil, fun r h => by simp at h⟩ ?_ ?_⟩
    · rintro i H' hi ⟨rs, h1, h2, e, nd, h3⟩
      refine ⟨rfl, by show 0 ≤ sizeLine; exact Nat.zero_le _, fun q hq => ⟨_, by rw [upd_ne (ne_of_none h2 hq)]; exact h2, len_lt (by rw [List.length_map]; omega), rs ++ [q], ?_⟩⟩
      have hqD : q ≠ D := (ne_of_none h2 hq).symm
      refine ⟨by simp [h1], ?_, (e.new hq).put (.inr hD), ?_, fun r hr => ?_⟩
      · rw [upd_same, List.map_append]
        rfl
      · rw [List.nodup_append]
        refine ⟨nd, by simp, fun x hx y hy => ?_⟩
        rw [List.mem_singleton] at hy
        subst hy
        exact ne_of_none (h3 x hx).2.2 hq
      · rcases List.mem_append.mp hr with hr | hr
        · have z := h3 r hr
          exact ⟨z.1, z.2.1, by rw [upd_ne z.2.1, upd_ne (ne_of_none z.2.2 hq)]; exact z.2.2⟩
        · rw [List.mem_singleton] at hr
          subst hr
          exact ⟨e.free hq, hqD, by rw [upd_ne hqD]; exact upd_same⟩
    · rintro H1 ⟨rs, h1, h2, e1, nd, h3⟩
      refine ⟨_, rfl, _, _, rfl, .inl (e1.l hL), _, rfl, (rg_ok (by simp; omega)).1, (rg_ok (by simp; omega)).2, for_rng (n := (ts.map V.ref).length)
        (fun i σ H' => Fr [] H H' ∧ H' D = some (.lst (rs.map V.ref)) ∧ (∀ (v : Nat) (r : Addr), rs[v]? = some r → H' r = some (.lst ((Cir.nearI arcs i v).map vN))) ∧ ∃ o1 o2 : Option V, σ = [some (.int (n : Int)), some (.ref a), some (.ref D), o1, o2])
        ⟨e1, h2, fun v r hr => (h3 r (List.mem_of_getElem? hr)).2.2, _, _, rfl⟩ ?_ ?_⟩
      · rintro i σ H' hi ⟨e, g1, g2, o1, o2, rfl⟩
        rw [List.length_map, hts] at hi
        obtain ⟨t, a1, a2⟩ := hT i hi
        have g := hgood i hi
        have b1 : (Cir.arcOf arcs i).1.toNat < rs.length := by have := g.1; omega
        have b2 : (Cir.arcOf arcs i).2.toNat < rs.length := by have := g.2.1; omega
        have c1 := List.getElem?_eq_getElem b1
        have c2 := List.getElem?_eq_getElem b2
        generalize rs[(Cir.arcOf arcs i).1.toNat] = r1 at c1
        generalize rs[(Cir.arcOf arcs i).2.toNat] = r2 at c2
        have n12 : r1 ≠ r2 := fun z => by
          subst z
          obtain ⟨p1, q1⟩ := List.getElem?_eq_some_iff.mp c1
          obtain ⟨p2, q2⟩ := List.getElem?_eq_some_iff.mp c2
          have := (List.getElem_inj nd).mp (q1.trans q2.symm)
          have := g.1; have := g.2.1; have := g.2.2
          omega
        have m1 := h3 r1 (List.mem_of_getElem? c1)
        have m2 := h3 r2 (List.mem_of_getElem? c2)
        have f1 := g2 _ r1 c1
        have f2 := g2 _ r2 c2
        refine ⟨_, rfl, _, rfl, _, rfl, _, _, _, _, rfl, rfl, e.l hL, a1, _, _, _, _, rfl, rfl, e.t a2, rfl, _, _, _, _, rfl, rfl, SqL.of g1, at_int (v := V.ref r1) g.1.1 (by rw [List.getElem?_map, c1]; rfl), ?_⟩
        refine ⟨.inl ⟨rfl, _, SqL.of f1⟩, _, rfl, _, _, _, rfl, rfl, f1, len_lt (by rw [List.length_map]; have := Cir.nearI_len arcs i (((Cir.arcOf arcs i).1.toNat : Nat) : Int); omega), ?_⟩
        have e' := e.put (p := r1) (o := .lst ((Cir.nearI arcs i (((Cir.arcOf arcs i).1.toNat : Nat) : Int)).map vN ++ [.int (i : Int)])) (.inr m1.1)
        have g1' : (upd H' r1 (.lst ((Cir.nearI arcs i (((Cir.arcOf arcs i).1.toNat : Nat) : Int)).map vN ++ [.int (i : Int)]))) D = some (.lst (rs.map V.ref)) := by rw [upd_ne (Ne.symm m1.2.1)]; exact g1
        have f2' : (upd H' r1 (.lst ((Cir.nearI arcs i (((Cir.arcOf arcs i).1.toNat : Nat) : Int)).map vN ++ [.int (i : Int)]))) r2 = some (.lst ((Cir.nearI arcs i (((Cir.arcOf arcs i).2.toNat : Nat) : Int)).map vN)) := by rw [upd_ne (Ne.symm n12)]; exact f2
        refine ⟨_, rfl, _, rfl, _, rfl, _, _, _, _, rfl, rfl, e'.l hL, a1, _, _, _, _, rfl, rfl, e'.t a2, rfl, _, _, _, _, rfl, rfl, SqL.of g1', at_int (v := V.ref r2) g.2.1.1 (by rw [List.getElem?_map, c2]; rfl), ?_⟩
        refine ⟨.inl ⟨rfl, _, SqL.of f2'⟩, _, rfl, _, _, _, rfl, rfl, f2', len_lt (by rw [List.length_map]; have := Cir.nearI_len arcs i (((Cir.arcOf arcs i).2.toNat : Nat) : Int); omega), ?_⟩
        refine ⟨e'.put (.inr m2.1), by rw [upd_ne (Ne.symm m2.2.1)]; exact g1', fun v r hv => ?_, _, _, rfl⟩
        have pos1 : (((Cir.arcOf arcs i).1.toNat : Nat) : Int) = (Cir.arcOf arcs i).1 := Int.toNat_of_nonneg g.1.1
        have pos2 : (((Cir.arcOf arcs i).2.toNat : Nat) : Int) = (Cir.arcOf arcs i).2 := Int.toNat_of_nonneg g.2.1.1
        have same : ∀ {u v : Nat} {r : Addr}, rs[u]? = some r → rs[v]? = some r → u = v := fun {u v r} x y => by
          obtain ⟨p1, q1⟩ := List.getElem?_eq_some_iff.mp x
          obtain ⟨p2, q2⟩ := List.getElem?_eq_some_iff.mp y
          exact (List.getElem_inj nd).mp (q1.trans q2.symm)
        rw [Cir.nearI_succ]
        by_cases z2 : r = r2
        · subst z2
          have ev := same c2 hv
          subst ev
          rw [upd_same, pos2]
          have : Cir.touch (Cir.arcOf arcs i) (Cir.arcOf arcs i).2 = true := by simp [Cir.touch]
          rw [if_pos this, List.map_append]
          rfl
        · rw [upd_ne z2]
          by_cases z1 : r = r1
          · subst z1
            have ev := same c1 hv
            subst ev
            rw [upd_same, pos1]
            have : Cir.touch (Cir.arcOf arcs i) (Cir.arcOf arcs i).1 = true := by simp [Cir.touch]
            rw [if_pos this, List.map_append]
            rfl
          · rw [upd_ne z1, g2 v r hv]
            have : ¬ Cir.touch (Cir.arcOf arcs i) (v : Int) = true := fun h => by
              unfold Cir.touch at h
              simp only [Bool.or_eq_true, decide_eq_true_eq] at h
              rcases h with h | h
              · have : v = (Cir.arcOf arcs i).1.toNat := by omega
                rw [this, c1] at hv
                exact z1 (Option.some.inj hv).symm
              · have : v = (Cir.arcOf arcs i).2.toNat := by omega
                rw [this, c2] at hv
                exact z2 (Option.some.inj hv).symm
            rw [if_neg this, List.append_nil]
      · rintro σ H' ⟨e, g1, g2, o1, o2, rfl⟩
        refine ⟨_, rfl, k D H' hD e ⟨rs, h1, g1, fun v r hr => ?_, fun r hr => (h3 r hr).1⟩⟩
        rw [List.length_map, hts] at g2
        exact g2 v r hr
theorem ok_other_arc {f : Addr} {fd : FuncData} (F : Fun K "_other_arc" "_other_arc" s_other_arc f fd) (T : Txt P K mg CA CU) : FnOk P w K mg base CX0 1 f fd ["row", "parts", "divisor", "came"] (spOther K) := by
  refine F.ok sc_other_arc (fun vs H Q E h => ?_) (fun cdv A outer s H vs Q E hr h => ?_)
  · obtain ⟨r, pp, row, xs, d, came, rfl, _⟩ := h
    rfl
  · obtain ⟨r, pp, row, xs, d, came, rfl, hR, hX, hin, hd, k⟩ := h
    refine ⟨_, (pss_cons (ps_for PassesOwn.never rfl (pi_list (pv 0)) (pg_name (i := 4) sc_other_arc.nd rfl (Or.inl rfl))
      (pss_one (ps_if (PW.pt (pw_and (pt_cmpR op_ne (pv 4) (pv 3) (nomark _)) (pw_and1 (pt_cmpR op_ne (pe_op op_mod (pe_ix ix_list (pv 1) (pv 4) (fun _ _ => rfl)) (pv 2)) pe_int (nomark _)))))
        (pss_one (ps_ret (pv 4)))
        pss_nil)))
    (pss_one (ps_ret (pv 3)))), ?_⟩
    refine ⟨_, rfl, _, rfl, ⟨_, hR⟩, for_list (K := K) (a := r) (xs := row.map vN) (fun i σ H' => H' = H ∧ Cir.other (row.drop i) xs d came = Cir.other row xs d came ∧ ∃ o : Option V, σ = [some (.ref r), some (.ref pp), some (.int d), some (.int (came : Int)), o])
      ⟨rfl, rfl, _, rfl⟩ (fun i σ H' _ ⟨e, _⟩ => by rw [e]; exact hR) ?_ ?_⟩
    · rintro i y σ H' hi ⟨rfl, ho, o, rfl⟩
      obtain ⟨z, hz, rfl⟩ := get_mapf hi
      obtain ⟨hz1, hz2⟩ := List.getElem?_eq_some_iff.mp hz
      have dr : row.drop i = z :: row.drop (i + 1) := by rw [List.drop_eq_getElem_cons hz1, hz2]
      have hzl := hin z (List.mem_of_getElem? hz)
      rw [dr] at ho
      unfold Cir.other at ho
      rw [List.find?_cons] at ho
      refine ⟨_, rfl, _, rfl, rfl, _, rfl, ?_⟩
      by_cases c : z = came
      · have e1 : (!decide (V.int (z : Int) = V.int (came : Int))) = false := by rw [c]; simp
        refine iteN e1 ?_
        have e2 : (decide (z ≠ came) && Cir.frac xs d z) = false := by simp [c]
        simp only [e2] at ho
        exact iteF ⟨rfl, ho, _, rfl⟩
      · have e1 : (!decide (V.int (z : Int) = V.int (came : Int))) = true := by
          have : ¬ V.int (z : Int) = V.int (came : Int) := fun h => c (by have := V.int.inj h; omega)
          simp [this]
        refine iteY e1 ?_
        refine ⟨_, rfl, _, rfl, _, _, _, _, rfl, rfl, hX, at_part hzl, _, rfl, _, _, rfl, rfl, hd, rfl, _, rfl, ?_⟩
        refine ne_if (fun b => ?_) fun b => ?_
        · have e2 : (decide (z ≠ came) && Cir.frac xs d z) = true := by
            unfold Cir.frac
            simp [c, b]
          simp only [e2] at ho
          refine ⟨_, rfl, ?_⟩
          have ho' : z = Cir.other row xs d came := ho
          rw [ho']
          exact k
        · have e2 : (decide (z ≠ came) && Cir.frac xs d z) = false := by
            unfold Cir.frac
            simp [b]
          simp only [e2] at ho
          exact ⟨rfl, ho, _, rfl⟩
    · rintro σ H' ⟨rfl, ho, o, rfl⟩
      rw [List.length_map, List.drop_length] at ho
      have ho' : came = Cir.other row xs d came := ho
      refine ⟨_, rfl, ?_⟩
      rw [← ho'] at k
      exact k
end
section
variable {P : Program} {w : World} {K : PySem.W.Frag} {mg : Str → Option Value} {base : Heap} {CA CU : Addr}
theorem PairsAt.snoc {H : Hp} {p t : Addr} {f : List (Nat × Int)} {q : Nat × Int} {H' : Hp} (h : PairsAt H p f) (e : ∀ a o, H a = some o → a ≠ p → H' a = some o) (hp : ∀ ts : List Addr, H p = some (.lst (ts.map V.ref)) → H' p = some (.lst (ts.map V.ref ++ [.ref t])))
    (ht : H' t = some (.tup [.int (q.1 : Int), .int q.2])) : PairsAt H' p (f ++ [q]) := by
  obtain ⟨ts, h1, h2, h3⟩ := h
  refine ⟨ts ++ [t], ?_, by simp [h2], fun k u r hu hr => ?_⟩
  · rw [List.map_append]
    exact hp ts h1
  · rcases Cir.getElem?_snoc_last hu with ⟨c1, hu⟩ | ⟨c1, rfl⟩
    · rcases Cir.getElem?_snoc_last hr with ⟨c2, hr⟩ | ⟨c2, _⟩
      · refine e _ _ (h3 k u r hu hr) fun z => ?_
        rw [z] at hu
        have := h3 k p r hu hr
        rw [h1] at this
        cases this
      · omega
    · rcases Cir.getElem?_snoc_last hr with ⟨c2, hr⟩ | ⟨c2, rfl⟩
      · omega
      · exact ht
theorem ok_fraction_round {f : Addr} {fd : FuncData} (F : Fun K "_fraction_round" "_fraction_round" s_fraction_round f fd) (T : Txt P K mg CA CU)
    (F_other_arc : FnB P w K mg base CX0 1 "_other_arc" ["row", "parts", "divisor", "came"] (spOther K)) : FnOk P w K mg base CX0 2 f fd ["arcs", "near", "parts", "divisor", "start"] (spRound K) := by
  refine F.ok sc_fraction_round (fun vs H Q E h => ?_) (fun cdv A outer s H vs Q E hr h => ?_)
  · obtain ⟨n, a, ne, pp, arcs, xs, d, start, rfl, _⟩ := h
    rfl
  · obtain ⟨n, a, ne, pp, arcs, xs, d, start, rfl, hA, hN, hX, hlx, hl, hn, hgood, hbal, hd, hst, hfr, k⟩ := h
    have hu := hu_of hr
    refine ⟨_, (pss_cons (ps_set (i := 5) sc_fraction_round.nd rfl (Or.inl rfl) (pe_ix ix_tup (pe_ix ix_list (pv 0) (pv 4) (fun _ _ => rfl)) pe_int (fun _ _ => rfl)))
    (pss_cons (ps_set (i := 6) sc_fraction_round.nd rfl (Or.inl rfl) (pv 4))
    (pss_cons (ps_set (i := 7) sc_fraction_round.nd rfl (Or.inl rfl) (pe_lst pa_nil))
    (pss_cons (ps_set (i := 8) sc_fraction_round.nd rfl (Or.inl rfl) (pe_disp (pps_cons (pv 5) pe_int pps_nil) (by rfl) (by rfl) (fun z => by cases z) (by decide)))
    (pss_one (ps_while PassesOwn.never (pt_val pe_bl)
      (pss_cons (ps_set (i := 9) sc_fraction_round.nd rfl (Or.inl rfl) pe_int)
      (Evl.pss_cut (ps_if (pt_cmpR op_eq (pe_ix ix_tup (pe_ix ix_list (pv 0) (pv 6) (fun _ _ => rfl)) pe_int (fun _ _ => rfl)) (pv 5) (nomark _))
        (pss_one (ps_set (i := 5) sc_fraction_round.nd rfl (Or.inl rfl) (pe_ix ix_tup (pe_ix ix_list (pv 0) (pv 6) (fun _ _ => rfl)) pe_int (fun _ _ => rfl))))
        (pss_cons (ps_set (i := 5) sc_fraction_round.nd rfl (Or.inl rfl) (pe_ix ix_tup (pe_ix ix_list (pv 0) (pv 6) (fun _ _ => rfl)) pe_int (fun _ _ => rfl)))
        (pss_one (ps_set (i := 9) sc_fraction_round.nd rfl (Or.inl rfl) (pe_un un_neg pe_int)))))
      (pss_cons (ps_expr (pe_bm PySem.F.plainAttrs_list PySem.F.slot_list_append PySem.F.type_list_append mt_append (pv 7) (pa_cons (pe_tup (pa_cons (pv 6) (pa_cons (pv 9) pa_nil))) pa_nil)))
      (pss_cons (ps_if (pt_cmp (pc_din hu (pv 5) (pv 8)))
        (pss_one (ps_ret (pe_slice sl_list (pv 7) (po_some (pe_dget hu (pv 8) (pv 5) (fun _ _ => rfl))) po_none)))
        pss_nil)
      (pss_cons (ps_dput hu (pv 8) (pv 5) (pe_callB call_len_seq (by rfl) T.m_len (by decide +kernel) (pa_cons (pv 7) pa_nil)) rfl)
      (pss_one (ps_set (i := 6) sc_fraction_round.nd rfl (Or.inl rfl) (pe_callF F_other_arc (hr.mono (by decide)) rfl pass0 (pa_cons (pe_ix ix_list (pv 1) (pv 5) (fun _ _ => rfl)) (pa_cons (pv 2) (pa_cons (pv 3) (pa_cons (pv 6) pa_nil)))))))))))))))))), ?_⟩
    obtain ⟨ts, hL, hts, hT⟩ := hA.at
    obtain ⟨t0, x1, x2⟩ := hT start hst
    refine ⟨_, rfl, _, rfl, _, _, _, _, rfl, rfl, hL, x1, _, _, _, _, rfl, rfl, x2, rfl, ?_⟩
    refine ⟨_, rfl, by show 0 ≤ sizeLine; exact Nat.zero_le _, fun pa hpa p hp => ⟨_, rfl, upd_same, [((Sum.inl (Cir.arcOf arcs start).1 : Key), V.int 0)], rfl, by show 1 ≤ 15; decide, ?_⟩⟩
    have npa : pa ≠ p := ne_of_none upd_same hp
    have hp0 : H p = none := ((Fr.refl [] H).new hpa).free hp
    refine while_true (fun m σ H' => ∃ (f : Nat) (vs : List Int) (path : List (Nat × Int)) (node : Int) (arc : Nat) (o : Option V), m = n + 1 - vs.length ∧ σ = [some (.ref a), some (.ref ne), some (.ref pp), some (.int d), some (.int (start : Int)), some (.int node), some (.int (arc : Int)), some (.ref pa), some (.ref p), o] ∧
      Cir.fround arcs xs d f vs path node arc = Cir.roundOf n arcs xs d start ∧ Cir.St0 n arcs xs d vs path node arc ∧ n + 1 ≤ f + vs.length ∧ Fr [] H H' ∧ PairsAt H' pa path ∧ H' p = some (.dK (kvsOf vs 0)))
      (n + 1 - 1) ⟨n + 1, [(Cir.arcOf arcs start).1], [], (Cir.arcOf arcs start).1, start, none, rfl, rfl, rfl, ?_, by simp, ?_, ?_, ?_⟩ ?_
    · refine ⟨trivial, by simp, rfl, fun v hv => ?_, ⟨hst, hfr, by simp [Cir.touch]⟩, fun q hq => by simp at hq, fun i q q' h => by simp at h, fun q h => by simp at h⟩
      rw [List.mem_singleton] at hv
      subst hv
      exact (hgood start hst).1
    · rw [upd_upd]
      exact ((Fr.refl [] H).new hpa).new hp
    · refine ⟨[], ?_, rfl, fun k t q h => by simp at h⟩
      rw [upd_ne npa, upd_ne npa]
      exact upd_same
    · exact upd_same
    · rintro m σ H' ⟨f, vs, path, node, arc, o, rfl, rfl, hf, S, hfu, e, hP, hK⟩
      obtain ⟨t, y1, y2⟩ := hT arc S.ar.1
      cases f with
      | zero =>
        have := Cir.nodup_le n vs S.nd S.rng
        omega
      | succ f =>
        unfold Cir.fround at hf
        have ste := Cir.stepN_ste S.ar.2.2
        have far := ste.1.far (hgood arc S.ar.1)
        -- way = 1; if ..
        refine ⟨fun σ' H2 => H2 = H' ∧ σ' = [some (.ref a), some (.ref ne), some (.ref pp), some (.int d), some (.int (start : Int)), some (.int (Cir.stepN arcs arc node).1), some (.int (arc : Int)), some (.ref pa), some (.ref p), some (.int (Cir.stepN arcs arc node).2)], ?_, ?_⟩
        · refine ⟨_, rfl, _, rfl, _, _, _, _, rfl, rfl, e.l hL, y1, _, _, _, _, rfl, rfl, e.t y2, rfl, _, rfl, rfl, _, rfl, eq_if (fun c => ?_) fun c => ?_⟩
          · refine ⟨_, rfl, _, rfl, _, _, _, _, rfl, rfl, e.l hL, y1, _, _, _, _, rfl, rfl, e.t y2, rfl, rfl, ?_⟩
            unfold Cir.stepN
            rw [if_pos c]
            rfl
          · refine ⟨_, rfl, _, rfl, _, _, _, _, rfl, rfl, e.l hL, y1, _, _, _, _, rfl, rfl, e.t y2, rfl, _, rfl, rfl, ?_⟩
            unfold Cir.stepN
            rw [if_neg c]
            rfl
        rintro σ' H2 ⟨rfl, rfl⟩
        revert hf ste far
        generalize Cir.stepN arcs arc node = sn
        obtain ⟨nd, wy⟩ := sn
        intro hf ste far
        -- path.append((arc, way))
        obtain ⟨pts, hp1, hp2, hp3⟩ := id hP
        have wlen := S.wk.len
        have vlen := Cir.nodup_le n vs S.nd S.rng
        refine ⟨_, rfl, .inl ⟨rfl, _, SqL.of hp1⟩, _, rfl, _, rfl, by show 2 ≤ sizeLine; decide, fun tt htt => ⟨_, _, _, rfl, rfl, by rw [upd_ne (ne_of_none hp1 htt)]; exact hp1, len_lt (by rw [List.length_map]; omega), ?_⟩⟩
        have ntp : tt ≠ pa := (ne_of_none hp1 htt).symm
        have ntd : tt ≠ p := (ne_of_none hK htt).symm
        have e3 : Fr [] H (upd (upd H2 tt (.tup [.int (arc : Int), .int wy])) pa (.lst (pts.map V.ref ++ [.ref tt]))) := (e.new htt).put (.inr hpa)
        have P3 : PairsAt (upd (upd H2 tt (.tup [.int (arc : Int), .int wy])) pa (.lst (pts.map V.ref ++ [.ref tt]))) pa (path ++ [(arc, wy)]) := by
          refine hP.snoc (t := tt) (fun b o hb hn => ?_) (fun ts' h => ?_) ?_
          · rw [upd_ne hn, upd_ne (ne_of_none hb htt)]
            exact hb
          · rw [hp1] at h
            have := HO.lst.inj (Option.some.inj h)
            rw [upd_same, this]
          · rw [upd_ne ntp]
            exact upd_same
        have K3 : (upd (upd H2 tt (.tup [.int (arc : Int), .int wy])) pa (.lst (pts.map V.ref ++ [.ref tt]))) p = some (.dK (kvsOf vs 0)) := by
          rw [upd_ne (Ne.symm npa), upd_ne (Ne.symm ntd)]
          exact hK
        show tSeq _ _ _ _ (upd (upd H2 tt (.tup [.int (arc : Int), .int wy])) pa (.lst (pts.map V.ref ++ [.ref tt])))
        revert e3 P3 K3
        generalize upd (upd H2 tt (.tup [.int (arc : Int), .int wy])) pa (.lst (pts.map V.ref ++ [.ref tt])) = H3
        intro e3 P3 K3
        obtain ⟨pt3, q1, q2, q3⟩ := id P3
        -- if node in places
        refine ⟨_, rfl, _, rfl, p, _, rfl, DGet.k (k := Sum.inl nd) K3, _, rfl, ?_⟩
        rw [kvsOf_val]
        by_cases hin : nd ∈ vs
        · rw [if_pos hin] at hf ⊢
          refine iteT ?_
          have hi : vs.idxOf nd < vs.length := List.idxOf_lt_length_of_mem hin
          refine ⟨_, rfl, _, rfl, _, rfl, p, V.int ((0 + vs.idxOf nd : Nat) : Int), rfl, ?_, _, rfl, _, _, rfl, SqL.of q1, fun r hr => ?_⟩
          · have := DGet.k (k := (Sum.inl nd : Key)) K3
            rw [kvsOf_val, if_pos hin] at this
            exact this
          rw [cut_drop _ _ (by rw [List.length_map, q2]; simp; omega), Nat.zero_add]
          refine k r _ (e3.free hr) (e3.new hr) ?_
          rw [← hf]
          refine ⟨pt3.drop (vs.idxOf nd), by rw [upd_same, List.map_drop], by simp [q2], fun k' t' q' h1 h2 => ?_⟩
          rw [List.getElem?_drop] at h1 h2
          have := q3 _ _ _ h1 h2
          rw [upd_ne (ne_of_none this hr)]
          exact this
        · rw [if_neg hin] at hf ⊢
          refine iteF ?_
          -- places[node] = len(path); arc = _other_arc(..)
          refine ⟨_, rfl, _, _, rfl, .inl (SqL.of q1), _, rfl, _, rfl, p, _, rfl, DPut.k (k := Sum.inl nd) K3 (by rw [kvsOf_len]; exact len_lt (by omega)), ?_⟩
          have e4 : Fr [] H (upd H3 p (.dK (putK (kvsOf vs 0) (Sum.inl nd) (.int ((pt3.map V.ref).length : Int))))) := e3.put (.inr hp0)
          have hv : valV (kvsOf vs 0) (Sum.inl nd : Key) = none := by rw [kvsOf_val, if_neg hin]
          have K4 : (upd H3 p (.dK (putK (kvsOf vs 0) (Sum.inl nd) (.int ((pt3.map V.ref).length : Int))))) p = some (.dK (kvsOf (vs ++ [nd]) 0)) := by
            rw [upd_same, putK_new _ hv, kvsOf_snoc]
            have : ((pt3.map V.ref).length : Int) = ((0 + vs.length : Nat) : Int) := by
              rw [List.length_map, q2, List.length_append]
              simp
              omega
            rw [this]
          have P4 : PairsAt (upd H3 p (.dK (putK (kvsOf vs 0) (Sum.inl nd) (.int ((pt3.map V.ref).length : Int))))) pa (path ++ [(arc, wy)]) := by
            refine ⟨pt3, by rw [upd_ne npa]; exact q1, q2, fun k' t' q' h1 h2 => ?_⟩
            have := q3 _ _ _ h1 h2
            rw [upd_ne (ne_of this K3 (by intro z; cases z))]
            exact this
          revert e4 K4 P4
          generalize upd H3 p (.dK (putK (kvsOf vs 0) (Sum.inl nd) (.int ((pt3.map V.ref).length : Int)))) = H4
          intro e4 K4 P4
          obtain ⟨rs, r1, r2, r3, _⟩ := hN.fr e4
          have hnd : nd.toNat < rs.length := by have := far.1; omega
          have c1 := List.getElem?_eq_getElem hnd
          generalize rs[nd.toNat] = rr at c1
          have r4 := r3 _ _ c1
          rw [Int.toNat_of_nonneg far.1.1] at r4
          refine ⟨_, rfl, _, rfl, _, _, _, _, rfl, rfl, SqL.of r2, at_int (v := V.ref rr) far.1.1 (by rw [List.getElem?_map, c1]; rfl), _, rfl, _, rfl, _, rfl, ?_⟩
          refine ⟨rr, pp, Cir.nearOf arcs nd, xs, d, arc, rfl, SqL.of r4, e4.l hX, fun k' hk' => by rw [← hlx]; exact (Cir.mem_near.mp hk').1, hd, ?_⟩
          have wk2 := S.wk.snoc S.last ste.1
          have oth := Cir.other_ok (Cir.bal_other (v := nd) hlx hgood (hbal _) S.ar.1 S.ar.2.1 far.2)
          have mem := Cir.mem_near.mp oth.1
          have cs := Cir.cons_snoc (w := wy) S
          refine ⟨n + 1 - (vs ++ [nd]).length, by simp; omega, f, vs ++ [nd], path ++ [(arc, wy)], nd, Cir.other (Cir.nearOf arcs nd) xs d arc, _, rfl, rfl, hf, ?_, by simp; omega, e4, P4, K4⟩
          refine ⟨wk2, ?_, by simp, fun v hv => ?_, ⟨mem.1, oth.2.2, mem.2⟩, fun q hq => ?_, cs, fun q hq => ?_⟩
          · rw [List.nodup_append]
            refine ⟨S.nd, by simp, fun a ha b hb2 => ?_⟩
            rw [List.mem_singleton] at hb2
            subst hb2
            rintro rfl
            exact hin ha
          · rcases List.mem_append.mp hv with hv | hv
            · exact S.rng v hv
            · rw [List.mem_singleton] at hv
              subst hv
              exact far.1
          · rcases List.mem_append.mp hq with hq | hq
            · exact S.old q hq
            · rw [List.mem_singleton] at hq
              subst hq
              exact ⟨S.ar.1, S.ar.2.1, ste.2⟩
          · rw [List.getLast?_append] at hq
            simp at hq
            subst hq
            exact Ne.symm oth.2.1
end
def spRounded (K : PySem.W.Frag) (CA CU : Addr) : Sp := fun vs H Q E => ∃ (n : Nat) (a am : Addr) (arcs : List Cir.Arc) (xs : List Int) (d : Int), vs = [.int (n : Int), .ref a, .ref am, .int d] ∧ ArcsAt K H a arcs ∧ SqL K H am (xs.map V.int) ∧
  arcs.length = xs.length ∧ arcs.length ≤ 10000 ∧ n ≤ 10000 ∧ 0 < d ∧ d.natAbs.log2 < 9000 ∧
  ((∀ k, k < arcs.length → Cir.Good n (Cir.arcOf arcs k)) → (∀ v : Nat, v < n → Cir.net arcs xs v = 0) → ∀ (p : Addr) (H' : Hp), H p = none → Fr [] H H' → H' p = some (.lst ((Cir.roundedF n arcs xs d).map V.int)) → Q (.ref p) H') ∧
  (∀ k, k < arcs.length → ¬ Cir.Good n (Cir.arcOf arcs k) → (∀ j, j < k → Cir.Good n (Cir.arcOf arcs j)) → ∀ (d : Addr) (H' : Hp), Fr [] H H' → H' d = some (.xd [(("arc" : Str), .int (k : Int))]) → E (.ref CA) (some d) H') ∧
  ((∀ k, k < arcs.length → Cir.Good n (Cir.arcOf arcs k)) → ∀ v : Nat, v < n → Cir.net arcs xs v ≠ 0 → (∀ u : Nat, u < v → Cir.net arcs xs u = 0) → ∀ (d : Addr) (H' : Hp), Fr [] H H' → H' d = some (.xd [(("node" : Str), .int (v : Int))]) → E (.ref CU) (some d) H')
/-- the least number with a property, if there is one -/
theorem least {P : Nat → Prop} : ∀ (m : Nat), (∃ k, k < m ∧ P k) → ∃ k, k < m ∧ P k ∧ ∀ j, j < k → ¬ P j
  | 0, ⟨k, h, _⟩ => by omega
  | m + 1, ⟨k, h, p⟩ => by
    by_cases c : ∃ k, k < m ∧ P k
    · obtain ⟨k, h1, h2, h3⟩ := least m c
      exact ⟨k, by omega, h2, h3⟩
    · have e : k = m := by
        by_cases z : k = m
        · exact z
        · exact absurd ⟨k, by omega, p⟩ c
      subst e
      exact ⟨k, h, p, fun j hj pj => c ⟨j, hj, pj⟩⟩
section
variable {P : Program} {w : World} {K : PySem.W.Frag} {mg : Str → Option Value} {base : Heap} {CA CU : Addr}
theorem net_far {n : Nat} {v : Int} (hv : ¬ (0 ≤ v ∧ v < n)) : ∀ (as : List Cir.Arc) (xs : List Int), (∀ k, k < as.length → Cir.Good n (Cir.arcOf as k)) → Cir.net as xs v = 0
  | [], _, _ => by simp [Cir.net]
  | _ :: _, [], _ => by simp [Cir.net]
  | p :: as, x :: xs, h => by
    have ih := net_far hv as xs fun k hk => h (k + 1) (by simpa using hk)
    have g : Cir.Good n p := h 0 (by simp)
    have e : Cir.dlt p v = 0 := by
      unfold Cir.dlt Cir.ind
      rw [if_neg (by rintro rfl; exact hv g.2.1), if_neg (by rintro rfl; exact hv g.1)]
      rfl
    simp [Cir.net, ih, e]
theorem ok_rounded {f : Addr} {fd : FuncData} (F : Fun K "rounded" "rounded" s_rounded f fd) (T : Txt P K mg CA CU)
    (F_check_ends : FnB P w K mg base (L2.CX P w) 2 "_check_ends" ["count", "arcs"] (spCheckEnds K CA)) (F_check_balance : FnB P w K mg base (L2.CX P w) 3 "_check_balance" ["count", "arcs", "amounts"] (spCheckBal K CU))
    (F_near : FnB P w K mg base CX0 1 "_near" ["count", "arcs"] (spNear K)) (F_fraction_round : FnB P w K mg base CX0 2 "_fraction_round" ["arcs", "near", "parts", "divisor", "start"] (spRound K)) :
    FnOk P w K mg base (L2.CX P w) 4 f fd ["count", "arcs", "amounts", "divisor"] (spRounded K CA CU) := by
  refine F.okX sc_rounded (fun vs H Q E h => ?_) (fun cdv A outer s H vs Q E hr h => ?_)
  · obtain ⟨n, a, am, arcs, xs, d, rfl, _⟩ := h
    rfl
  · obtain ⟨n, a, am, arcs, xs, d, rfl, hA, hX, hlx, hl, hn, hd, hlog, kQ, kA, kU⟩ := h
    refine ⟨_, (pss_cons (ps_expr (pe_callF F_check_ends (hr.mono (by decide)) rfl (passes_call (takes_of rfl rfl rfl rfl) fun _ _ _ _ z => z) (pa_cons (pv 0) (pa_cons (pv 1) pa_nil))))
    (pss_cons (ps_expr (pe_callF F_check_balance (hr.mono (by decide)) rfl (passes_call (takes_of rfl rfl rfl rfl) fun _ _ _ _ z => z) (pa_cons (pv 0) (pa_cons (pv 1) (pa_cons (pv 2) pa_nil)))))
    (pss_cons (ps_set (i := 4) sc_rounded.nd rfl (Or.inl rfl) (pe_callTy call_list_of (by rfl) T.m_list (by decide +kernel) (pa_cons (pv 2) pa_nil)))
    (pss_cons (ps_set (i := 5) sc_rounded.nd rfl (Or.inl rfl) (pe_callF F_near (hr.mono (by decide)) rfl pass0 (pa_cons (pv 0) (pa_cons (pv 1) pa_nil))))
    (pss_cons (ps_for (passes_of rfl) rfl (pi_range1 (by rfl) T.m_range (pa_cons (pe_callB call_len_seq (by rfl) T.m_len (by decide +kernel) (pa_cons (pv 1) pa_nil)) pa_nil)) (pg_name (i := 6) sc_rounded.nd rfl (Or.inl rfl))
      (pss_one (ps_while (passes_of rfl) (pt_cmpR op_ne (pe_op op_mod (pe_ix ix_list (pv 4) (pv 6) (fun _ _ => rfl)) (pv 3)) pe_int (nomark _))
        (pss_cons (ps_set (i := 7) sc_rounded.nd rfl (Or.inl rfl) (pe_callF F_fraction_round (hr.mono (by decide)) rfl pass0 (pa_cons (pv 1) (pa_cons (pv 5) (pa_cons (pv 4) (pa_cons (pv 3) (pa_cons (pv 6) pa_nil)))))))
        (pss_cons (ps_set (i := 8) sc_rounded.nd rfl (Or.inl rfl) (pv 3))
        (pss_cons (ps_for (passes_of rfl) rfl (pi_list (pv 7)) (pg_tup rfl (pgs_cons (pg_name (i := 9) sc_rounded.nd rfl (Or.inl rfl)) (pgs_cons (pg_name (i := 10) sc_rounded.nd rfl (Or.inl rfl)) pgs_nil)))
          (pss_one (ps_set (i := 8) sc_rounded.nd rfl (Or.inl rfl) (pe_callB (call_min2 rfl) (by rfl) T.m_min (by decide +kernel) (pa_cons (pv 8) (pa_cons (pe_op op_mod (pe_op op_mul (pv 10) (pe_un un_neg (pe_ix ix_list (pv 4) (pv 9) (fun _ _ => rfl)))) (pv 3)) pa_nil))))))
        (pss_one (ps_for (passes_of rfl) rfl (pi_list (pv 7)) (pg_tup rfl (pgs_cons (pg_name (i := 9) sc_rounded.nd rfl (Or.inl rfl)) (pgs_cons (pg_name (i := 10) sc_rounded.nd rfl (Or.inl rfl)) pgs_nil)))
          (pss_one (ps_augS (pv 4) (pv 9) pget_list (pe_op op_mul (pv 10) (pv 8)) ip_add set_list))))))))))
    (pss_one (ps_ret (pe_lc (own := [("part", 11)]) rfl sc_rounded.nd (pi_list (pv 4)) (blkOk_by (own := [("part", 11)]) (N := n_rounded) (sc := defScope s_rounded) (by decide +kernel)) (fun _ _ _ _ _ => (pg_name (i := 11) sc_rounded.nd rfl (Or.inl rfl))) (fun _ _ _ _ _ => pts_nil) (fun _ _ _ _ _ => (pe_op op_fdivW (pv 11) (pv 3))))))))))), ?_⟩
    by_cases hgood : ∀ k, k < arcs.length → Cir.Good n (Cir.arcOf arcs k)
    · refine ⟨_, rfl, _, rfl, n, a, arcs, rfl, hA, by omega, fun _ => ?_, fun k hk hb => absurd (hgood k hk) hb⟩
      by_cases hz : ∀ v : Nat, v < n → Cir.net arcs xs v = 0
      · refine ⟨_, rfl, _, rfl, _, rfl, n, a, am, arcs, xs, rfl, hA, hX, hlx, by omega, by omega, hgood, fun _ H1 e1 => ?_, fun v hv hb => absurd (hz v hv) hb⟩
        have hbal : ∀ v, Cir.net arcs xs v = 0 := fun v => by
          by_cases c : 0 ≤ v ∧ v < n
          · have := hz v.toNat (by omega)
            rwa [Int.toNat_of_nonneg c.1] at this
          · exact net_far c arcs xs hgood
        have kQ := kQ hgood hz
        -- parts = list(amounts); near = _near(count, arcs)
        refine ⟨_, rfl, _, _, rfl, .inl (e1.l hX), fun pl hpl => ?_⟩
        have e2 := e1.new (o := .lst (xs.map V.int)) hpl
        have p2 : (upd H1 pl (.lst (xs.map V.int))) pl = some (.lst (xs.map V.int)) := upd_same
        have npl : H pl = none := e1.free hpl
        revert e2 p2
        generalize upd H1 pl (.lst (xs.map V.int)) = H2
        intro e2 p2
        refine ⟨_, rfl, _, rfl, n, a, arcs, rfl, hA.fr e2, hl, hn, hgood, fun ne H3 hne e3 hN => ?_⟩
        have npn : pl ≠ ne := ne_of_none p2 hne
        have hN : NearAt (fun r => r ≠ pl) H3 ne n arcs := hN.imp fun r hr => (ne_of_none p2 hr).symm
        obtain ⟨ts, hL, hts, hT⟩ := hA.at
        have hlm : (ts.map V.ref).length = arcs.length := by rw [List.length_map, hts]
        refine ⟨_, rfl, _, _, rfl, .inl ((e2.trans e3).l hL), _, rfl, (rg_ok (by omega)).1, (rg_ok (by omega)).2, for_rng (n := (ts.map V.ref).length)
          (fun i σ H' => Fr [] H H' ∧ NearAt (fun r => r ≠ pl) H' ne n arcs ∧ H' pl = some (.lst ((Cir.outer n arcs d xs i).map V.int)) ∧ ∃ o1 o2 o3 o4 o5 : Option V, σ = [some (.int (n : Int)), some (.ref a), some (.ref am), some (.int d), some (.ref pl), some (.ref ne), o1, o2, o3, o4, o5, none])
          ⟨e2.trans e3, hN, e3 _ _ p2 (by simp), _, _, _, _, _, rfl⟩ ?_ ?_⟩
        · rintro i σ H' hi ⟨e, hN, hp, o1, o2, o3, o4, o5, rfl⟩
          rw [hlm] at hi
          obtain ⟨I0, _⟩ := Cir.outer_ok hd hgood hlx hbal i (by omega)
          refine ⟨fun m σ H' => ∃ (f : Nat) (p : List Int), m = Cir.fracs arcs.length p d ∧ Cir.inner n arcs d f p i = Cir.outer n arcs d xs (i + 1) ∧ Cir.Inv arcs xs d p ∧ Cir.fracs arcs.length p d ≤ f ∧
            Fr [] H H' ∧ NearAt (fun r => r ≠ pl) H' ne n arcs ∧ H' pl = some (.lst (p.map V.int)) ∧ ∃ o2 o3 o4 o5 : Option V, σ = [some (.int (n : Int)), some (.ref a), some (.ref am), some (.int d), some (.ref pl), some (.ref ne), some (.int (i : Int)), o2, o3, o4, o5, none],
            ⟨_, arcs.length + 1, Cir.outer n arcs d xs i, rfl, (Cir.outer_succ n arcs d xs i).symm, I0, Nat.le_trans (Cir.fracs_le _ _ _) (by omega), e, hN, hp, _, _, _, _, rfl⟩, ?_⟩
          rintro m σ H' ⟨f, p, rfl, hin, I, hf, e, hN, hp, o2, o3, o4, o5, rfl⟩
          have hpl2 : i < p.length := by rw [I.len]; exact hi
          refine ⟨_, rfl, _, rfl, _, _, _, _, rfl, rfl, SqL.of hp, at_part hpl2, _, rfl, _, _, rfl, rfl, hd, rfl, _, rfl, ne_if (fun c => ⟨_, fun σ' H' h => h, ?_⟩) fun c => ?_⟩
          · have fr : Cir.frac p d i = true := decide_eq_true c
            have R := Cir.roundOf_ok (n := n) (p := p) (d := d) (k := i) I.len.symm hgood (fun v => by rw [I.bal v]; exact Int.zero_emod _) hi fr
            obtain ⟨I2, _, lt⟩ := Cir.turn_ok hd hgood I hi fr
            cases f with
            | zero => omega
            | succ f =>
              unfold Cir.inner at hin
              rw [if_pos fr] at hin
              -- found = _fraction_round(..)
              refine ⟨_, rfl, _, rfl, _, rfl, _, rfl, _, rfl, n, a, ne, pl, arcs, p, d, i, rfl, hA.fr e, hN.imp (fun _ _ => trivial), SqL.of hp, I.len.symm, hl, hn, hgood, fun v => by rw [I.bal v]; exact Int.zero_emod _, hd, hi, fr, fun fo H4 hfo e4 hF => ?_⟩
              unfold Cir.turn at hin I2 lt
              generalize Cir.roundOf n arcs p d i = fo' at R hF hin I2 lt
              have e4' := e.trans e4
              have hp4 := e4 _ _ hp (by simp)
              have hN4 := hN.fr e4
              obtain ⟨ft, h1, h2, h3⟩ := hF
              have hft : ∀ {k : Nat} {y : V}, (ft.map V.ref)[k]? = some y → ∃ (t : Addr) (q : Nat × Int), y = .ref t ∧ fo'[k]? = some q ∧ H4 t = some (.tup [.int (q.1 : Int), .int q.2]) ∧ q.1 < p.length ∧ (q.2 = 1 ∨ q.2 = -1) := fun {k y} hy => by
                obtain ⟨t, ht, rfl⟩ := get_mapf hy
                have hk : k < fo'.length := by rw [← h2]; exact (List.getElem?_eq_some_iff.mp ht).1
                have hq := List.getElem?_eq_getElem hk
                have ok := R.ok _ (List.mem_of_getElem? hq)
                exact ⟨t, _, rfl, hq, h3 k t _ ht hq, by rw [I.len]; exact ok.1, ok.2.2⟩
              have nfp : ft.map V.ref ≠ p.map V.int := fun z => by
                have z0 : p.length ≠ 0 := by omega
                cases ft with
                | nil =>
                  have := congrArg List.length z
                  simp at this
                  omega
                | cons t r =>
                  cases p with
                  | nil => exact z0 rfl
                  | cons x r2 => cases z
              have nfo : fo ≠ pl := ne_of h1 hp4 (fun z => nfp (HO.lst.inj z))
              -- step = divisor; the least distance
              refine ⟨_, rfl, _, rfl, fo, rfl, ⟨_, SqL.of h1⟩, for_list (K := K) (a := fo) (xs := ft.map V.ref)
                (fun k σ H' => H' = H4 ∧ ∃ o4 o5 : Option V, σ = [some (.int (n : Int)), some (.ref a), some (.ref am), some (.int d), some (.ref pl), some (.ref ne), some (.int (i : Int)), some (.ref fo), some (.int (Cir.stepOf p d (fo'.take k))), o4, o5, none])
                ⟨rfl, _, _, rfl⟩ (fun k σ H' _ ⟨z, _⟩ => by rw [z]; exact SqL.of h1) ?_ ?_⟩
              · rintro k y σ H' hy ⟨rfl, o4, o5, rfl⟩
                obtain ⟨t, q, rfl, hq, ht, hql, hw⟩ := hft hy
                refine ⟨_, _, rfl, SqT.of ht, rfl, _, _, rfl, _, _, rfl, rfl, ?_⟩
                refine ⟨_, rfl, _, rfl, _, rfl, _, rfl, _, _, _, _, rfl, rfl, SqL.of hp4, at_part hql, _, rfl, _, _, rfl, rfl, .inl ⟨by omega, by omega⟩, _, rfl, _, _, rfl, rfl, hd, _, _, rfl, ?_⟩
                refine ⟨rfl, some (.int (q.1 : Int)), some (.int q.2), ?_⟩
                have st : Cir.stepOf p d (fo'.take (k + 1)) = if Cir.dist p d q < Cir.stepOf p d (fo'.take k) then Cir.dist p d q else Cir.stepOf p d (fo'.take k) := by
                  unfold Cir.stepOf
                  rw [take_succ hq, List.foldl_append]
                  rfl
                rw [st]
                rfl
              · rintro σ H' ⟨rfl, o4, o5, rfl⟩
                rw [List.length_map, h2, List.take_length]
                generalize Cir.stepOf p d fo' = stp at hin I2 lt ⊢
                refine ⟨_, rfl, fo, rfl, ⟨_, SqL.of h1⟩, for_list (K := K) (a := fo) (xs := ft.map V.ref)
                  (fun k σ H' => Fr [] H H' ∧ NearAt (fun r => r ≠ pl) H' ne n arcs ∧ H' fo = some (.lst (ft.map V.ref)) ∧ H' pl = some (.lst ((Cir.applyR p stp (fo'.take k)).map V.int)) ∧ (∀ (k : Nat) (t : Addr) (q : Nat × Int), ft[k]? = some t → fo'[k]? = some q → H' t = some (.tup [.int (q.1 : Int), .int q.2])) ∧
                    ∃ o4 o5 : Option V, σ = [some (.int (n : Int)), some (.ref a), some (.ref am), some (.int d), some (.ref pl), some (.ref ne), some (.int (i : Int)), some (.ref fo), some (.int stp), o4, o5, none])
                  ⟨e4', hN4, h1, hp4, h3, _, _, rfl⟩ (fun k σ H' _ ⟨_, _, z, _⟩ => SqL.of z) ?_ ?_⟩
                · rintro k y σ H5 hy ⟨e5, hN5, g1, g2, g3, o4, o5, rfl⟩
                  obtain ⟨t, q, rfl, hq, _, hql, hw⟩ := hft hy
                  obtain ⟨t', ht', et⟩ := get_mapf hy
                  cases et
                  have ht := g3 k t q ht' hq
                  refine ⟨_, _, rfl, SqT.of ht, rfl, _, _, rfl, _, _, rfl, rfl, ?_⟩
                  have hql2 : q.1 < (Cir.applyR p stp (fo'.take k)).length := by rw [Cir.applyR_len]; exact hql
                  refine ⟨_, rfl, _, rfl, _, _, _, _, rfl, rfl, SqL.of g2, at_part hql2, _, rfl, _, rfl, _, _, rfl, rfl, .inl ⟨by omega, by omega⟩, _, _, rfl, rfl, _, _, _, _, rfl, rfl, g2, ix_nat (by rw [List.length_map]; exact hql2), ?_⟩
                  refine ⟨e5.put (.inr npl), ?_, by rw [upd_ne nfo]; exact g1, ?_, fun k' t'' q' a b => ?_, _, _, rfl⟩
                  · obtain ⟨rs, b1, b2, b3, b4⟩ := hN5
                    refine ⟨rs, b1, by rw [upd_ne (Ne.symm npn)]; exact b2, fun v r hv => ?_, b4⟩
                    rw [upd_ne (b4 r (List.mem_of_getElem? hv))]
                    exact b3 v r hv
                  · rw [upd_same, take_succ hq]
                    unfold Cir.applyR
                    rw [List.foldl_append, List.foldl_cons, List.foldl_nil, List.map_set]
                  · rw [upd_ne (ne_of (g3 _ _ _ a b) g2 (by intro z; cases z))]
                    exact g3 _ _ _ a b
                · rintro σ H5 ⟨e5, hN5, g1, g2, g3, o4, o5, rfl⟩
                  rw [List.length_map, h2, List.take_length] at g2
                  exact ⟨_, lt, f, _, rfl, hin, I2, by omega, e5, hN5, g2, _, _, _, _, rfl⟩
          · have fr : Cir.frac p d i = false := decide_eq_false (fun z => z c)
            have done : Cir.inner n arcs d f p i = p := by
              cases f with
              | zero => rfl
              | succ f =>
                unfold Cir.inner
                rw [if_neg (by rw [fr]; decide)]
            rw [done] at hin
            rw [hin] at hp
            exact ⟨e, hN, hp, _, _, _, _, _, rfl⟩
        · rintro σ H' ⟨e, hN, hp, o1, o2, o3, o4, o5, rfl⟩
          rw [hlm] at hp
          refine ⟨_, rfl, pl, rfl, ⟨_, SqL.of hp⟩, fun D hD => lc_list (K := K) (a := pl) (xs := (Cir.outer n arcs d xs arcs.length).map V.int) (fun i H2 => H2 = upd H' D (.lst (((Cir.outer n arcs d xs arcs.length).take i).map fun x => V.int (x / d)))) rfl
            (fun i H2 _ z => by rw [z]; exact SqL.of (by rw [upd_ne (ne_of_none hp hD)]; exact hp)) ?_ ?_⟩
          · rintro i y H2 hy rfl
            obtain ⟨z, hz, rfl⟩ := get_map_int hy
            have il : i < (Cir.outer n arcs d xs arcs.length).length := (List.getElem?_eq_some_iff.mp hz).1
            have ol := (Cir.outer_ok hd hgood hlx hbal arcs.length (Nat.le_refl _)).1.len
            refine ⟨rfl, _, rfl, _, rfl, _, _, rfl, rfl, ⟨hd, hlog⟩, _, upd_same, ?_, ?_⟩
            · rw [List.length_map, List.length_take]
              exact len_lt (by omega)
            · rw [upd_upd, take_succ hz, List.map_append]
              rfl
          · rintro H2 rfl
            rw [List.length_map, List.take_length]
            refine kQ D _ (e.free hD) (e.new hD) ?_
            rw [upd_same]
            unfold Cir.roundedF
            rw [List.map_map]
            rfl
      · -- out of balance
        have ex : ∃ v, v < n ∧ Cir.net arcs xs (v : Int) ≠ 0 := Classical.byContradiction fun no => hz fun v hv => Classical.byContradiction fun c => no ⟨v, hv, c⟩
        obtain ⟨v, h1, h2, h3⟩ := least n ex
        refine ⟨_, rfl, _, rfl, _, rfl, n, a, am, arcs, xs, rfl, hA, hX, hlx, by omega, by omega, hgood, fun z => absurd z hz, fun u hu hb hlow dd H1 e1 hx => kU hgood u hu hb hlow dd H1 e1 hx⟩
    · -- a wrong arc
      refine ⟨_, rfl, _, rfl, n, a, arcs, rfl, hA, by omega, fun z => absurd z hgood, fun k hk hb hlow dd hdd => kA k hk hb hlow dd _ ((Fr.refl [] H).new hdd) upd_same⟩
end
/-! _law_bag(script): slots 0 script 1 seed 2 cell -/
abbrev s_law_bag : Stmt := top 13
abbrev n_law_bag : List Str := ["script", "seed", "cell"]
theorem sc_law_bag : FnScope n_law_bag ["script"] (defScope s_law_bag) := ⟨rfl, rfl, rfl, by decide +kernel, rfl, by decide +kernel, by decide +kernel⟩
/-! _law_take(bag, many): slots 0 bag 1 many 2 cell 3 told -/
abbrev s_law_take : Stmt := top 14
abbrev n_law_take : List Str := ["bag", "many", "cell", "told"]
theorem sc_law_take : FnScope n_law_take ["bag", "many"] (defScope s_law_take) := ⟨rfl, rfl, rfl, by decide +kernel, rfl, by decide +kernel, by decide +kernel⟩
theorem m31 : (0 : Int) < 2147483647 := by decide
section
variable {P : Program} {w : World} {K : PySem.W.Frag} {mg : Str → Option Value} {base : Heap}
theorem ok_law_take {f : Addr} {fd : FuncData} (F : Fun K "_law_take" "_law_take" s_law_take f fd) (T : Blt mg) : FnOk P w K mg base CX0 1 f fd ["bag", "many"] spTake := by
  refine F.ok sc_law_take (fun vs H Q E h => ?_) (fun cdv A outer s H vs Q E hr h => ?_)
  · obtain ⟨b, c, many, rfl, _⟩ := h
    rfl
  · obtain ⟨b, c, many, rfl, ⟨ns, i, v, sd, hB⟩, hm, hlog, k⟩ := h
    have hb := hB.1
    have hc := hB.2.1
    have hv : 0 ≤ v := hB.2.2.2.1
    have hi : 0 ≤ i := hB.2.2.1
    refine ⟨_, (Evl.pss_cut (ps_if (pt_cmpR op_lt (pe_ix ix_list (pv 0) pe_int (fun _ _ => rfl)) (pv 1) (nomark _))
      (pss_cons (ps_set (i := 2) sc_law_take.nd rfl (Or.inl rfl) (pe_ix ix_list (pv 0) pe_int (fun _ _ => rfl)))
      (Evl.pss_cut (ps_if (pt_cmpR op_lt (pe_ix ix_list (pv 0) pe_int (fun _ _ => rfl)) (pe_callB call_len_seq (by rfl) T.m_len (by decide +kernel) (pa_cons (pe_ix ix_list (pv 0) pe_int (fun _ _ => rfl)) pa_nil)) (nomark _))
        (pss_one (ps_set (i := 2) sc_law_take.nd rfl (Or.inl rfl) (pe_ix ix_list (pe_ix ix_list (pv 0) pe_int (fun _ _ => rfl)) (pe_ix ix_list (pv 0) pe_int (fun _ _ => rfl)) (fun _ _ => rfl))))
        pss_nil)
      (pss_cons (ps_asg (pe_op op_add (pe_ix ix_list (pv 0) pe_int (fun _ _ => rfl)) pe_int) (pg_sub (pv 0) pe_int set_list))
      (pss_cons (ps_asg (pe_op op_mod (pe_callTy call_int1 (by rfl) T.m_int (by decide +kernel) (pa_cons (pe_op op_add (pe_op op_add (pe_op op_mul (pe_ix ix_list (pv 0) pe_int (fun _ _ => rfl)) pe_int) pe_int) (pe_ix ix_list (pv 0) pe_int (fun _ _ => rfl))) pa_nil)) pe_int) (pg_sub (pv 0) pe_int set_list))
      (Evl.pss_cut (ps_if (pt_cmpR op_lt (pv 2) pe_int (nomark _))
        (pss_one (ps_set (i := 2) sc_law_take.nd rfl (Or.inl rfl) (pe_un un_neg (pv 2))))
        pss_nil)
      (Evl.pss_cut (ps_if (pt_cmpR op_lt (pv 2) (pe_op op_pow pe_int pe_int) (nomark _))
        (pss_cons (ps_set (i := 2) sc_law_take.nd rfl (Or.inl rfl) (pe_op op_mod (pe_callTy call_int1 (by rfl) T.m_int (by decide +kernel) (pa_cons (pe_op op_add (pe_op op_add (pe_op op_mul (pe_op op_add (pv 2) (pe_ix ix_list (pv 0) pe_int (fun _ _ => rfl))) pe_int) (pe_op op_mul (pe_ix ix_list (pv 0) pe_int (fun _ _ => rfl)) pe_int)) pe_int) pa_nil)) pe_int))
        (pss_one (ps_set (i := 2) sc_law_take.nd rfl (Or.inl rfl) (pe_op op_add (pe_op op_mod (pe_callTy call_int1 (by rfl) T.m_int (by decide +kernel) (pa_cons (pe_op op_add (pe_op op_mul (pv 2) pe_int) (pe_op op_mul pe_int (pe_ix ix_list (pv 0) pe_int (fun _ _ => rfl)))) pa_nil)) pe_int) pe_int))))
        pss_nil)
      (pss_one (ps_asg (pv 2) (pg_sub (pv 0) pe_int set_list)))))))))
      pss_nil)
    (pss_cons (ps_set (i := 3) sc_law_take.nd rfl (Or.inl rfl) (pe_op op_mod (pe_callTy call_int1 (by rfl) T.m_int (by decide +kernel) (pa_cons (pe_ix ix_list (pv 0) pe_int (fun _ _ => rfl)) pa_nil)) (pv 1)))
    (pss_cons (ps_asg (pe_op op_fdivW (pe_ix ix_list (pv 0) pe_int (fun _ _ => rfl)) (pv 1)) (pg_sub (pv 0) pe_int set_list))
    (pss_one (ps_ret (pv 3)))))), ?_⟩
    -- behind the if: the bag, whatever is in it
    refine ⟨fun σ' H1 => ∃ (o : Option V) (i1 v1 s1 : Int), σ' = [some (.ref b), some (.int many), o, none] ∧ Fr [b] H H1 ∧ BagAt H1 b c ns i1 v1 s1, ?_, ?_⟩
    · refine ⟨_, rfl, _, _, _, _, rfl, rfl, SqL.of hb, rfl, _, rfl, _, _, rfl, rfl, _, rfl, dec_iff (fun hlt => ?_) fun hge => ⟨_, _, _, _, rfl, Fr.refl _ _, hB⟩⟩
      -- cell = bag[3]; if bag[1] < len(bag[0]): cell = bag[0][bag[1]]
      refine ⟨_, rfl, _, _, _, _, rfl, rfl, SqL.of hb, rfl, ?_⟩
      refine ⟨fun σ' H1 => H1 = H ∧ ∃ cell : Int, σ' = [some (.ref b), some (.int many), some (.int cell), none], ?_, ?_⟩
      · refine ⟨_, rfl, _, _, _, _, rfl, rfl, SqL.of hb, rfl, _, rfl, _, _, _, _, rfl, rfl, SqL.of hb, rfl, _, _, rfl, .inl (SqL.of hc), _, _, rfl, rfl, _, rfl, dec_iff (fun hin => ?_) fun hout => ⟨rfl, _, rfl⟩⟩
        have hlt2 : i.toNat < ns.length := by
          rw [List.length_map] at hin
          omega
        exact ⟨_, rfl, _, _, _, _, rfl, rfl, SqL.of hb, rfl, _, rfl, _, _, _, _, rfl, rfl, SqL.of hb, rfl, _, _, _, _, rfl, rfl, SqL.of hc, at_int hi (by rw [List.getElem?_map, List.getElem?_eq_getElem hlt2]; rfl), rfl, _, rfl⟩
      rintro σ' H1 ⟨rfl, cell, rfl⟩
      -- bag[1] = bag[1] + 1; bag[3] = int(..) % ..
      refine ⟨_, rfl, _, _, _, _, rfl, rfl, SqL.of hb, rfl, _, _, rfl, rfl, _, rfl, _, _, _, _, rfl, rfl, hb, rfl, ?_⟩
      refine ⟨_, rfl, _, _, _, _, rfl, rfl, SqL.of upd_same, rfl, _, _, rfl, rfl, .inr (by decide), _, _, rfl, rfl, _, rfl, _, _, _, _, rfl, rfl, SqL.of upd_same, rfl, _, _, rfl, rfl, .inl ⟨_, rfl, _, _, rfl, rfl, m31, ?_⟩⟩
      refine ⟨_, rfl, _, _, _, _, rfl, rfl, upd_same, rfl, ?_⟩
      rw [upd_upd]
      show Evl.tCut _ _ _ _ (upd H1 b (.lst [.ref c, .int (i + 1), .int v, .int ((sd * 69621 + 12345 + (i + 1)) % 2147483647)]))
      have B2 : ∀ z : Int, 0 ≤ z → BagAt (upd H1 b (.lst [.ref c, .int (i + 1), .int v, .int z])) b c ns (i + 1) v z := fun z hz => hB.put (by omega) hv hz
      have hz0 : 0 ≤ (sd * 69621 + 12345 + (i + 1)) % 2147483647 := Int.emod_nonneg _ (by decide)
      have B3 := B2 _ hz0
      have h3 := B3.1
      have e3 : Fr [b] H1 (upd H1 b (.lst [.ref c, .int (i + 1), .int v, .int ((sd * 69621 + 12345 + (i + 1)) % 2147483647)])) := (Fr.refl _ _).put (.inl (by simp))
      revert B3 h3 e3
      generalize upd H1 b (.lst [.ref c, .int (i + 1), .int v, .int ((sd * 69621 + 12345 + (i + 1)) % 2147483647)]) = H2
      intro B3 h3 e3
      -- if cell < 0: cell = -cell
      refine ⟨fun σ' H' => H' = H2 ∧ ∃ cell : Int, 0 ≤ cell ∧ σ' = [some (.ref b), some (.int many), some (.int cell), none], ?_, ?_⟩
      · refine ⟨_, rfl, _, _, rfl, rfl, _, rfl, dec_iff (fun hneg => ?_) fun hpos => ⟨rfl, cell, by omega, rfl⟩⟩
        exact ⟨_, rfl, _, rfl, rfl, -cell, by omega, rfl⟩
      rintro σ' H' ⟨rfl, cell, hcell, rfl⟩
      -- if cell < 10 ** 18: cell = ..
      refine ⟨fun σ' H2 => H2 = H' ∧ ∃ cell : Int, 0 ≤ cell ∧ σ' = [some (.ref b), some (.int many), some (.int cell), none], ?_, ?_⟩
      · refine ⟨_, rfl, _, _, rfl, rfl, ⟨by decide, by decide, by decide⟩, _, _, rfl, rfl, _, rfl, dec_iff (fun hlow => ?_) fun hhigh => ⟨rfl, cell, hcell, rfl⟩⟩
        refine ⟨_, rfl, _, rfl, _, _, _, _, rfl, rfl, SqL.of h3, rfl, _, _, rfl, rfl, _, _, rfl, rfl, .inr (by decide), _, rfl, _, _, _, _, rfl, rfl, SqL.of h3, rfl, _, _, rfl, rfl, .inr (by decide), _, _, rfl, rfl, _, _, rfl, rfl, .inl ⟨_, rfl, _, _, rfl, rfl, m31, ?_⟩⟩
        refine ⟨_, rfl, _, _, rfl, rfl, .inr (by decide), _, rfl, _, _, _, _, rfl, rfl, SqL.of h3, rfl, _, _, rfl, rfl, .inl (by decide), _, _, rfl, rfl, .inl ⟨_, rfl, _, _, rfl, rfl, m31, _, _, rfl, rfl, ?_⟩⟩
        refine ⟨rfl, _, ?_, rfl⟩
        have := Int.emod_nonneg (((cell + (i + 1)) * 48271 + (i + 1) * 40692 + 3) % 2147483647 * 69621 + 7919 * (i + 1)) (b := 2147483647) (by decide)
        omega
      rintro σ' H2 ⟨rfl, cell, hcell, rfl⟩
      -- bag[2] = cell
      refine ⟨_, rfl, _, rfl, _, _, _, _, rfl, rfl, h3, rfl, ?_⟩
      exact ⟨_, _, _, _, rfl, e3.put (.inl (by simp)), B3.put B3.2.2.1 hcell B3.2.2.2.2⟩
    rintro σ' H1 ⟨o, i1, v1, s1, rfl, e1, B1⟩
    have h1 := B1.1
    refine ⟨_, rfl, _, _, _, _, rfl, rfl, SqL.of h1, rfl, .inl ⟨_, rfl, _, rfl, _, _, rfl, rfl, hm, ?_⟩⟩
    refine ⟨_, rfl, _, _, _, _, rfl, rfl, SqL.of h1, rfl, _, rfl, _, _, rfl, rfl, ⟨hm, hlog⟩, ?_⟩
    refine ⟨_, rfl, _, _, _, _, rfl, rfl, h1, rfl, _, rfl, ?_⟩
    refine k _ _ (Int.emod_nonneg _ (by omega)) (Int.emod_lt_of_pos _ hm) (e1.put (.inl (by simp))) ⟨ns, i1, v1 / many, s1, ?_⟩
    exact B1.put B1.2.2.1 (Int.ediv_nonneg B1.2.2.2.1 (by omega)) B1.2.2.2.2
end
section
variable {P : Program} {w : World} {K : PySem.W.Frag} {mg : Str → Option Value} {base : Heap}
theorem ok_law_bag {f : Addr} {fd : FuncData} (F : Fun K "_law_bag" "_law_bag" s_law_bag f fd) (T : Blt mg) : FnOk P w K mg base CX0 1 f fd ["script"] (spBag K) := by
  refine F.ok sc_law_bag (fun vs H Q E h => ?_) (fun cdv A outer s H vs Q E hr h => ?_)
  · obtain ⟨a, ns, rfl, _⟩ := h
    rfl
  · obtain ⟨a, ns, rfl, hS, hlen, k⟩ := h
    refine ⟨_, (pss_cons (ps_set (i := 1) sc_law_bag.nd rfl (Or.inl rfl) pe_int)
    (pss_cons (ps_for PassesOwn.never rfl (pi_list (pv 0)) (pg_name (i := 2) sc_law_bag.nd rfl (Or.inl rfl))
      (pss_one (ps_set (i := 1) sc_law_bag.nd rfl (Or.inl rfl) (pe_op op_mod (pe_callTy call_int1 (by rfl) T.m_int (by decide +kernel) (pa_cons (pe_op op_add (pe_op op_add (pe_op op_mul (pv 1) pe_int) (pe_op op_mod (pe_callTy call_int1 (by rfl) T.m_int (by decide +kernel) (pa_cons (pv 2) pa_nil)) pe_int)) pe_int) pa_nil)) pe_int))))
    (pss_one (ps_ret (pe_lst (pa_cons (pe_lc (own := [("cell", 2)]) rfl sc_law_bag.nd (pi_list (pv 0)) (blkOk_by (own := [("cell", 2)]) (N := n_law_bag) (sc := defScope s_law_bag) (by decide +kernel)) (fun _ _ _ _ _ => (pg_name (i := 2) sc_law_bag.nd rfl (Or.inl rfl))) (fun _ _ _ _ _ => pts_nil) (fun _ _ _ _ _ => (pe_callTy call_int1 (by rfl) T.m_int (by decide +kernel) (pa_cons (pv 2) pa_nil)))) (pa_cons pe_int (pa_cons pe_int (pa_cons (pv 1) pa_nil))))))))), ?_⟩
    refine ⟨_, rfl, a, rfl, ⟨_, hS⟩, for_list (K := K) (a := a) (xs := ns.map V.int) (fun i σ H' => H' = H ∧ ∃ (seed : Int) (o : Option V), 0 ≤ seed ∧ σ = [some (.ref a), some (.int seed), o])
      ⟨rfl, 7, none, by decide, rfl⟩ (fun i σ H' _ ⟨e, _⟩ => by rw [e]; exact hS) ?_ ?_⟩
    · rintro i y σ H' hi ⟨rfl, seed, o, hs, rfl⟩
      obtain ⟨z, hz, rfl⟩ := get_map_int hi
      refine ⟨_, rfl, _, _, rfl, rfl, .inr (by decide), _, rfl, .inl ⟨_, rfl, _, _, rfl, rfl, by show (0 : Int) < 1000003; decide, _, _, rfl, rfl, _, _, rfl, rfl, .inl ⟨_, rfl, _, _, rfl, rfl, m31, ?_⟩⟩⟩
      exact ⟨rfl, _, _, Int.emod_nonneg _ (by decide), rfl⟩
    · rintro σ H' ⟨rfl, seed, o, hs, rfl⟩
      refine ⟨_, rfl, a, rfl, ⟨_, hS⟩, fun D hD => lc_list (K := K) (a := a) (xs := ns.map V.int) (fun i H2 => H2 = upd H' D (.lst ((ns.take i).map V.int))) rfl
        (fun i H2 _ e => by rw [e]; exact ((Fr.refl [] H').new hD).l hS) ?_ ?_⟩
      · rintro i y H2 hi rfl
        obtain ⟨z, hz, rfl⟩ := get_map_int hi
        refine ⟨rfl, _, rfl, .inl ⟨_, rfl, _, upd_same, ?_, ?_⟩⟩
        · rw [List.length_map, List.length_take]
          exact Nat.lt_of_le_of_lt (Nat.le_trans (Nat.min_le_right _ _) hlen) (by decide)
        · rw [upd_upd, take_succ hz, List.map_append]
          rfl
      · rintro H2 rfl
        rw [List.length_map, List.take_length]
        refine ⟨_, rfl, by show 4 ≤ sizeLine; decide, fun l hl => ?_⟩
        have hlD : D ≠ l := ne_of_none upd_same hl
        refine k l D _ ?_ hD (((Fr.refl [] H').new hD).new hl) ⟨ns, 0, 0, seed, upd_same, by rw [upd_ne hlD]; exact upd_same, by decide, by decide, hs⟩
        exact ((Fr.refl [] H').new hD).free hl
end
/-! _law_spare(count, arcs, amounts): slots 0 count 1 arcs 2 amounts 3 k 4 spare -/
abbrev s_law_spare : Stmt := top 16
abbrev n_law_spare : List Str := ["count", "arcs", "amounts", "k", "spare"]
theorem sc_law_spare : FnScope n_law_spare ["count", "arcs", "amounts"] (defScope s_law_spare) := ⟨rfl, rfl, rfl, by decide +kernel, rfl, by decide +kernel, by decide +kernel⟩
/-! _law_right(count, arcs, amounts, divisor, told): slots 0 count 1 arcs 2 amounts 3 divisor 4 told 5 k -/
abbrev s_law_right : Stmt := top 17
abbrev n_law_right : List Str := ["count", "arcs", "amounts", "divisor", "told", "k"]
theorem sc_law_right : FnScope n_law_right ["count", "arcs", "amounts", "divisor", "told"] (defScope s_law_right) := ⟨rfl, rfl, rfl, by decide +kernel, rfl, by decide +kernel, by decide +kernel⟩
def spLawRight (K : PySem.W.Frag) : Sp := fun vs H Q _ => ∃ (n : Nat) (a am to : Addr) (arcs : List Cir.Arc) (xs ts : List Int) (d : Int), vs = [.int (n : Int), .ref a, .ref am, .int d, .ref to] ∧ ArcsAt K H a arcs ∧ SqL K H am (xs.map V.int) ∧ H to = some (.lst (ts.map V.int)) ∧
  arcs.length = xs.length ∧ ts.length = arcs.length ∧ arcs.length ≤ 10000 ∧ n ≤ 10000 ∧ (∀ k, k < arcs.length → Cir.Good n (Cir.arcOf arcs k)) ∧ d.natAbs < 2 ^ 200 ∧ (∀ k, k < arcs.length → (Cir.part ts k).natAbs < 2 ^ 200) ∧
  (∀ k, k < arcs.length → Cir.part xs k - d < Cir.part ts k * d ∧ Cir.part ts k * d < Cir.part xs k + d) ∧ (∀ v, Cir.net arcs ts v = 0) ∧ ∀ H', Fr [] H H' → Q (.bl true) H'
section
variable {P : Program} {w : World} {K : PySem.W.Frag} {mg : Str → Option Value} {base : Heap} {CA CU : Addr}
theorem ok_law_spare {f : Addr} {fd : FuncData} (F : Fun K "_law_spare" "_law_spare" s_law_spare f fd) (T : Txt P K mg CA CU) : FnOk P w K mg base CX0 1 f fd ["count", "arcs", "amounts"] (spSpare K) := by
  refine F.ok sc_law_spare (fun vs H Q E h => ?_) (fun cdv A outer s H vs Q E hr h => ?_)
  · obtain ⟨n, a, am, arcs, xs, rfl, _⟩ := h
    rfl
  · obtain ⟨n, a, am, arcs, xs, rfl, hA, hX, hlx, hl, hn, hgood, k⟩ := h
    refine ⟨_, (pss_cons (ps_setLc (i := 4) (own := [("k", 3)]) rfl sc_law_spare.nd rfl rfl (sw_true rfl rfl rfl (by decide +kernel)) (pi_range1 (by rfl) T.m_range (pa_cons (pv 0) pa_nil)) (blkOk_by (own := [("k", 3)]) (N := n_law_spare) (sc := defScope s_law_spare) (by decide +kernel)) (fun _ _ _ _ _ => (pg_name (i := 3) sc_law_spare.nd rfl (Or.inl rfl))) (fun _ _ _ _ _ => pts_nil) (fun _ _ _ _ _ => pe_int))
    (pss_cons (ps_for PassesOwn.never rfl (pi_range1 (by rfl) T.m_range (pa_cons (pe_callB call_len_seq (by rfl) T.m_len (by decide +kernel) (pa_cons (pv 1) pa_nil)) pa_nil)) (pg_name (i := 3) sc_law_spare.nd rfl (Or.inl rfl))
      (pss_cons (ps_asg (pe_op op_sub (pe_ix ix_list (pv 4) (pe_ix ix_tup (pe_ix ix_list (pv 1) (pv 3) (fun _ _ => rfl)) pe_int (fun _ _ => rfl)) (fun _ _ => rfl)) (pe_ix ix_list (pv 2) (pv 3) (fun _ _ => rfl))) (pg_sub (pv 4) (pe_ix ix_tup (pe_ix ix_list (pv 1) (pv 3) (fun _ _ => rfl)) pe_int (fun _ _ => rfl)) set_list))
      (pss_one (ps_asg (pe_op op_add (pe_ix ix_list (pv 4) (pe_ix ix_tup (pe_ix ix_list (pv 1) (pv 3) (fun _ _ => rfl)) pe_int (fun _ _ => rfl)) (fun _ _ => rfl)) (pe_ix ix_list (pv 2) (pv 3) (fun _ _ => rfl))) (pg_sub (pv 4) (pe_ix ix_tup (pe_ix ix_list (pv 1) (pv 3) (fun _ _ => rfl)) pe_int (fun _ _ => rfl)) set_list)))))
    (pss_one (ps_ret (pv 4))))), ?_⟩
    obtain ⟨ts, hL, hts, hT⟩ := hA.at
    refine ⟨_, rfl, _, rfl, (rg_ok (by omega)).1, (rg_ok (by omega)).2, fun p hp => lc_rng (n := n) (fun i H2 => H2 = upd H p (.lst (List.replicate i (V.int 0)))) rfl ?_ ?_⟩
    · rintro i H2 hi rfl
      refine ⟨rfl, _, upd_same, ?_, ?_⟩
      · rw [List.length_replicate]
        exact len_lt (by omega)
      · rw [upd_upd, List.replicate_succ']
    rintro H2 rfl
    have np : H p = none := hp
    have e0 : (List.replicate n (V.int 0)) = (Cir.spareL n [] []).map V.int := by
      rw [Cir.spareL_zero, List.map_replicate]
    rw [e0]
    refine ⟨_, rfl, _, _, rfl, .inl ?_, _, rfl, (rg_ok (by simp; omega)).1, (rg_ok (by simp; omega)).2, for_rng (n := (ts.map V.ref).length)
      (fun i σ H' => Fr [] H H' ∧ H' p = some (.lst ((Cir.spareL n (arcs.take i) (xs.take i)).map V.int)) ∧ ∃ o : Option V, σ = [some (.int (n : Int)), some (.ref a), some (.ref am), o, some (.ref p)])
      ⟨(Fr.refl [] H).new hp, upd_same, _, rfl⟩ ?_ ?_⟩
    · exact ((Fr.refl [] H).new hp).l hL
    · rintro i σ H' hi ⟨e, h1, o, rfl⟩
      rw [List.length_map, hts] at hi
      obtain ⟨t, e1, e2⟩ := hT i hi
      have g := hgood i hi
      have len1 : (arcs.take i).length = (xs.take i).length := by rw [List.length_take, List.length_take, hlx]
      have i1 : (Cir.arcOf arcs i).1.toNat < (Cir.spareL n (arcs.take i) (xs.take i)).length := by rw [Cir.spareL_len]; have := g.1; omega
      have i2 : (Cir.arcOf arcs i).2.toNat < (Cir.spareL n (arcs.take i) (xs.take i)).length := by rw [Cir.spareL_len]; have := g.2.1; omega
      refine ⟨_, rfl, _, rfl, _, rfl, _, _, _, _, rfl, rfl, e.l hL, e1, _, _, _, _, rfl, rfl, e.t e2, rfl, ?_⟩
      refine ⟨_, _, _, _, rfl, rfl, SqL.of h1, at_int g.1.1 (by rw [List.getElem?_map, Cir.spareL_get g.1.1 g.1.2]; rfl), ?_⟩
      refine ⟨_, rfl, _, rfl, _, _, _, _, rfl, rfl, e.l hX, at_part (by omega), _, _, rfl, rfl, ?_⟩
      refine ⟨_, rfl, _, rfl, _, rfl, _, _, _, _, rfl, rfl, e.l hL, e1, _, _, _, _, rfl, rfl, e.t e2, rfl, ?_⟩
      refine ⟨_, _, _, _, rfl, rfl, h1, ix_int g.1.1 (by rw [List.length_map, Cir.spareL_len]; exact g.1.2), ?_⟩
      have e' : Fr [] H (upd H' p (.lst (((Cir.spareL n (arcs.take i) (xs.take i)).map V.int).set (Cir.arcOf arcs i).1.toNat (.int (Cir.net (arcs.take i) (xs.take i) (Cir.arcOf arcs i).1 - Cir.part xs i))))) := e.put (.inr np)
      refine ⟨_, rfl, _, rfl, _, rfl, _, _, _, _, rfl, rfl, e'.l hL, e1, _, _, _, _, rfl, rfl, e'.t e2, rfl, ?_⟩
      refine ⟨_, _, _, _, rfl, rfl, SqL.of upd_same, at_int (v := V.int (Cir.net (arcs.take i) (xs.take i) (Cir.arcOf arcs i).2)) g.2.1.1 ?_, ?_⟩
      · rw [List.getElem?_set_ne (by have := g.1; have := g.2.1; have := g.2.2; omega), List.getElem?_map, Cir.spareL_get g.2.1.1 g.2.1.2]
        rfl
      refine ⟨_, rfl, _, rfl, _, _, _, _, rfl, rfl, e'.l hX, at_part (by omega), _, _, rfl, rfl, ?_⟩
      refine ⟨_, rfl, _, rfl, _, rfl, _, _, _, _, rfl, rfl, e'.l hL, e1, _, _, _, _, rfl, rfl, e'.t e2, rfl, ?_⟩
      refine ⟨_, _, _, _, rfl, rfl, upd_same, ix_int g.2.1.1 (by rw [List.length_set, List.length_map, Cir.spareL_len]; exact g.2.1.2), ?_⟩
      refine ⟨e'.put (.inr np), ?_, _, rfl⟩
      rw [upd_same]
      have st := Cir.spare_step (n := n) (x := Cir.part xs i) len1 g
      rw [take_succ (Cir.get_arc hi), take_succ (Cir.get_part (by omega)), ← st, List.map_set, List.map_set]
    · rintro σ H' ⟨e, h1, o, rfl⟩
      rw [List.length_map, hts, List.take_length, hlx, List.take_length] at h1
      exact ⟨_, rfl, k p H' np e h1⟩
theorem ok_law_right {f : Addr} {fd : FuncData} (F : Fun K "_law_right" "_law_right" s_law_right f fd) (T : Txt P K mg CA CU) (F_law_spare : FnB P w K mg base CX0 1 "_law_spare" ["count", "arcs", "amounts"] (spSpare K)) :
    FnOk P w K mg base CX0 2 f fd ["count", "arcs", "amounts", "divisor", "told"] (spLawRight K) := by
  refine F.ok sc_law_right (fun vs H Q E h => ?_) (fun cdv A outer s H vs Q E hr h => ?_)
  · obtain ⟨n, a, am, to, arcs, xs, ts, d, rfl, _⟩ := h
    rfl
  · obtain ⟨n, a, am, to, arcs, xs, ts, d, rfl, hA, hX, hT, hlx, hlt, hl, hn, hgood, hd, hts, hb, hz, k⟩ := h
    refine ⟨_, (pss_cons (ps_if (PW.pt (pw_or (pt_not (pt_val (pe_callB call_isi (by rfl) T.m_isinstance (by decide +kernel) (pa_cons (pv 4) (pa_cons (pe_bltn (v := .ty "list") (by rfl) T.m_list (by decide +kernel) rfl) pa_nil))))) (pw_or1 (pt_cmpR op_ne (pe_callB call_len_seq (by rfl) T.m_len (by decide +kernel) (pa_cons (pv 4) pa_nil)) (pe_callB call_len_seq (by rfl) T.m_len (by decide +kernel) (pa_cons (pv 1) pa_nil)) (nomark _)))))
      (pss_one (ps_ret pe_bl))
      pss_nil)
    (pss_cons (ps_for PassesOwn.never rfl (pi_range1 (by rfl) T.m_range (pa_cons (pe_callB call_len_seq (by rfl) T.m_len (by decide +kernel) (pa_cons (pv 1) pa_nil)) pa_nil)) (pg_name (i := 5) sc_law_right.nd rfl (Or.inl rfl))
      (pss_cons (ps_if (PW.pt (pw_or (pt_not (pt_val (pe_callB call_isi (by rfl) T.m_isinstance (by decide +kernel) (pa_cons (pe_ix ix_list (pv 4) (pv 5) (fun _ _ => rfl)) (pa_cons (pe_bltn (v := .ty "int") (by rfl) T.m_int (by decide +kernel) rfl) pa_nil))))) (pw_or1 (pt_val (pe_callB call_isi (by rfl) T.m_isinstance (by decide +kernel) (pa_cons (pe_ix ix_list (pv 4) (pv 5) (fun _ _ => rfl)) (pa_cons (pe_bltn (v := .ty "bool") (by rfl) T.m_bool (by decide +kernel) rfl) pa_nil)))))))
        (pss_one (ps_ret pe_bl))
        pss_nil)
      (pss_one (ps_if (PW.pt (pw_or (pt_cmpR op_le (pe_op op_mulW (pe_ix ix_list (pv 4) (pv 5) (fun _ _ => rfl)) (pv 3)) (pe_op op_sub (pe_ix ix_list (pv 2) (pv 5) (fun _ _ => rfl)) (pv 3)) (nomark _)) (pw_or1 (pt_cmpR op_ge (pe_op op_mulW (pe_ix ix_list (pv 4) (pv 5) (fun _ _ => rfl)) (pv 3)) (pe_op op_add (pe_ix ix_list (pv 2) (pv 5) (fun _ _ => rfl)) (pv 3)) (nomark _)))))
        (pss_one (ps_ret pe_bl))
        pss_nil))))
    (pss_one (ps_ret (pe_cmpR (op_eqD hr.units) (pe_callF F_law_spare (hr.mono (by decide)) rfl pass0 (pa_cons (pv 0) (pa_cons (pv 1) (pa_cons (pv 4) pa_nil)))) (pe_lc (own := [("k", 5)]) rfl sc_law_right.nd (pi_range1 (by rfl) T.m_range (pa_cons (pv 0) pa_nil)) (blkOk_by (own := [("k", 5)]) (N := n_law_right) (sc := defScope s_law_right) (by decide +kernel)) (fun _ _ _ _ _ => (pg_name (i := 5) sc_law_right.nd rfl (Or.inl rfl))) (fun _ _ _ _ _ => pts_nil) (fun _ _ _ _ _ => pe_int)) (nomark _)))))), ?_⟩
    obtain ⟨as, hL, has, hAt⟩ := hA.at
    refine ⟨_, rfl, _, _, _, _, true, rfl, .ty _, .base (.lst hT), kit_ty (by decide +kernel), _, rfl, ?_⟩
    refine ⟨_, rfl, _, _, rfl, .inl (SqL.of hT), _, rfl, _, _, rfl, .inl hL, rfl, _, rfl, ?_⟩
    refine ne_if (fun c => absurd (by rw [List.length_map, List.length_map, has, hlt]) c) fun _ => ?_
    refine ⟨_, rfl, _, _, rfl, .inl hL, _, rfl, (rg_ok (by simp; omega)).1, (rg_ok (by simp; omega)).2, for_rng (n := (as.map V.ref).length)
      (fun i σ H' => H' = H ∧ ∃ o : Option V, σ = [some (.int (n : Int)), some (.ref a), some (.ref am), some (.int d), some (.ref to), o])
      ⟨rfl, _, rfl⟩ ?_ ?_⟩
    · rintro i σ H' hi ⟨rfl, o, rfl⟩
      rw [List.length_map, has] at hi
      have hti : i < ts.length := by omega
      have hxi : i < xs.length := by omega
      have b1 := hb i hi
      refine ⟨_, rfl, _, rfl, _, _, _, _, rfl, rfl, SqL.of hT, at_part hti, _, _, _, _, true, rfl, .ty _, .base (.int _), kit_ty (by decide +kernel), _, rfl, ?_⟩
      refine ⟨_, rfl, _, rfl, _, _, _, _, rfl, rfl, SqL.of hT, at_part hti, _, _, _, _, false, rfl, .ty _, .base (.int _), kit_ty (by decide +kernel), _, rfl, ?_⟩
      have cm : CMulW (Cir.part ts i) d := wide_mul (hts i hi) hd (by decide) (by decide) (by decide)
      refine ⟨_, rfl, _, rfl, _, _, _, _, rfl, rfl, SqL.of hT, at_part hti, _, rfl, _, _, rfl, rfl, cm, ?_⟩
      refine ⟨_, rfl, _, rfl, _, _, _, _, rfl, rfl, hX, at_part hxi, _, rfl, _, _, rfl, rfl, _, _, rfl, rfl, _, rfl, ?_⟩
      refine dec_iff (fun z => by omega) fun _ => ?_
      refine ⟨_, rfl, _, rfl, _, _, _, _, rfl, rfl, SqL.of hT, at_part hti, _, rfl, _, _, rfl, rfl, cm, ?_⟩
      refine ⟨_, rfl, _, rfl, _, _, _, _, rfl, rfl, hX, at_part hxi, _, rfl, _, _, rfl, rfl, _, _, rfl, rfl, _, rfl, ?_⟩
      refine dec_iff (fun z => by omega) fun _ => ?_
      exact ⟨rfl, _, rfl⟩
    · rintro σ H' ⟨rfl, o, rfl⟩
      refine ⟨_, rfl, _, rfl, _, rfl, n, a, to, arcs, ts, rfl, hA, SqL.of hT, hlt.symm, by omega, by omega, hgood, fun p H1 np e1 h1 => ?_⟩
      refine ⟨_, rfl, _, rfl, (rg_ok (by omega)).1, (rg_ok (by omega)).2, fun q hq => lc_rng (n := n) (fun i H2 => H2 = upd H1 q (.lst (List.replicate i (V.int 0)))) rfl ?_ ?_⟩
      · rintro i H2 hi rfl
        refine ⟨rfl, _, upd_same, ?_, ?_⟩
        · rw [List.length_replicate]
          exact len_lt (by omega)
        · rw [upd_upd, List.replicate_succ']
      rintro H2 rfl
      have e0 : Cir.spareL n arcs ts = List.replicate n 0 := by
        unfold Cir.spareL
        rw [List.eq_replicate_iff]
        refine ⟨by simp, fun z hz => ?_⟩
        obtain ⟨v, _, rfl⟩ := List.mem_map.mp hz
        exact ‹∀ v, Cir.net arcs ts v = 0› _
      rw [e0] at h1
      refine ⟨dInts (List.replicate n 0), dInts (List.replicate n 0), dp_ints (SqL.of (by rw [upd_ne (ne_of_none h1 hq)]; exact h1)), dp_ints (SqL.of (by rw [upd_same, List.map_replicate])), ints_shaped _, ints_shaped _, ?_⟩
      rw [ints_eqv]
      exact k _ (e1.new hq)
end
/-! _law_outcome(count, arcs, amounts, divisor): slots 0 count 1 arcs 2 amounts 3 divisor 4 e -/
abbrev s_law_outcome : Stmt := top 18
abbrev n_law_outcome : List Str := ["count", "arcs", "amounts", "divisor", "e"]
theorem sc_law_outcome : FnScope n_law_outcome ["count", "arcs", "amounts", "divisor"] (defScope s_law_outcome) := ⟨rfl, rfl, rfl, by decide +kernel, rfl, by decide +kernel, by decide +kernel⟩
/-- what the classes of errors answer -/
structure IsX (K : PySem.W.Frag) (C : Addr) : Prop where
  c : PySem.W.findIn K (.ref C) "__class__" = some (some (.builtin "object.__class__"))
  m : PySem.W.mroIn K C (.type "object") = some true
structure TxtL (P : Program) (K : PySem.W.Frag) (mg : Str → Option Value) (CD CA CU : Addr) : Prop extends Txt P K mg CA CU where
  h1 : PySem.W.specialIn K (.builtin "object.__class__") "__get__" = some (some (.builtin "getset_descriptor.__get__"))
  h2 : PySem.W.takesIn K (.builtin "object.__class__") = some true
  g_DealError : mg "DealError" = some (.ref CD)
  iA : IsX K CA
  iU : IsX K CU
  kAD : PySem.W.kitOne K (.ref CA) (.ref CD) = some true
  kUD : PySem.W.kitOne K (.ref CU) (.ref CD) = some true
  kAU : PySem.W.kitOne K (.ref CA) (.ref CU) = some false
  kUA : PySem.W.kitOne K (.ref CU) (.ref CA) = some false
  eUA : PySem.W.exmOne K (.ref CU) (.ref CA) = some false
def OutOf (n : Nat) (arcs : List Cir.Arc) (xs : List Int) (word : Str) (i : Int) : Prop :=
  (word = ("none" : Str) ∧ i = 0 ∧ (∀ k, k < arcs.length → Cir.Good n (Cir.arcOf arcs k)) ∧ ∀ v : Nat, v < n → Cir.net arcs xs v = 0) ∨
  (word = ("arc" : Str) ∧ ∃ k : Nat, i = k ∧ k < arcs.length ∧ ¬ Cir.Good n (Cir.arcOf arcs k) ∧ ∀ j, j < k → Cir.Good n (Cir.arcOf arcs j)) ∨
  (word = ("node" : Str) ∧ (∀ k, k < arcs.length → Cir.Good n (Cir.arcOf arcs k)) ∧ ∃ v : Nat, i = v ∧ v < n ∧ Cir.net arcs xs v ≠ 0 ∧ ∀ u : Nat, u < v → Cir.net arcs xs u = 0)
def spOutcome (K : PySem.W.Frag) : Sp := fun vs H Q _ => ∃ (n : Nat) (a am : Addr) (arcs : List Cir.Arc) (xs : List Int) (d : Int), vs = [.int (n : Int), .ref a, .ref am, .int d] ∧ ArcsAt K H a arcs ∧ SqL K H am (xs.map V.int) ∧
  arcs.length = xs.length ∧ arcs.length ≤ 10000 ∧ n ≤ 10000 ∧ 0 < d ∧ d.natAbs.log2 < 9000 ∧
  ∀ (word : Str) (i : Int), OutOf n arcs xs word i → ∀ (p : Addr) (H' : Hp), Fr [] H H' → H' p = some (.lst [.str word, .int i, .bl true, .bl false]) → Q (.ref p) H'
section
variable {P : Program} {w : World} {K : PySem.W.Frag} {mg : Str → Option Value} {base : Heap} {CD CA CU : Addr}
theorem ok_law_outcome {f : Addr} {fd : FuncData} (F : Fun K "_law_outcome" "_law_outcome" s_law_outcome f fd) (T : TxtL P K mg CD CA CU) (F_rounded : FnB P w K mg base (L2.CX P w) 4 "rounded" ["count", "arcs", "amounts", "divisor"] (spRounded K CA CU)) :
    FnOk P w K mg base CX0 5 f fd ["count", "arcs", "amounts", "divisor"] (spOutcome K) := by
  refine F.ok sc_law_outcome (fun vs H Q E h => ?_) (fun cdv A outer s H vs Q E hr h => ?_)
  · obtain ⟨n, a, am, arcs, xs, d, rfl, _⟩ := h
    rfl
  · obtain ⟨n, a, am, arcs, xs, d, rfl, hA, hX, hlx, hl, hn, hd, hlog, k⟩ := h
    obtain ⟨fA, TA⟩ := T.arc
    obtain ⟨fU, TU⟩ := T.unb
    have TX1 := xfB_ok TA.xf
    have TX2 := xfB_ok TU.xf
    have TN1 := TA.noF "arc" (by simp)
    have TN2 := TU.noF "node" (by simp)
    refine ⟨_, (Evl.pss_cut (ps_try_gen rfl rfl sc_law_outcome.nd takes0
      (fun W pn xe tk po => (pss_one (ps_expr (pe_callFS F_rounded (hr.mono (by decide)) rfl (fun σ => passAt tk σ) (pa_cons (pv 0) (pa_cons (pv 1) (pa_cons (pv 2) (pa_cons (pv 3) pa_nil))))))))
      (HdsG.named (i := 4) ⟨rfl, by decide, .inl TA.gC⟩ rfl rfl (fun a oe cls d pn hz hf => (pss_one (ps_ret (pe_lst (pa_cons pe_str (pa_cons (pe_xf TX1 TN1 hz hf (pv 4)) (pa_cons (pe_callB (call_isX T.h1 T.h2 hz hf) (by rfl) T.m_isinstance (by decide +kernel) (pa_cons (pv 4) (pa_cons (pe_glob (v := .ref _) rfl T.g_DealError rfl) pa_nil))) (pa_cons (pe_callB (call_isX T.h1 T.h2 hz hf) (by rfl) T.m_isinstance (by decide +kernel) (pa_cons (pv 4) (pa_cons (pe_glob (v := .ref _) rfl TU.gC rfl) pa_nil))) pa_nil)))))))) (HdsG.named (i := 4) ⟨rfl, by decide, .inl TU.gC⟩ rfl rfl (fun a oe cls d pn hz hf => (pss_one (ps_ret (pe_lst (pa_cons pe_str (pa_cons (pe_xf TX2 TN2 hz hf (pv 4)) (pa_cons (pe_callB (call_isX T.h1 T.h2 hz hf) (by rfl) T.m_isinstance (by decide +kernel) (pa_cons (pv 4) (pa_cons (pe_glob (v := .ref _) rfl T.g_DealError rfl) pa_nil))) (pa_cons (pe_callB (call_isX T.h1 T.h2 hz hf) (by rfl) T.m_isinstance (by decide +kernel) (pa_cons (pv 4) (pa_cons (pe_glob (v := .ref _) rfl TA.gC rfl) pa_nil))) pa_nil)))))))) HdsG.nil)))
    (pss_one (ps_ret (pe_lst (pa_cons pe_str (pa_cons pe_int (pa_cons pe_bl (pa_cons pe_bl pa_nil)))))))), ?_⟩
    refine ⟨fun σ' H' => Fr [] H H' ∧ OutOf n arcs xs "none" 0, ?_, ?_⟩
    · refine ⟨_, rfl, _, rfl, _, rfl, _, rfl, n, a, am, arcs, xs, d, rfl, hA, hX, hlx, hl, hn, hd, hlog, fun hg hb p H1 np e1 h1 => ⟨e1, .inl ⟨rfl, rfl, hg, hb⟩⟩, fun i hi hb hlow dd H1 e1 hx => ?_, fun hg v hv hb hlow dd H1 e1 hx => ?_⟩
      · refine ⟨true, TA.te, fun _ e0 he0 => ?_, fun z => by cases z⟩
        refine ⟨_, rfl, rfl, rfl, dd, _, _, rfl, hx, rfl, ?_⟩
        refine ⟨_, rfl, CA, dd, _, _, .ref CD, true, rfl, rfl, rfl, (fun u h => h), T.kAD, hx, ⟨T.iA.c, T.iA.m, TA.xf⟩, ?_⟩
        refine ⟨_, rfl, CA, dd, _, _, .ref CU, false, rfl, rfl, rfl, (fun u h => h), T.kAU, hx, ⟨T.iA.c, T.iA.m, TA.xf⟩, ?_⟩
        refine ⟨by show 4 ≤ sizeLine; decide, fun p hp => ?_⟩
        exact k _ _ (.inr (.inl ⟨rfl, i, rfl, hi, hb, hlow⟩)) p _ (e1.new hp) upd_same
      · refine ⟨false, T.eUA, (fun z => by cases z), fun _ => ⟨true, TU.te, fun _ e0 he0 => ?_, fun z => by cases z⟩⟩
        refine ⟨_, rfl, rfl, rfl, dd, _, _, rfl, hx, rfl, ?_⟩
        refine ⟨_, rfl, CU, dd, _, _, .ref CD, true, rfl, rfl, rfl, (fun u h => h), T.kUD, hx, ⟨T.iU.c, T.iU.m, TU.xf⟩, ?_⟩
        refine ⟨_, rfl, CU, dd, _, _, .ref CA, false, rfl, rfl, rfl, (fun u h => h), T.kUA, hx, ⟨T.iU.c, T.iU.m, TU.xf⟩, ?_⟩
        refine ⟨by show 4 ≤ sizeLine; decide, fun p hp => ?_⟩
        exact k _ _ (.inr (.inr ⟨rfl, hg, v, rfl, hv, hb, hlow⟩)) p _ (e1.new hp) upd_same
    · rintro σ' H' ⟨e1, ho⟩
      refine ⟨by show 4 ≤ sizeLine; decide, fun p hp => ?_⟩
      exact k _ _ ho p _ (e1.new hp) upd_same
end
/-! _law_network(bag, count, divisor, rounds): slots 0 bag 1 count 2 divisor 3 rounds 4 arcs 5 amounts 6 turn 7 order 8 size 9 k 10 other 11 kept 12 part 13 ends 14 at -/
abbrev s_law_network : Stmt := top 15
abbrev n_law_network : List Str := ["bag", "count", "divisor", "rounds", "arcs", "amounts", "turn", "order", "size", "k", "other", "kept", "part", "ends", "at"]
theorem sc_law_network : FnScope n_law_network ["bag", "count", "divisor", "rounds"] (defScope s_law_network) := ⟨rfl, rfl, rfl, by decide +kernel, rfl, by decide +kernel, by decide +kernel⟩
/-- the lists of a network that is drawn: arcs at pa, amounts at px -/
structure NetSt (b c pa px : Addr) (H H' : Hp) (ts : List Addr) (as : List Cir.Arc) (xs : List Int) : Prop where
  fr : Fr [b] H H'
  bag : BagC H' b c
  la : H' pa = some (.lst (ts.map V.ref))
  lx : H' px = some (.lst (xs.map V.int))
  ln : ts.length = as.length
  tup : ∀ (k : Nat) (t : Addr) (p : Cir.Arc), ts[k]? = some t → as[k]? = some p → H' t = some (.tup [.int p.1, .int p.2])
  na : H pa = none
  nx : H px = none
  ne : pa ≠ px
  bag0 : BagC H b c
section
variable {b c pa px q : Addr} {H H1 H2 : Hp} {ts : List Addr} {as : List Cir.Arc} {xs : List Int} {o : HO}
theorem NetSt.t (h : NetSt b c pa px H H1 ts as xs) {t : Addr} (ht : t ∈ ts) : ∃ l, H1 t = some (.tup l) := by
  obtain ⟨k, hk⟩ := List.mem_iff_getElem?.mp ht
  have hl : k < as.length := by
    rw [← h.ln]
    exact (List.getElem?_eq_some_iff.mp hk).1
  exact ⟨_, h.tup k t _ hk (Cir.get_arc hl)⟩
theorem NetSt.pab (h : NetSt b c pa px H H1 ts as xs) : pa ≠ b := h.bag0.neb h.na
theorem NetSt.pac (h : NetSt b c pa px H H1 ts as xs) : pa ≠ c := h.bag0.nec h.na
theorem NetSt.pxb (h : NetSt b c pa px H H1 ts as xs) : px ≠ b := h.bag0.neb h.nx
theorem NetSt.pxc (h : NetSt b c pa px H H1 ts as xs) : px ≠ c := h.bag0.nec h.nx
theorem NetSt.take (h : NetSt b c pa px H H1 ts as xs) (e : Fr [b] H1 H2) (hB : BagC H2 b c) : NetSt b c pa px H H2 ts as xs := by
  refine ⟨h.fr.trans e, hB, e _ _ h.la (by simpa using h.pab), e _ _ h.lx (by simpa using h.pxb), h.ln, fun k t p ht hp => e _ _ (h.tup k t p ht hp) ?_, h.na, h.nx, h.ne, h.bag0⟩
  obtain ⟨i, v, s, hb⟩ := h.bag.b
  have := ne_of (h.tup k t p ht hp) hb (by intro z; cases z)
  simpa using this
theorem NetSt.side (h : NetSt b c pa px H H1 ts as xs) (ha : q ≠ pa) (hx : q ≠ px) (hb : q ≠ b) (hc : q ≠ c) (h0 : H q = none) (ht : ∀ t ∈ ts, t ≠ q) : NetSt b c pa px H (upd H1 q o) ts as xs := by
  refine ⟨h.fr.put (.inr h0), h.bag.put hb hc, by rw [upd_ne ha.symm]; exact h.la, by rw [upd_ne hx.symm]; exact h.lx, h.ln, fun k t p ht2 hp => ?_, h.na, h.nx, h.ne, h.bag0⟩
  rw [upd_ne (ht t (List.mem_of_getElem? ht2))]
  exact h.tup k t p ht2 hp
theorem fr_free {b q : Addr} {H H1 : Hp} (h : Fr [b] H H1) (hb : q ≠ b) (h1 : H1 q = none) : H q = none := by
  cases z : H q with
  | none => rfl
  | some u =>
    rw [h q u z (by simpa using hb)] at h1
    cases h1
theorem NetSt.new (h : NetSt b c pa px H H1 ts as xs) (hq : H1 q = none) : NetSt b c pa px H (upd H1 q o) ts as xs := by
  refine h.side (ne_of_none h.la hq).symm (ne_of_none h.lx hq).symm (h.bag.neb hq) (h.bag.nec hq) (fr_free h.fr (h.bag.neb hq) hq) fun t ht => ?_
  obtain ⟨l, z⟩ := h.t ht
  exact ne_of_none z hq
theorem NetSt.lst (h : NetSt b c pa px H H1 ts as xs) {l : List V} (hq : H1 q = some (.lst l)) (ha : q ≠ pa) (hx : q ≠ px) (hb : q ≠ b) (hc : q ≠ c) (h0 : H q = none) : NetSt b c pa px H (upd H1 q o) ts as xs := by
  refine h.side ha hx hb hc h0 fun t ht => ?_
  obtain ⟨l', z⟩ := h.t ht
  exact ne_of z hq (by intro e; cases e)
theorem NetSt.amt (h : NetSt b c pa px H H1 ts as xs) (k : Nat) (y : Int) : NetSt b c pa px H (upd H1 px (.lst ((xs.map V.int).set k (.int y)))) ts as (xs.set k y) := by
  refine ⟨h.fr.put (.inr h.nx), h.bag.put h.pxb h.pxc, by rw [upd_ne h.ne]; exact h.la, by rw [upd_same, List.map_set], h.ln, fun j t p ht hp => ?_, h.na, h.nx, h.ne, h.bag0⟩
  rw [upd_ne (ne_of (h.tup j t p ht hp) h.lx (by intro e; cases e))]
  exact h.tup j t p ht hp
theorem NetSt.arc (h : NetSt b c pa px H H1 ts as xs) {t0 : Addr} {e : Cir.Arc} (ht : H1 t0 = some (.tup [.int e.1, .int e.2])) :
    NetSt b c pa px H (upd (upd H1 pa (.lst (ts.map V.ref ++ [.ref t0]))) px (.lst (xs.map V.int ++ [.int 0]))) (ts ++ [t0]) (as ++ [e]) (xs ++ [0]) := by
  have u : ∀ {t : Addr} {l : List V}, H1 t = some (.tup l) → (upd (upd H1 pa (.lst (ts.map V.ref ++ [.ref t0]))) px (.lst (xs.map V.int ++ [.int 0]))) t = some (.tup l) := fun {t l} z => by
    rw [upd_ne (ne_of z h.lx (by intro e; cases e)), upd_ne (ne_of z h.la (by intro e; cases e))]
    exact z
  refine ⟨(h.fr.put (.inr h.na)).put (.inr h.nx), (h.bag.put h.pab h.pac).put h.pxb h.pxc, by rw [upd_ne h.ne, upd_same, List.map_append]; rfl, by rw [upd_same, List.map_append]; rfl, by simp [h.ln], fun j t p ht2 hp => ?_, h.na, h.nx, h.ne, h.bag0⟩
  rcases Cir.getElem?_snoc_last ht2 with ⟨hl, z⟩ | ⟨rfl, rfl⟩
  · rw [List.getElem?_append_left (by rw [← h.ln]; exact hl)] at hp
    exact u (h.tup j t p z hp)
  · rw [h.ln, List.getElem?_append_right (Nat.le_refl _), Nat.sub_self] at hp
    cases Option.some.inj hp
    exact u ht
end
def spNetwork (K : PySem.W.Frag) : Sp := fun vs H Q _ => ∃ (b c : Addr) (n : Nat) (d : Int) (r : Nat), vs = [.ref b, .int (n : Int), .int d, .int (r : Int)] ∧ BagC H b c ∧ 2 ≤ n ∧ n ≤ 60 ∧ 0 < d ∧ d < 2 ^ 101 ∧ 1 ≤ r ∧ r ≤ 10 ∧
  ∀ (p pa px : Addr) (ts : List Addr) (as : List Cir.Arc) (xs : List Int) (H' : Hp), NetSt b c pa px H H' ts as xs → H' p = some (.lst [.ref pa, .ref px]) → Cir.NetOk n d 250 as xs → 0 < as.length → (∀ v, Cir.net as xs v = 0) → Q (.ref p) H'
/-- x if c else y, read as one number -/
theorem tIf_q {t : TT} {ta tb : TE} {σ : L2.St} {H : Hp} {Q : VK} (c : Bool) (x y : Int) (ht : ∀ R : Bool → Hp → Prop, R c H → t σ H R) (hx : ∀ R : VK, R (.int x) H → ta σ H R) (hy : ∀ R : VK, R (.int y) H → tb σ H R)
    (h : Q (.int (if c = true then x else y)) H) : tIf t ta tb σ H Q := by
  refine ht _ ?_
  cases c with
  | true => exact iteT (hx _ (by simpa using h))
  | false => exact iteF (hy _ (by simpa using h))
/-- the node that the round reaches with its j-th arc -/
def ndAt (os : List Int) (sz j : Nat) : Int := if j < sz then Cir.part os j else Cir.part os 0
theorem dp_arcs {K : PySem.W.Frag} {b c pa px : Addr} {H H1 : Hp} {ts : List Addr} {as : List Cir.Arc} {xs : List Int} (h : NetSt b c pa px H H1 ts as xs) : Dp K H1 (.ref pa) (dPrs as) :=
  .lst (SqL.of h.la) (dpa_prs ts as h.ln fun k t p a b => SqT.of (h.tup k t p a b))
section
variable {P : Program} {w : World} {K : PySem.W.Frag} {mg : Str → Option Value} {base : Heap} {CA CU : Addr}
theorem ok_law_network {f : Addr} {fd : FuncData} (F : Fun K "_law_network" "_law_network" s_law_network f fd) (T : Txt P K mg CA CU) (F_law_take : FnB P w K mg base CX0 1 "_law_take" ["bag", "many"] spTake) :
    FnOk P w K mg base CX0 2 f fd ["bag", "count", "divisor", "rounds"] (spNetwork K) := by
  refine F.ok sc_law_network (fun vs H Q E h => ?_) (fun cdv A outer s H vs Q E hr h => ?_)
  · obtain ⟨b, c, n, d, r, rfl, _⟩ := h
    rfl
  · obtain ⟨b, c, n, d, r, rfl, hB, hn2, hn, hd, hdl, hr1, hr10, k⟩ := h
    have hu65 : (A.deeper (envOfC "_law_network" (defScope s_law_network) s.heap.objs.size f cdv)).units + 65 < cLine := by have := hr.un; omega
    refine ⟨_, (pss_cons (ps_set (i := 4) sc_law_network.nd rfl (Or.inl rfl) (pe_lst pa_nil))
    (pss_cons (ps_set (i := 5) sc_law_network.nd rfl (Or.inl rfl) (pe_lst pa_nil))
    (pss_cons (ps_for PassesOwn.never rfl (pi_range1 (by rfl) T.m_range (pa_cons (pv 3) pa_nil)) (pg_name (i := 6) sc_law_network.nd rfl (Or.inl rfl))
      (pss_cons (ps_set (i := 7) sc_law_network.nd rfl (Or.inl rfl) (pe_listRg rfl (by rfl) T.m_list (prg_1 (by rfl) T.m_range (pv 1))))
      (pss_cons (ps_set (i := 8) sc_law_network.nd rfl (Or.inl rfl) (pe_op op_add pe_int (pe_callF F_law_take (hr.mono (by decide)) rfl pass0 (pa_cons (pv 0) (pa_cons (pe_op op_sub (pe_callB (call_min2 rfl) (by rfl) T.m_min (by decide +kernel) (pa_cons (pv 1) (pa_cons pe_int pa_nil))) pe_int) pa_nil)))))
      (pss_cons (ps_for PassesOwn.never rfl (pi_range1 (by rfl) T.m_range (pa_cons (pv 8) pa_nil)) (pg_name (i := 9) sc_law_network.nd rfl (Or.inl rfl))
        (pss_cons (ps_set (i := 10) sc_law_network.nd rfl (Or.inl rfl) (pe_op op_add (pv 9) (pe_callF F_law_take (hr.mono (by decide)) rfl pass0 (pa_cons (pv 0) (pa_cons (pe_op op_sub (pv 1) (pv 9)) pa_nil)))))
        (pss_cons (ps_set (i := 11) sc_law_network.nd rfl (Or.inl rfl) (pe_ix ix_list (pv 7) (pv 9) (fun _ _ => rfl)))
        (pss_cons (ps_asg (pe_ix ix_list (pv 7) (pv 10) (fun _ _ => rfl)) (pg_sub (pv 7) (pv 9) set_list))
        (pss_one (ps_asg (pv 11) (pg_sub (pv 7) (pv 10) set_list)))))))
      (pss_cons (ps_set (i := 12) sc_law_network.nd rfl (Or.inl rfl) (pe_op op_sub (pe_callF F_law_take (hr.mono (by decide)) rfl pass0 (pa_cons (pv 0) (pa_cons (pe_op op_add (pe_op op_mul pe_int (pv 2)) pe_int) pa_nil))) (pv 2)))
      (Evl.pss_cut (ps_if (pt_cmpR op_eq (pe_callF F_law_take (hr.mono (by decide)) rfl pass0 (pa_cons (pv 0) (pa_cons pe_int pa_nil))) pe_int (nomark _))
        (pss_one (ps_set (i := 12) sc_law_network.nd rfl (Or.inl rfl) (pe_op op_mulW (pv 2) (pe_op op_fdivW (pv 12) (pv 2)))))
        pss_nil)
      (pss_one (ps_for PassesOwn.never rfl (pi_range1 (by rfl) T.m_range (pa_cons (pv 8) pa_nil)) (pg_name (i := 9) sc_law_network.nd rfl (Or.inl rfl))
        (pss_cons (ps_set (i := 13) sc_law_network.nd rfl (Or.inl rfl) (pe_tup (pa_cons (pe_ix ix_list (pv 7) (pv 9) (fun _ _ => rfl)) (pa_cons (pe_ix ix_list (pv 7) (pe_ifExp (pt_cmpR op_lt (pe_op op_add (pv 9) pe_int) (pv 8) (nomark _)) (pe_op op_add (pv 9) pe_int) pe_int) (fun _ _ => rfl)) pa_nil))))
        (pss_cons (ps_set (i := 14) sc_law_network.nd rfl (Or.inl rfl) (pe_callB call_len_seq (by rfl) T.m_len (by decide +kernel) (pa_cons (pv 4) pa_nil)))
        (Evl.pss_cut (ps_if (PW.pt (pw_and (pt_cmpR (op_inD hu65) (pv 13) (pv 4) rfl) (pw_and1 (pt_cmpR op_gt (pe_callF F_law_take (hr.mono (by decide)) rfl pass0 (pa_cons (pv 0) (pa_cons pe_int pa_nil))) pe_int (nomark _)))))
          (pss_one (ps_set (i := 14) sc_law_network.nd rfl (Or.inl rfl) (pe_bm PySem.F.plainAttrs_list PySem.F.slot_list_index PySem.F.type_list_index (mt_indexD hu65) (pv 4) (pa_cons (pv 13) pa_nil))))
          pss_nil)
        (Evl.pss_cut (ps_if (pt_cmpR op_eq (pv 14) (pe_callB call_len_seq (by rfl) T.m_len (by decide +kernel) (pa_cons (pv 4) pa_nil)) (nomark _))
          (pss_cons (ps_expr (pe_bm PySem.F.plainAttrs_list PySem.F.slot_list_append PySem.F.type_list_append mt_append (pv 4) (pa_cons (pv 13) pa_nil)))
          (pss_one (ps_expr (pe_bm PySem.F.plainAttrs_list PySem.F.slot_list_append PySem.F.type_list_append mt_append (pv 5) (pa_cons pe_int pa_nil)))))
          pss_nil)
        (pss_one (ps_asg (pe_op op_add (pe_ix ix_list (pv 5) (pv 14) (fun _ _ => rfl)) (pv 12)) (pg_sub (pv 5) (pv 14) set_list)))))))))))))))
    (pss_one (ps_ret (pe_lst (pa_cons (pv 4) (pa_cons (pv 5) pa_nil)))))))), ?_⟩
    refine ⟨by show 0 ≤ sizeLine; exact Nat.zero_le _, fun pa hpa => ⟨by show 0 ≤ sizeLine; exact Nat.zero_le _, fun px hpx => ⟨_, rfl, _, rfl, (rg_ok (by omega)).1, (rg_ok (by omega)).2, for_rng (n := r)
      (fun i σ H' => ∃ (ts : List Addr) (as : List Cir.Arc) (xs : List Int), NetSt b c pa px H H' ts as xs ∧ Cir.NetOk n d (25 * i) as xs ∧ (∀ v, Cir.net as xs v = 0) ∧ ∃ o6 o7 o8 o9 o10 o11 o12 o13 o14 : Option V,
        σ = [some (.ref b), some (.int (n : Int)), some (.int d), some (.int (r : Int)), some (.ref pa), some (.ref px), o6, o7, o8, o9, o10, o11, o12, o13, o14]) ?_ ?_ ?_⟩⟩⟩
    · have npp : pa ≠ px := ne_of_none upd_same hpx
      have hx0 : H px = none := (Fr.refl [] H |>.new hpa).free hpx
      refine ⟨[], [], [], ⟨((Fr.refl _ H).new hpa).new hpx, (hB.new hpa).new hpx, by rw [upd_ne npp]; exact upd_same, upd_same, rfl, fun k t p a => by simp at a, hpa, hx0, npp, hB⟩, Cir.NetOk.zero _ _, fun v => rfl, _, _, _, _, _, _, _, _, _, rfl⟩
    · rintro i σ H1 hi ⟨ts, as, xs, N, ok, bal, o6, o7, o8, o9, o10, o11, o12, o13, o14, rfl⟩
      refine ⟨_, rfl, _, rfl, RgOk.of_le (by omega) (by omega) (by omega) (by omega), fun po hpo => ?_⟩
      have N2 := N.new (o := .lst (rgV 0 (n : Int))) hpo
      have pA : po ≠ pa := (ne_of_none N.la hpo).symm
      have pX : po ≠ px := (ne_of_none N.lx hpo).symm
      have pB : po ≠ b := N.bag.neb hpo
      have pC : po ≠ c := N.bag.nec hpo
      have p0 : H po = none := fr_free N.fr pB hpo
      have hp2 : (upd H1 po (.lst (rgV 0 (n : Int)))) po = some (.lst (((List.range n).map fun (i : Nat) => (i : Int)).map V.int)) := by
        rw [upd_same, List.map_map]
        unfold rgV
        rw [show ((n : Int) - 0).toNat = n by omega]
        simp
      generalize upd H1 po (.lst (rgV 0 (n : Int))) = H2 at N2 hp2 ⊢
      have o2 := Cir.Ord.base n
      generalize (List.range n).map (fun (i : Nat) => (i : Int)) = os at hp2 o2
      -- size
      refine ⟨_, rfl, _, rfl, _, _, rfl, _, _, rfl, rfl, b, c, _, rfl, N2.bag, ?_, ?_, fun t H3 t0 t1 e3 B3 => ?_⟩
      · split <;> omega
      · refine log_ok (Nat.lt_of_le_of_lt (m := 100) ?_ (by decide))
        split <;> omega
      have N3 := N2.take e3 B3
      have hp3 := e3 _ _ hp2 (by simpa using pB)
      obtain ⟨tn, rfl⟩ : ∃ tn : Nat, t = (tn : Int) := ⟨t.toNat, by omega⟩
      have hsz : 2 + tn ≤ n ∧ 2 + tn ≤ 25 := by
        by_cases h25 : (25 : Int) < (n : Int)
        · rw [if_pos h25] at t1
          omega
        · rw [if_neg h25] at t1
          omega
      refine ⟨_, _, rfl, rfl, ?_⟩
      refine ⟨_, rfl, _, rfl, (rg_ok (n := 2 + tn) (by omega)).1, (rg_ok (n := 2 + tn) (by omega)).2, for_rng (n := 2 + tn)
        (fun j σ H' => NetSt b c pa px H H' ts as xs ∧ ∃ os : List Int, H' po = some (.lst (os.map V.int)) ∧ Cir.Ord n os ∧ ∃ o9 o10 o11 o12 o13 o14 : Option V,
          σ = [some (.ref b), some (.int (n : Int)), some (.int d), some (.int (r : Int)), some (.ref pa), some (.ref px), some (.int (i : Int)), some (.ref po), some (.int ((2 + tn : Nat) : Int)), o9, o10, o11, o12, o13, o14])
        ⟨N3, os, hp3, o2, _, _, _, _, _, _, rfl⟩ ?_ ?_⟩
      · clear hp3 hp2 N3 o2 B3 e3 t0 t1
        generalize hsn : 2 + tn = sz at hsz ⊢
        rintro j σ H4 hj ⟨N4, os, hp4, o4, o9, o10, o11, o12, o13, o14, rfl⟩
        refine ⟨_, rfl, _, rfl, _, rfl, _, rfl, _, _, rfl, rfl, b, c, _, rfl, N4.bag, by omega, log_ok (Nat.lt_of_le_of_lt (m := 100) (by omega) (by decide)), fun t H5 t0 t1 e5 B5 => ?_⟩
        have N5 := N4.take e5 B5
        have hp5 := e5 _ _ hp4 (by simpa using pB)
        obtain ⟨tm, rfl⟩ : ∃ tm : Nat, t = (tm : Int) := ⟨t.toNat, by omega⟩
        have hjn : j < os.length := by rw [o4.len]; omega
        have hon : j + tm < os.length := by rw [o4.len]; omega
        refine ⟨_, _, rfl, rfl, ?_⟩
        refine ⟨_, rfl, _, rfl, _, _, _, _, rfl, rfl, SqL.of hp5, at_part hjn, ?_⟩
        refine ⟨_, rfl, _, rfl, _, _, _, _, rfl, rfl, SqL.of hp5, at_part hon, _, rfl, _, rfl, _, _, _, _, rfl, rfl, hp5, ix_nat (by rw [List.length_map]; exact hjn), ?_⟩
        have N6 := N5.lst (o := .lst ((os.map V.int).set j (.int (Cir.part os (j + tm))))) hp5 pA pX pB pC p0
        refine ⟨_, rfl, _, rfl, _, rfl, _, _, _, _, rfl, rfl, upd_same, ix_nat (by rw [List.length_set, List.length_map]; exact hon), ?_⟩
        rw [upd_upd]
        refine ⟨?_, (os.set j (Cir.part os (j + tm))).set (j + tm) (Cir.part os j), ?_, o4.swap (by omega) (by omega), _, _, _, _, _, _, rfl⟩
        · exact N5.lst hp5 pA pX pB pC p0
        · rw [upd_same, List.map_set, List.map_set]
      · clear hp3 hp2 N3 o2 B3 e3 t0 t1
        generalize hsn : 2 + tn = sz at hsz ⊢
        rintro σ H4 ⟨N4, os, hp4, o4, o9, o10, o11, o12, o13, o14, rfl⟩
        -- part
        refine ⟨_, rfl, _, rfl, _, _, rfl, rfl, .inl (by decide), _, _, rfl, rfl, b, c, _, rfl, N4.bag, by omega, log_ok ?_, fun pt H5 q0 q1 e5 B5 => ?_⟩
        · have : 2 ^ 101 * 4 < 2 ^ 250 := by decide
          omega
        have N5 := N4.take e5 B5
        have hp5 := e5 _ _ hp4 (by simpa using pB)
        refine ⟨_, rfl, _, _, rfl, rfl, ?_⟩
        refine ⟨fun σ' H' => ∃ pt : Int, -d ≤ pt ∧ pt ≤ 2 * d ∧ NetSt b c pa px H H' ts as xs ∧ H' po = some (.lst (os.map V.int)) ∧
          σ' = [some (.ref b), some (.int (n : Int)), some (.int d), some (.int (r : Int)), some (.ref pa), some (.ref px), some (.int (i : Int)), some (.ref po), some (.int (sz : Int)), o9, o10, o11, some (.int pt), o13, o14], ?_, ?_⟩
        · refine ⟨_, rfl, b, c, 4, rfl, N5.bag, by decide, by decide, fun z H6 z0 z1 e6 B6 => ⟨rfl, _, rfl, ?_⟩⟩
          have N6 := N5.take e6 B6
          have hp6 := e6 _ _ hp5 (by simpa using pB)
          refine eq_if (fun _ => ?_) fun _ => ⟨pt - d, by omega, by omega, N6, hp6, rfl⟩
          have wp := Cir.whole_part (p := pt - d) hd (by omega) (by omega)
          refine ⟨_, rfl, _, rfl, _, rfl, _, _, rfl, rfl, ⟨hd, log_ok ?_⟩, _, _, rfl, rfl, ?_, ?_⟩
          · have : 2 ^ 101 < 2 ^ 250 := by decide
            omega
          · have l1 : (pt - d) / d ≤ 2 := Int.ediv_le_of_le_mul hd (by omega)
            have l2 : -1 ≤ (pt - d) / d := Int.le_ediv_of_mul_le hd (by omega)
            have l3 : d.natAbs < 2 ^ 110 := by
              have : (2 : Int) ^ 101 < 2 ^ 110 := by decide
              omega
            exact wide_mul (a := 110) (b := 10) l3 (by omega) (by decide) (by decide) (by decide)
          · exact ⟨_, wp.1, wp.2, N6, hp6, rfl⟩
        clear N5 hp5 e5 B5 N4 hp4 q0 q1 pt
        rintro σ' H6 ⟨pt, q0, q1, N6, hp6, rfl⟩
        refine ⟨_, rfl, _, rfl, (rg_ok (by omega)).1, (rg_ok (by omega)).2, for_rng (n := sz)
          (fun j σ H' => ∃ (ts : List Addr) (as : List Cir.Arc) (xs : List Int), NetSt b c pa px H H' ts as xs ∧ Cir.NetOk n d (25 * i + j) as xs ∧ (∀ v, Cir.net as xs v = pt * (Cir.ind (ndAt os sz j) v - Cir.ind (ndAt os sz 0) v)) ∧ H' po = some (.lst (os.map V.int)) ∧
            ∃ o9 o10 o11 o13 o14 : Option V, σ = [some (.ref b), some (.int (n : Int)), some (.int d), some (.int (r : Int)), some (.ref pa), some (.ref px), some (.int (i : Int)), some (.ref po), some (.int (sz : Int)), o9, o10, o11, some (.int pt), o13, o14])
          ⟨ts, as, xs, N6, ok, fun v => by rw [bal v, Int.sub_self, Int.mul_zero], hp6, _, _, _, _, _, rfl⟩ ?_ ?_⟩
        · clear N6 hp6 N2 N ok bal o9 o10 o11 o13 o14
          rintro j σ H7 hj ⟨ts, as, xs, N, ok, bal, hp, o9, o10, o11, o13, o14, rfl⟩
          have hjn : j < os.length := by rw [o4.len]; omega
          have enj : ndAt os sz j = Cir.part os j := if_pos hj
          refine ⟨_, rfl, _, rfl, _, _, _, _, rfl, rfl, SqL.of hp, at_part hjn, _, rfl, ?_⟩
          refine tIf_q (decide ((j : Int) + 1 < (sz : Int))) ((j : Int) + 1) 0 (fun R h => ⟨_, rfl, _, _, rfl, rfl, _, rfl, _, _, rfl, rfl, _, rfl, h⟩) (fun R h => ⟨_, rfl, _, _, rfl, rfl, h⟩) (fun R h => h) ?_
          have at2 : atI (os.map V.int) (if decide ((j : Int) + 1 < (sz : Int)) = true then (j : Int) + 1 else 0) = some (.int (ndAt os sz (j + 1))) := by
            by_cases lt : j + 1 < sz
            · rw [if_pos (decide_eq_true (by omega))]
              unfold ndAt
              rw [if_pos lt]
              exact at_part (k := j + 1) (by rw [o4.len]; omega)
            · rw [if_neg (by simp; omega)]
              unfold ndAt
              rw [if_neg lt]
              exact at_part (k := 0) (by rw [o4.len]; omega)
          have good : Cir.Good n (Cir.part os j, ndAt os sz (j + 1)) := by
            have a1 := o4.at (i := j) (by omega)
            unfold ndAt
            by_cases lt : j + 1 < sz
            · rw [if_pos lt]
              exact ⟨a1, o4.at (by omega), o4.ne (by omega) (by omega) (by omega)⟩
            · rw [if_neg lt]
              exact ⟨a1, o4.at (by omega), o4.ne (by omega) (by omega) (by omega)⟩
          generalize (if decide ((j : Int) + 1 < (sz : Int)) = true then (j : Int) + 1 else 0) = ix at at2 ⊢
          refine ⟨_, _, _, _, rfl, rfl, SqL.of hp, at2, by show 2 ≤ sizeLine; decide, fun t0 ht0 => ?_⟩
          have N8 := N.new (o := .tup [.int (Cir.part os j), .int (ndAt os sz (j + 1))]) ht0
          have hp8 : (upd H7 t0 (.tup [.int (Cir.part os j), .int (ndAt os sz (j + 1))])) po = some (.lst (os.map V.int)) := by rw [upd_ne (ne_of_none hp ht0)]; exact hp
          have ht8 : (upd H7 t0 (.tup [.int (Cir.part os j), .int (ndAt os sz (j + 1))])) t0 = some (.tup [.int (Cir.part os j), .int (ndAt os sz (j + 1))]) := upd_same
          have ed : ∀ v, Cir.net as xs v + pt * Cir.dlt (Cir.part os j, ndAt os sz (j + 1)) v = pt * (Cir.ind (ndAt os sz (j + 1)) v - Cir.ind (ndAt os sz 0) v) := fun v => by
            rw [bal v, enj, ← Int.mul_add]
            show pt * (Cir.ind (Cir.part os j) v - Cir.ind (ndAt os sz 0) v + (Cir.ind (ndAt os sz (j + 1)) v - Cir.ind (Cir.part os j) v)) = _
            congr 1
            omega
          generalize upd H7 t0 (.tup [.int (Cir.part os j), .int (ndAt os sz (j + 1))]) = H8 at N8 hp8 ht8 ⊢
          have hee : ∃ e : Cir.Arc, e = (Cir.part os j, ndAt os sz (j + 1)) := ⟨_, rfl⟩
          obtain ⟨e, hee⟩ := hee
          have ht8 : H8 t0 = some (.tup [.int e.1, .int e.2]) := by rw [hee]; exact ht8
          rw [← hee] at good ed
          clear at2 enj
          refine ⟨_, rfl, _, _, rfl, .inl (SqL.of N8.la), ?_⟩
          have hll : (ts.map V.ref).length = as.length := by rw [List.length_map, N8.ln]
          have few := ok.few
          refine ⟨fun σ' H' => ∃ at_ : Nat, (at_ = as.length ∨ at_ < as.length ∧ Cir.arcOf as at_ = e) ∧ NetSt b c pa px H H' ts as xs ∧ H' po = some (.lst (os.map V.int)) ∧ H' t0 = some (.tup [.int e.1, .int e.2]) ∧
            σ' = [some (.ref b), some (.int (n : Int)), some (.int d), some (.int (r : Int)), some (.ref pa), some (.ref px), some (.int (i : Int)), some (.ref po), some (.int (sz : Int)), some (.int (j : Int)), o10, o11, some (.int pt), some (.ref t0), some (.int (at_ : Int))], ?_, ?_⟩
          · refine ⟨_, rfl, _, rfl, dPr e, as.map dPr, dp_pr (SqT.of ht8), dp_arcs N8, pr_shaped _, prs_shaped _, ?_⟩
            rw [any_pr]
            refine ⟨_, rfl, dec_iff (fun mem => ?_) fun _ => ?_⟩
            · refine ⟨_, rfl, b, c, 5, rfl, N8.bag, by decide, by decide, fun z H9 z0 z1 e9 B9 => ?_⟩
              have N9 := N8.take e9 B9
              have hp9 := e9 _ _ hp8 (by simpa using pB)
              have ht9 : H9 t0 = some (.tup [.int e.1, .int e.2]) := e9 _ _ ht8 (by
                obtain ⟨i, v, s, hb⟩ := N8.bag.b
                simpa using ne_of ht8 hb (by intro z; cases z))
              refine ⟨_, _, rfl, rfl, _, rfl, dec_iff (fun _ => ?_) fun _ => ⟨as.length, .inl rfl, N9, hp9, ht9, by rw [hll]; rfl⟩⟩
              have ex : ∃ k, k < as.length ∧ as[k]? = some e := by
                obtain ⟨k, hk⟩ := List.mem_iff_getElem?.mp mem
                exact ⟨k, (List.getElem?_eq_some_iff.mp hk).1, hk⟩
              obtain ⟨k, k1, k2, k3⟩ := least as.length ex
              refine ⟨_, rfl, .inl ⟨rfl, _, SqL.of N9.la⟩, _, rfl, pa, .ref t0, dPr e, as.map dPr, k, dPr e, rfl, rfl, dp_arcs N9, dp_pr (SqT.of ht9), prs_shaped _, pr_shaped _, by rw [List.getElem?_map, k2]; rfl, by rw [pr_eqv]; simp, fun m z' hm hz' => ?_, ?_⟩
              · rw [List.getElem?_map] at hz'
                have hml : m < as.length := by omega
                rw [Cir.get_arc hml] at hz'
                have ez : z' = dPr (Cir.arcOf as m) := (Option.some.inj hz').symm
                rw [ez, pr_eqv]
                exact decide_eq_false fun q => k3 m hm (by rw [Cir.get_arc hml, q])
              · exact ⟨k, .inr ⟨k1, Cir.arc_get k2⟩, N9, hp9, ht9, rfl⟩
            · exact ⟨as.length, .inl rfl, N8, hp8, ht8, by rw [hll]; rfl⟩
          clear N8 hp8 ht8
          rintro σ' H9 ⟨at_, hat, N9, hp9, ht9, rfl⟩
          refine ⟨fun σ' H' => ∃ (ts : List Addr) (as' : List Cir.Arc) (xs' : List Int), NetSt b c pa px H H' ts as' xs' ∧ H' po = some (.lst (os.map V.int)) ∧ at_ < xs'.length ∧
            (Cir.NetOk n d (25 * i + j + 1) as' (xs'.set at_ (Cir.part xs' at_ + pt)) ∧ ∀ v, Cir.net as' (xs'.set at_ (Cir.part xs' at_ + pt)) v = Cir.net as xs v + pt * Cir.dlt e v) ∧
            σ' = [some (.ref b), some (.int (n : Int)), some (.int d), some (.int (r : Int)), some (.ref pa), some (.ref px), some (.int (i : Int)), some (.ref po), some (.int (sz : Int)), some (.int (j : Int)), o10, o11, some (.int pt), some (.ref t0), some (.int (at_ : Int))], ?_, ?_⟩
          · refine ⟨_, rfl, _, rfl, _, _, rfl, .inl (SqL.of N9.la), rfl, _, rfl, eq_if (fun eq => ?_) fun ne => ?_⟩
            · rw [hll] at eq
              have ea : at_ = as.length := by omega
              refine ⟨_, rfl, .inl ⟨rfl, _, SqL.of N9.la⟩, _, rfl, _, _, _, rfl, rfl, N9.la, len_lt (by omega), ?_⟩
              have lx1 : (upd H9 pa (.lst (ts.map V.ref ++ [.ref t0]))) px = some (.lst (xs.map V.int)) := by rw [upd_ne N9.ne.symm]; exact N9.lx
              refine ⟨_, rfl, .inl ⟨rfl, _, SqL.of lx1⟩, _, _, _, rfl, rfl, lx1, len_lt (by rw [List.length_map, ← ok.len]; omega), ?_⟩
              refine ⟨ts ++ [t0], as ++ [e], xs ++ [0], N9.arc ht9, ?_, by rw [ea, ok.len]; simp, ?_, rfl⟩
              · rw [upd_ne pX, upd_ne pA]
                exact hp9
              · have es : (xs ++ [0]).set at_ (Cir.part (xs ++ [0]) at_ + pt) = xs ++ [pt] := by
                  rw [ea, ok.len, Cir.part_snoc, Int.zero_add, List.set_append_right _ _ (Nat.le_refl _), Nat.sub_self]
                  rfl
                rw [es]
                exact ok.new hd (by omega) q1 good
            · rw [hll] at ne
              rcases hat with rfl | ⟨h1, h2⟩
              · exact absurd rfl ne
              · refine ⟨ts, as, xs, N9, hp9, by rw [← ok.len]; exact h1, ?_, rfl⟩
                rw [← h2]
                exact ok.old hd (by omega) q1 h1
          clear N9 hp9 ht9 hat
          rintro σ' H10 ⟨ts, as', xs', N10, hp10, hl10, ⟨ok10, net10⟩, rfl⟩
          refine ⟨_, rfl, _, rfl, _, _, _, _, rfl, rfl, SqL.of N10.lx, at_part hl10, _, rfl, _, _, rfl, rfl, _, rfl, _, rfl, _, _, _, _, rfl, rfl, N10.lx, ix_nat (by rw [List.length_map]; exact hl10), ?_⟩
          refine ⟨ts, as', _, N10.amt at_ (Cir.part xs' at_ + pt), ok10, fun v => by rw [net10 v, ed v], ?_, _, _, _, _, _, rfl⟩
          rw [upd_ne pX]
          exact hp10
        · rintro σ H7 ⟨ts, as, xs, N, ok, bal, hp, o9, o10, o11, o13, o14, rfl⟩
          refine ⟨ts, as, xs, N, ok.more (by omega) hd (by omega), fun v => ?_, _, _, _, _, _, _, _, _, _, rfl⟩
          rw [bal v]
          unfold ndAt
          rw [if_neg (by omega), if_pos (by omega), Int.sub_self, Int.mul_zero]
    · rintro σ H1 ⟨ts, as, xs, N, ok, bal, o6, o7, o8, o9, o10, o11, o12, o13, o14, rfl⟩
      refine ⟨_, rfl, _, rfl, by show 2 ≤ sizeLine; decide, fun p hp => ?_⟩
      exact k p pa px ts as xs _ (N.new hp) upd_same (ok.more (by omega) hd (by omega)) (ok.some (by omega)) bal
end
/-! law(script): slots 0 script 1 bag 2 divisor 3 count 4 arcs 5 amounts 6 spoil 7 at 8 kept 9 passed 10 told 11 again 12 due 13 wrong 14 tail 15 head -/
abbrev s_law : Stmt := top 19
abbrev n_law : List Str := ["script", "bag", "divisor", "count", "arcs", "amounts", "spoil", "at", "kept", "passed", "told", "again", "due", "wrong", "tail", "head"]
theorem sc_law : FnScope n_law ["script"] (defScope s_law) := ⟨rfl, rfl, rfl, by decide +kernel, rfl, by decide +kernel, by decide +kernel⟩
def spLaw (K : PySem.W.Frag) : Sp := fun vs H Q _ => ∃ (a : Addr) (ns : List Int), vs = [.ref a] ∧ SqL K H a (ns.map V.int) ∧ ns.length ≤ 63 ∧ ∀ H', Q (.bl true) H'
theorem OutOf.uniq {n : Nat} {as : List Cir.Arc} {xs : List Int} {w w' : Str} {i i' : Int} (h : OutOf n as xs w i) (h' : OutOf n as xs w' i') : w = w' ∧ i = i' := by
  rcases h with ⟨e1, e2, hg, hb⟩ | ⟨e1, k, e2, hk, hn, hl⟩ | ⟨e1, hg, v, e2, hv, hn, hl⟩ <;> rcases h' with ⟨f1, f2, gg, gb⟩ | ⟨f1, k', f2, gk, gn, gl⟩ | ⟨f1, gg, v', f2, gv, gn, gl⟩
  · exact ⟨e1.trans f1.symm, e2.trans f2.symm⟩
  · exact absurd (hg k' gk) gn
  · exact absurd (hb v' gv) gn
  · exact absurd (gg k hk) hn
  · have : k = k' := by
      rcases Nat.lt_trichotomy k k' with z | z | z
      · exact absurd (gl k z) hn
      · exact z
      · exact absurd (hl k' z) gn
    subst this
    exact ⟨e1.trans f1.symm, e2.trans f2.symm⟩
  · exact absurd (gg k hk) hn
  · exact absurd (gb v hv) hn
  · exact absurd (hg k' gk) gn
  · have : v = v' := by
      rcases Nat.lt_trichotomy v v' with z | z | z
      · exact absurd (gl v z) hn
      · exact z
      · exact absurd (hl v' z) gn
    subst this
    exact ⟨e1.trans f1.symm, e2.trans f2.symm⟩
theorem out_spoil {n : Nat} {as : List Cir.Arc} {xs : List Int} (hg : ∀ k, k < as.length → Cir.Good n (Cir.arcOf as k)) (hb : ∀ v, Cir.net as xs v = 0) (hl : as.length = xs.length) {k : Nat} (hk : k < as.length) :
    OutOf n as (xs.set k (Cir.part xs k + 1)) "node" (if (Cir.arcOf as k).2 < (Cir.arcOf as k).1 then (Cir.arcOf as k).2 else (Cir.arcOf as k).1) := by
  have g := hg k hk
  have e : ∀ v, Cir.net as (xs.set k (Cir.part xs k + 1)) v = Cir.dlt (Cir.arcOf as k) v := fun v => by
    rw [Cir.net_set as xs k _ v hl (by rw [← hl]; exact hk), hb v]
    have : Cir.part xs k + 1 - Cir.part xs k = 1 := by omega
    rw [this]
    omega
  revert e g
  generalize Cir.arcOf as k = p
  intro g e
  obtain ⟨⟨g1, g2⟩, ⟨g3, g4⟩, g5⟩ := g
  refine .inr (.inr ⟨rfl, hg, (if p.2 < p.1 then p.2 else p.1).toNat, ?_, ?_, ?_, fun u hu => ?_⟩)
  · split <;> omega
  · split <;> omega
  · rw [e]
    unfold Cir.dlt Cir.ind
    by_cases c : p.2 < p.1
    · rw [if_pos c, if_pos (by omega), if_neg (by omega)]
      decide
    · rw [if_neg c, if_neg (by omega), if_pos (by omega)]
      decide
  · rw [e]
    unfold Cir.dlt Cir.ind
    by_cases c : p.2 < p.1
    · rw [if_pos c] at hu
      rw [if_neg (by omega), if_neg (by omega)]
      rfl
    · rw [if_neg c] at hu
      rw [if_neg (by omega), if_neg (by omega)]
      rfl
theorem out_wrong {n : Nat} {as : List Cir.Arc} {xs : List Int} (hg : ∀ k, k < as.length → Cir.Good n (Cir.arcOf as k)) {k : Nat} (hk : k < as.length) {e : Cir.Arc} (he : ¬ Cir.Good n e) : OutOf n (as.set k e) xs "arc" k := by
  refine .inr (.inl ⟨rfl, k, rfl, by rw [List.length_set]; exact hk, ?_, fun j hj => ?_⟩)
  · rw [Cir.arc_get (List.getElem?_set_self hk)]
    exact he
  · have : Cir.arcOf (as.set k e) j = Cir.arcOf as j := by
      unfold Cir.arcOf
      rw [List.getD_eq_getElem?_getD, List.getD_eq_getElem?_getD, List.getElem?_set_ne (by omega)]
    rw [this]
    exact hg j (by omega)
def dOut (w : Str) (i : Int) : PyData := .list [.str w, .int i, .bool true, .bool false]
theorem dp_out {K : PySem.W.Frag} {H : Hp} {p : Addr} {w : Str} {i : Int} (h : H p = some (.lst [.str w, .int i, .bl true, .bl false])) : Dp K H (.ref p) (dOut w i) :=
  .lst (SqL.of h) (.cons (.str _) (.cons (.int _) (.cons (.bl _) (.cons (.bl _) .nil))))
theorem out_shaped {n : Nat} {as : List Cir.Arc} {xs : List Int} {w : Str} {i : Int} (h : OutOf n as xs w i) : SeqAt.shaped (dOut w i) = true := by
  have hw : PyData.strOk w = true := by rcases h with ⟨rfl, _⟩ | ⟨rfl, _⟩ | ⟨rfl, _⟩ <;> decide +kernel
  refine shaped_of ?_ ?_
  · simp [dOut, PyData.canLay0, PyData.canLayAll0, hw]
  · simp [dOut, PyData.depth, PyData.depthAll]
theorem out_eqv (w : Str) (i : Int) : PyData.eqv (dOut w i) (dOut w i) = true := by
  simp [dOut, PyData.eqv, PyData.eqvAll]
theorem NetSt.arcs {K : PySem.W.Frag} {b c pa px : Addr} {H H1 : Hp} {ts : List Addr} {as : List Cir.Arc} {xs : List Int} (h : NetSt b c pa px H H1 ts as xs) : ArcsAt K H1 pa as :=
  ⟨ts, SqL.of h.la, h.ln, fun k t p a b => SqT.of (h.tup k t p a b)⟩
/-- a or b, where nothing hangs on the answers -/
theorem tOr_any {t1 t2 : TT} {σ : L2.St} {H : Hp} {Q : Bool → Hp → Prop} (h1 : ∀ R : Bool → Hp → Prop, (∀ c, R c H) → t1 σ H R) (h2 : ∀ R : Bool → Hp → Prop, (∀ c, R c H) → t2 σ H R) (hT : Q true H) (hF : Q false H) : tOr t1 t2 σ H Q := by
  refine h1 _ fun c => ?_
  cases c with
  | true => exact iteT hT
  | false =>
    refine iteF (h2 _ fun c => ?_)
    cases c with
    | true => exact hT
    | false => exact hF
theorem NetSt.spoil {K : PySem.W.Frag} {b c pa px r : Addr} {H H1 : Hp} {ts : List Addr} {as : List Cir.Arc} {xs : List Int} {e : Cir.Arc} {k : Nat} (h : NetSt b c pa px H H1 ts as xs) (hr : H1 r = some (.tup [.int e.1, .int e.2])) (hk : k < as.length) :
    ArcsAt K (upd H1 pa (.lst ((ts.map V.ref).set k (.ref r)))) pa (as.set k e) := by
  refine ⟨ts.set k r, SqL.of (by rw [upd_same, List.map_set]), by rw [List.length_set, List.length_set]; exact h.ln, fun j t p ht hp => SqT.of ?_⟩
  have htl : k < ts.length := by rw [h.ln]; exact hk
  by_cases c : k = j
  · subst c
    rw [List.getElem?_set_self htl] at ht
    rw [List.getElem?_set_self hk] at hp
    cases Option.some.inj ht
    cases Option.some.inj hp
    rw [upd_ne (ne_of hr h.la (by intro z; cases z))]
    exact hr
  · rw [List.getElem?_set_ne c] at ht hp
    have ht' := h.tup j t p ht hp
    rw [upd_ne (ne_of ht' h.la (by intro z; cases z))]
    exact ht'
section
variable {P : Program} {w : World} {K : PySem.W.Frag} {mg : Str → Option Value} {base : Heap} {CD CA CU : Addr}
theorem ok_law {f : Addr} {fd : FuncData} (F : Fun K "law" "law" s_law f fd) (T : TxtL P K mg CD CA CU) (F_law_bag : FnB P w K mg base CX0 1 "_law_bag" ["script"] (spBag K)) (F_law_take : FnB P w K mg base CX0 1 "_law_take" ["bag", "many"] spTake)
    (F_law_network : FnB P w K mg base CX0 2 "_law_network" ["bag", "count", "divisor", "rounds"] (spNetwork K)) (F_rounded : FnB P w K mg base (L2.CX P w) 4 "rounded" ["count", "arcs", "amounts", "divisor"] (spRounded K CA CU))
    (F_law_right : FnB P w K mg base CX0 2 "_law_right" ["count", "arcs", "amounts", "divisor", "told"] (spLawRight K)) (F_law_outcome : FnB P w K mg base CX0 5 "_law_outcome" ["count", "arcs", "amounts", "divisor"] (spOutcome K)) :
    FnOk P w K mg base CX0 6 f fd ["script"] (spLaw K) := by
  refine F.ok sc_law (fun vs H Q E h => ?_) (fun cdv A outer s H vs Q E hr h => ?_)
  · obtain ⟨a, ns, rfl, _⟩ := h
    rfl
  · obtain ⟨a, ns, rfl, hS, hlen, k⟩ := h
    have hu65 : (A.deeper (envOfC "law" (defScope s_law) s.heap.objs.size f cdv)).units + 65 < cLine := by have := hr.un; omega
    refine ⟨_, (pss_cons (ps_set (i := 1) sc_law.nd rfl (Or.inl rfl) (pe_callF F_law_bag (hr.mono (by decide)) rfl pass0 (pa_cons (pv 0) pa_nil)))
    (pss_cons (ps_set (i := 2) sc_law.nd rfl (Or.inl rfl) (pe_op op_add pe_int (pe_callF F_law_take (hr.mono (by decide)) rfl pass0 (pa_cons (pv 1) (pa_cons pe_int pa_nil)))))
    (Evl.pss_cut (ps_if (pt_cmpR op_eq (pe_callF F_law_take (hr.mono (by decide)) rfl pass0 (pa_cons (pv 1) (pa_cons pe_int pa_nil))) pe_int (nomark _))
      (pss_one (ps_set (i := 2) sc_law.nd rfl (Or.inl rfl) (pe_op op_add (pe_op op_pow pe_int pe_int) (pe_callF F_law_take (hr.mono (by decide)) rfl pass0 (pa_cons (pv 1) (pa_cons pe_int pa_nil))))))
      pss_nil)
    (pss_cons (ps_set (i := 3) sc_law.nd rfl (Or.inl rfl) (pe_op op_add pe_int (pe_callF F_law_take (hr.mono (by decide)) rfl pass0 (pa_cons (pv 1) (pa_cons pe_int pa_nil)))))
    (Evl.pss_cut (ps_if (pt_cmpR op_eq (pe_callF F_law_take (hr.mono (by decide)) rfl pass0 (pa_cons (pv 1) (pa_cons pe_int pa_nil))) pe_int (nomark _))
      (pss_one (ps_set (i := 3) sc_law.nd rfl (Or.inl rfl) (pe_op op_add pe_int (pe_callF F_law_take (hr.mono (by decide)) rfl pass0 (pa_cons (pv 1) (pa_cons pe_int pa_nil))))))
      pss_nil)
    (pss_cons (ps_asg (pe_callF F_law_network (hr.mono (by decide)) rfl pass0 (pa_cons (pv 1) (pa_cons (pv 3) (pa_cons (pv 2) (pa_cons (pe_op op_add pe_int (pe_callF F_law_take (hr.mono (by decide)) rfl pass0 (pa_cons (pv 1) (pa_cons pe_int pa_nil)))) pa_nil))))) (pg_unl rfl (pgs_cons (pg_name (i := 4) sc_law.nd rfl (Or.inl rfl)) (pgs_cons (pg_name (i := 5) sc_law.nd rfl (Or.inl rfl)) pgs_nil))))
    (pss_cons (ps_set (i := 6) sc_law.nd rfl (Or.inl rfl) (pe_callF F_law_take (hr.mono (by decide)) rfl pass0 (pa_cons (pv 1) (pa_cons pe_int pa_nil))))
    (pss_cons (ps_set (i := 7) sc_law.nd rfl (Or.inl rfl) (pe_callF F_law_take (hr.mono (by decide)) rfl pass0 (pa_cons (pv 1) (pa_cons (pe_callB call_len_seq (by rfl) T.m_len (by decide +kernel) (pa_cons (pv 4) pa_nil)) pa_nil))))
    (pss_cons (ps_set (i := 8) sc_law.nd rfl (Or.inl rfl) (pe_callTy call_list_of (by rfl) T.m_list (by decide +kernel) (pa_cons (pv 4) pa_nil)))
    (pss_cons (ps_set (i := 9) sc_law.nd rfl (Or.inl rfl) (pe_callTy call_list_of (by rfl) T.m_list (by decide +kernel) (pa_cons (pv 5) pa_nil)))
    (pss_cons (ps_set (i := 10) sc_law.nd rfl (Or.inl rfl) (pe_callF F_rounded (hr.mono (by decide)) rfl passN (pa_cons (pv 3) (pa_cons (pv 8) (pa_cons (pv 9) (pa_cons (pv 2) pa_nil))))))
    (pss_cons (ps_set (i := 11) sc_law.nd rfl (Or.inl rfl) (pe_callF F_rounded (hr.mono (by decide)) rfl passN (pa_cons (pv 3) (pa_cons (pe_callTy call_list_of (by rfl) T.m_list (by decide +kernel) (pa_cons (pv 4) pa_nil)) (pa_cons (pe_callTy call_list_of (by rfl) T.m_list (by decide +kernel) (pa_cons (pv 5) pa_nil)) (pa_cons (pv 2) pa_nil))))))
    (pss_cons (ps_if (PW.pt (pw_or (pt_not (pt_val (pe_callF F_law_right (hr.mono (by decide)) rfl pass0 (pa_cons (pv 3) (pa_cons (pv 4) (pa_cons (pv 5) (pa_cons (pv 2) (pa_cons (pv 10) pa_nil)))))))) (pw_or1 (pt_cmpR (op_neD hr.units) (pv 11) (pv 10) (nomark _)))))
      (pss_one (ps_ret pe_bl))
      pss_nil)
    (pss_cons (ps_if (PW.pt (pw_or (pt_cmpR (op_neD hr.units) (pv 8) (pv 4) (nomark _)) (pw_or1 (pt_cmpR (op_neD hr.units) (pv 9) (pv 5) (nomark _)))))
      (pss_one (ps_ret pe_bl))
      pss_nil)
    (pss_cons (ps_set (i := 12) sc_law.nd rfl (Or.inl rfl) (pe_lst (pa_cons pe_str (pa_cons pe_int (pa_cons pe_bl (pa_cons pe_bl pa_nil))))))
    (Evl.pss_cut (ps_if (PW.pt (pw_or (pt_cmpR op_eq (pv 6) pe_int (nomark _)) (pw_or1 (pt_cmpR op_eq (pv 6) pe_int (nomark _)))))
      (pss_cons (ps_asg (pe_op op_add (pe_ix ix_list (pv 5) (pv 7) (fun _ _ => rfl)) pe_int) (pg_sub (pv 5) (pv 7) set_list))
      (pss_one (ps_set (i := 12) sc_law.nd rfl (Or.inl rfl) (pe_lst (pa_cons pe_str (pa_cons (pe_callB (cr_minT rfl hu65) (by rfl) T.m_min (by decide +kernel) (pa_cons (pe_ix ix_list (pv 4) (pv 7) (fun _ _ => rfl)) pa_nil)) (pa_cons pe_bl (pa_cons pe_bl pa_nil))))))))
      pss_nil)
    (Evl.pss_cut (ps_if (PW.pt (pw_or (pt_cmpR op_eq (pv 6) pe_int (nomark _)) (pw_or1 (pt_cmpR op_eq (pv 6) pe_int (nomark _)))))
      (pss_cons (ps_set (i := 13) sc_law.nd rfl (Or.inl rfl) (pe_callF F_law_take (hr.mono (by decide)) rfl pass0 (pa_cons (pv 1) (pa_cons (pe_callB call_len_seq (by rfl) T.m_len (by decide +kernel) (pa_cons (pv 4) pa_nil)) pa_nil))))
      (pss_cons (ps_asg (pe_ix ix_list (pv 4) (pv 13) (fun _ _ => rfl)) (pg_tup rfl (pgs_cons (pg_name (i := 14) sc_law.nd rfl (Or.inl rfl)) (pgs_cons (pg_name (i := 15) sc_law.nd rfl (Or.inl rfl)) pgs_nil))))
      (pss_cons (ps_asg (pe_ix ix_list (pe_lst (pa_cons (pe_tup (pa_cons (pv 14) (pa_cons (pv 14) pa_nil))) (pa_cons (pe_tup (pa_cons (pv 3) (pa_cons (pv 15) pa_nil))) (pa_cons (pe_tup (pa_cons (pv 14) (pa_cons (pe_un un_neg pe_int) pa_nil))) (pa_cons (pe_tup (pa_cons (pv 14) (pa_cons (pv 3) pa_nil))) (pa_cons (pe_tup (pa_cons (pe_un un_neg pe_int) (pa_cons (pv 15) pa_nil))) pa_nil)))))) (pe_callF F_law_take (hr.mono (by decide)) rfl pass0 (pa_cons (pv 1) (pa_cons pe_int pa_nil))) (fun _ _ => rfl)) (pg_sub (pv 4) (pv 13) set_list))
      (pss_one (ps_set (i := 12) sc_law.nd rfl (Or.inl rfl) (pe_lst (pa_cons pe_str (pa_cons (pv 13) (pa_cons pe_bl (pa_cons pe_bl pa_nil))))))))))
      pss_nil)
    (pss_one (ps_ret (pe_cmpR (op_eqD hr.units) (pe_callF F_law_outcome (hr.mono (by decide)) rfl pass0 (pa_cons (pv 3) (pa_cons (pv 4) (pa_cons (pv 5) (pa_cons (pv 2) pa_nil))))) (pv 12) (nomark _))))))))))))))))))))), ?_⟩
    refine ⟨_, rfl, a, ns, rfl, hS, by omega, fun b c H1 hb hc e1 B1 => ?_⟩
    refine ⟨_, rfl, b, c, 60, rfl, B1, by decide, by decide, fun t H2 t0 t1 e2 B2 => ⟨_, _, rfl, rfl, ?_⟩⟩
    clear B1 e1 hb hc
    refine ⟨fun σ' H' => ∃ d : Int, 0 < d ∧ d < 2 ^ 101 ∧ BagC H' b c ∧ σ' = [some (.ref a), some (.ref b), some (.int d), none, none, none, none, none, none, none, none, none, none, none, none, none], ?_, ?_⟩
    · refine ⟨_, rfl, b, c, 8, rfl, B2, by decide, by decide, fun z H3 z0 z1 e3 B3 => ⟨rfl, _, rfl, eq_if (fun _ => ?_) fun _ => ⟨1 + t, by omega, by
        have : (61 : Int) < 2 ^ 101 := by decide
        omega, B3, rfl⟩⟩⟩
      refine ⟨_, _, rfl, rfl, ⟨by decide, by decide, by decide⟩, _, rfl, b, c, 1000000, rfl, B3, by decide, by decide, fun z2 H4 z3 z4 e4 B4 => ⟨_, _, rfl, rfl, ?_⟩⟩
      have e30 : (10 : Int) ^ (30 : Int).toNat = 1000000000000000000000000000000 := by decide
      have e101 : (2 : Int) ^ 101 = 2535301200456458802993406410752 := by decide
      exact ⟨10 ^ (30 : Int).toNat + z2, by rw [e30]; omega, by rw [e30, e101]; omega, B4, rfl⟩
    clear B2 e2 t0 t1 t
    rintro σ' H3 ⟨d, hd, hdl, B3, rfl⟩
    refine ⟨_, rfl, b, c, 7, rfl, B3, by decide, by decide, fun t H4 t0 t1 e4 B4 => ⟨_, _, rfl, rfl, ?_⟩⟩
    obtain ⟨tn, rfl⟩ : ∃ tn : Nat, t = (tn : Int) := ⟨t.toNat, by omega⟩
    refine ⟨fun σ' H' => ∃ n : Nat, 2 ≤ n ∧ n ≤ 60 ∧ BagC H' b c ∧ σ' = [some (.ref a), some (.ref b), some (.int d), some (.int (n : Int)), none, none, none, none, none, none, none, none, none, none, none, none], ?_, ?_⟩
    · refine ⟨_, rfl, b, c, 12, rfl, B4, by decide, by decide, fun z H3 z0 z1 e3 B3 => ⟨rfl, _, rfl, eq_if (fun _ => ?_) fun _ => ⟨2 + tn, by omega, by omega, B3, rfl⟩⟩⟩
      refine ⟨_, rfl, b, c, 59, rfl, B3, by decide, by decide, fun z2 H4 z3 z4 e4 B4 => ⟨_, _, rfl, rfl, ?_⟩⟩
      obtain ⟨zn, rfl⟩ : ∃ zn : Nat, z2 = (zn : Int) := ⟨z2.toNat, by omega⟩
      exact ⟨2 + zn, by omega, by omega, B4, rfl⟩
    clear B4 e4 B3 t0 t1 tn
    rintro σ' H5 ⟨n, hn2, hn, B5, rfl⟩
    refine ⟨_, rfl, _, rfl, _, rfl, _, rfl, b, c, 10, rfl, B5, by decide, by decide, fun t H6 t0 t1 e6 B6 => ?_⟩
    obtain ⟨tn, rfl⟩ : ∃ tn : Nat, t = (tn : Int) := ⟨t.toNat, by omega⟩
    refine ⟨_, _, rfl, rfl, b, c, n, d, 1 + tn, rfl, B6, hn2, hn, hd, hdl, by omega, by omega, fun p pa px ts as xs H7 N7 hp ok pos bal => ?_⟩
    refine ⟨p, _, rfl, SqL.of hp, rfl, _, _, rfl, _, _, rfl, rfl, ?_⟩
    clear B5 e6
    have hts : (ts.map V.ref).length = as.length := by rw [List.length_map, N7.ln]
    have few := ok.few
    have hlt : as.length < 2 ^ 250 := Nat.lt_of_le_of_lt few (by decide)
    refine ⟨_, rfl, b, c, 8, rfl, N7.bag, by decide, by decide, fun sp H8 s0 s1 e8 B8 => ?_⟩
    have N8 := N7.take e8 B8
    refine ⟨_, rfl, _, rfl, _, _, rfl, .inl (SqL.of N8.la), b, c, _, rfl, N8.bag, by rw [hts]; omega, by rw [hts]; exact log_ok hlt, fun at_ H9 a0 a1 e9 B9 => ?_⟩
    have N9 := N8.take e9 B9
    rw [hts] at a1
    obtain ⟨at_, rfl⟩ : ∃ q : Nat, at_ = (q : Int) := ⟨at_.toNat, by omega⟩
    clear N7 N8 B6 B9 e9 e8 B8
    -- kept, passed
    refine ⟨_, rfl, _, _, rfl, .inl (SqL.of N9.la), fun pk hpk => ⟨_, rfl, _, _, rfl, .inl (SqL.of (by rw [upd_ne (ne_of_none N9.lx hpk)]; exact N9.lx)), fun pp hpp => ?_⟩⟩
    have N10 := (N9.new (o := .lst (ts.map V.ref)) hpk).new (o := .lst (xs.map V.int)) hpp
    have hkp : pk ≠ pp := ne_of_none upd_same hpp
    have hK10 : (upd (upd H9 pk (.lst (ts.map V.ref))) pp (.lst (xs.map V.int))) pk = some (.lst (ts.map V.ref)) := by rw [upd_ne hkp]; exact upd_same
    have hP10 : (upd (upd H9 pk (.lst (ts.map V.ref))) pp (.lst (xs.map V.int))) pp = some (.lst (xs.map V.int)) := upd_same
    generalize upd (upd H9 pk (.lst (ts.map V.ref))) pp (.lst (xs.map V.int)) = H10 at N10 hK10 hP10 ⊢
    clear N9 hpk hpp
    -- told
    have good := ok.good
    have hlx := ok.len
    have R := Cir.rounded_ok hd good hlx bal
    have hdlog : d.natAbs.log2 < 9000 := log_ok (by
      have : (2 : Int) ^ 101 < 2 ^ 250 := by decide
      omega)
    refine ⟨_, rfl, _, rfl, _, rfl, _, rfl, n, pk, pp, as, xs, d, rfl, ⟨ts, SqL.of hK10, N10.ln, fun k t p a b => SqT.of (N10.tup k t p a b)⟩, SqL.of hP10, hlx, by omega, by omega, hd, hdlog, fun _ _ to H11 nto e11 hto => ?_, fun k hk hb => absurd (good k hk) hb, fun _ v hv hb => absurd (bal v) hb⟩
    have N11 := N10.take (e11.sub (by simp)) (N10.bag.fr e11 (by simp) (by simp))
    have hK11 := e11 _ _ hK10 (by simp)
    have hP11 := e11 _ _ hP10 (by simp)
    clear N10 hK10 hP10
    -- again
    refine ⟨_, rfl, _, rfl, _, _, rfl, .inl (SqL.of N11.la), fun q1 hq1 => ⟨_, rfl, _, _, rfl, .inl (SqL.of (by rw [upd_ne (ne_of_none N11.lx hq1)]; exact N11.lx)), fun q2 hq2 => ?_⟩⟩
    have q12 : q1 ≠ q2 := ne_of_none upd_same hq2
    have N12 := (N11.new (o := .lst (ts.map V.ref)) hq1).new (o := .lst (xs.map V.int)) hq2
    have f12 := ((Fr.refl [] H11).new (o := .lst (ts.map V.ref)) hq1).new (o := .lst (xs.map V.int)) hq2
    have hQ1 : (upd (upd H11 q1 (.lst (ts.map V.ref))) q2 (.lst (xs.map V.int))) q1 = some (.lst (ts.map V.ref)) := by rw [upd_ne q12]; exact upd_same
    have hQ2 : (upd (upd H11 q1 (.lst (ts.map V.ref))) q2 (.lst (xs.map V.int))) q2 = some (.lst (xs.map V.int)) := upd_same
    generalize upd (upd H11 q1 (.lst (ts.map V.ref))) q2 (.lst (xs.map V.int)) = H12 at N12 hQ1 hQ2 f12 ⊢
    refine ⟨_, rfl, n, q1, q2, as, xs, d, rfl, ⟨ts, SqL.of hQ1, N12.ln, fun k t p a b => SqT.of (N12.tup k t p a b)⟩, SqL.of hQ2, hlx, by omega, by omega, hd, hdlog, fun _ _ ag H13 nag e13 hag => ?_, fun k hk hb => absurd (good k hk) hb, fun _ v hv hb => absurd (bal v) hb⟩
    have N13 := N12.take (e13.sub (by simp)) (N12.bag.fr e13 (by simp) (by simp))
    have hK13 := e13 _ _ (f12 _ _ hK11 (by simp)) (by simp)
    have hP13 := e13 _ _ (f12 _ _ hP11 (by simp)) (by simp)
    have hto13 := e13 _ _ (f12 _ _ hto (by simp)) (by simp)
    clear N11 N12 hq1 hq2 hQ1 hQ2 f12 hK11 hP11 hto e13
    generalize Cir.roundedF n as xs d = ys at R hag hto13
    have yb : ∀ k, k < as.length → (Cir.part ys k).natAbs < 2 ^ 200 := fun k hk => by
      have b1 := R.2.1 k hk
      have b2 := ok.size k (by rw [← hlx]; exact hk)
      have c1 : Cir.part ys k * d < 501 * d := by omega
      have c2 : (-501) * d < Cir.part ys k * d := by omega
      have d1 := Int.lt_of_mul_lt_mul_right c1 (by omega)
      have d2 := Int.lt_of_mul_lt_mul_right c2 (by omega)
      have : 501 < 2 ^ 200 := by decide
      omega
    have db : d.natAbs < 2 ^ 200 := by
      have : (2 : Int) ^ 101 < 2 ^ 200 := by decide
      omega
    refine ⟨_, rfl, _, rfl, _, rfl, _, rfl, _, rfl, n, pa, px, to, as, xs, ys, d, rfl, N13.arcs, SqL.of N13.lx, hto13, hlx, R.1, by omega, by omega, good, db, yb, R.2.1, R.2.2, fun H14 e14 => ⟨_, rfl, ?_⟩⟩
    have N14 := N13.take (e14.sub (by simp)) (N13.bag.fr e14 (by simp) (by simp))
    have hK14 := e14 _ _ hK13 (by simp)
    have hP14 := e14 _ _ hP13 (by simp)
    have hto14 := e14 _ _ hto13 (by simp)
    have hag14 := e14 _ _ hag (by simp)
    clear N13 hK13 hP13 hto13 hag e14
    refine ⟨_, rfl, _, rfl, dInts ys, dInts ys, dp_ints (SqL.of hag14), dp_ints (SqL.of hto14), ints_shaped _, ints_shaped _, ?_⟩
    rw [ints_eqv]
    refine ⟨_, rfl, ?_⟩
    refine iteN rfl ?_
    have hDK : Dp K H14 (.ref pk) (dPrs as) := .lst (SqL.of hK14) (dpa_prs ts as N14.ln fun k t p a b => SqT.of (N14.tup k t p a b))
    refine ⟨_, rfl, _, rfl, dPrs as, dPrs as, hDK, dp_arcs N14, prs_shaped _, prs_shaped _, ?_⟩
    rw [prs_eqv]
    refine ⟨_, rfl, ?_⟩
    refine ⟨_, rfl, _, rfl, dInts xs, dInts xs, dp_ints (SqL.of hP14), dp_ints (SqL.of N14.lx), ints_shaped _, ints_shaped _, ?_⟩
    rw [ints_eqv]
    refine ⟨_, rfl, iteN rfl ?_⟩
    refine ⟨by show 4 ≤ sizeLine; decide, fun p0 hp0 => ?_⟩
    have N15 := N14.new (o := .lst [.str "none", .int 0, .bl true, .bl false]) hp0
    have hd15 : (upd H14 p0 (.lst [.str "none", .int 0, .bl true, .bl false])) p0 = some (.lst [.str "none", .int 0, .bl true, .bl false]) := upd_same
    generalize upd H14 p0 (.lst [.str "none", .int 0, .bl true, .bl false]) = H15 at N15 hd15 ⊢
    clear N14 hK14 hP14 hto14 hag14 hDK hp0 hp yb db R
    have ht : ∀ k, k < as.length → ∃ t, ts[k]? = some t := fun k hk => ⟨ts[k]'(by rw [N15.ln]; exact hk), List.getElem?_eq_getElem _⟩
    have hat : at_ < as.length := by omega
    refine ⟨fun σ' H' => ∃ (pd : Addr) (xs' : List Int) (word : Str) (i : Int), NetSt b c pa px H6 H' ts as xs' ∧ H' pd = some (.lst [.str word, .int i, .bl true, .bl false]) ∧ OutOf n as xs' word i ∧ as.length = xs'.length ∧
      σ' = [some (.ref a), some (.ref b), some (.int d), some (.int (n : Int)), some (.ref pa), some (.ref px), some (.int sp), some (.int (at_ : Int)), some (.ref pk), some (.ref pp), some (.ref to), some (.ref ag), some (.ref pd), none, none, none], ?_, ?_⟩
    · refine tOr_any (fun R h => ⟨_, rfl, rfl, _, rfl, h _⟩) (fun R h => ⟨_, rfl, rfl, _, rfl, h _⟩) (iteT ?_) (iteF ?_)
      · obtain ⟨t, htt⟩ := ht at_ hat
        refine ⟨_, rfl, _, rfl, _, _, _, _, rfl, rfl, SqL.of N15.lx, at_part (by omega), _, _, rfl, rfl, _, rfl, _, rfl, _, _, _, _, rfl, rfl, N15.lx, ix_nat (by rw [List.length_map]; omega), ?_⟩
        have N16 := N15.amt at_ (Cir.part xs at_ + 1)
        refine ⟨_, rfl, _, rfl, _, _, _, _, rfl, rfl, SqL.of N16.la, at_map htt, t, _, _, rfl, SqT.of (N16.tup at_ t _ htt (Cir.get_arc hat)), by show 4 ≤ sizeLine; decide, fun pd hpd => ?_⟩
        exact ⟨pd, _, _, _, N16.new hpd, upd_same, out_spoil good bal hlx hat, by rw [List.length_set]; exact hlx, rfl⟩
      · exact ⟨p0, xs, _, _, N15, hd15, .inl ⟨rfl, rfl, good, fun v _ => bal v⟩, hlx, rfl⟩
    clear N15 hd15 hlx bal
    rintro σ' H16 ⟨pd, xs', word, i, N16, hd16, ho, hlx, rfl⟩
    refine ⟨fun σ' H' => ∃ (pd : Addr) (as' : List Cir.Arc) (xs' : List Int) (word : Str) (i : Int) (o13 o14 o15 : Option V), ArcsAt K H' pa as' ∧ SqL K H' px (xs'.map V.int) ∧ H' pd = some (.lst [.str word, .int i, .bl true, .bl false]) ∧ OutOf n as' xs' word i ∧ as'.length = as.length ∧ as'.length = xs'.length ∧
      σ' = [some (.ref a), some (.ref b), some (.int d), some (.int (n : Int)), some (.ref pa), some (.ref px), some (.int sp), some (.int (at_ : Int)), some (.ref pk), some (.ref pp), some (.ref to), some (.ref ag), some (.ref pd), o13, o14, o15], ?_, ?_⟩
    · refine tOr_any (fun R h => ⟨_, rfl, rfl, _, rfl, h _⟩) (fun R h => ⟨_, rfl, rfl, _, rfl, h _⟩) (iteT ?_) (iteF ?_)
      · refine ⟨_, rfl, _, rfl, _, _, rfl, .inl (SqL.of N16.la), b, c, _, rfl, N16.bag, by rw [hts]; omega, by rw [hts]; exact log_ok hlt, fun wr H17 w0 w1 e17 B17 => ?_⟩
        have N17 := N16.take e17 B17
        rw [hts] at w1
        obtain ⟨wr, rfl⟩ : ∃ q : Nat, wr = (q : Int) := ⟨wr.toNat, by omega⟩
        have hwr : wr < as.length := by omega
        obtain ⟨t, htt⟩ := ht wr hwr
        refine ⟨_, rfl, _, rfl, _, _, _, _, rfl, rfl, SqL.of N17.la, at_map htt, _, _, rfl, SqT.of (N17.tup wr t _ htt (Cir.get_arc hwr)), rfl, _, _, rfl, _, _, rfl, rfl, ?_⟩
        generalize Cir.arcOf as wr = tp at *
        obtain ⟨tl, he⟩ := tp
        refine ⟨_, rfl, _, rfl, by show 2 ≤ sizeLine; decide, fun r1 hr1 => ?_⟩
        refine ⟨_, rfl, _, rfl, by show 2 ≤ sizeLine; decide, fun r2 hr2 => ?_⟩
        refine ⟨_, rfl, _, rfl, by show 2 ≤ sizeLine; decide, fun r3 hr3 => ?_⟩
        refine ⟨_, rfl, _, rfl, by show 2 ≤ sizeLine; decide, fun r4 hr4 => ?_⟩
        refine ⟨_, rfl, _, rfl, by show 2 ≤ sizeLine; decide, fun r5 hr5 => ?_⟩
        refine ⟨by show 5 ≤ sizeLine; decide, fun l hl => ?_⟩
        have f5 := (Fr.refl [] _).new (o := .lst [.ref r1, .ref r2, .ref r3, .ref r4, .ref r5]) hl
        have g5 := f5 _ _ (upd_same (a := r5)) (by simp)
        have f4 := ((Fr.refl [] _).new hr5).trans f5
        have g4 := f4 _ _ (upd_same (a := r4)) (by simp)
        have f3 := ((Fr.refl [] _).new hr4).trans f4
        have g3 := f3 _ _ (upd_same (a := r3)) (by simp)
        have f2 := ((Fr.refl [] _).new hr3).trans f3
        have g2 := f2 _ _ (upd_same (a := r2)) (by simp)
        have f1 := ((Fr.refl [] _).new hr2).trans f2
        have g1 := f1 _ _ (upd_same (a := r1)) (by simp)
        have N18 := (((((N17.new hr1).new hr2).new hr3).new hr4).new hr5).new (o := .lst [.ref r1, .ref r2, .ref r3, .ref r4, .ref r5]) hl
        generalize hH18 : upd _ l (HO.lst [V.ref r1, .ref r2, .ref r3, .ref r4, .ref r5]) = H18 at g1 g2 g3 g4 g5 N18 ⊢
        have hl18 : H18 l = some (.lst [.ref r1, .ref r2, .ref r3, .ref r4, .ref r5]) := by rw [← hH18]; exact upd_same
        clear f1 f2 f3 f4 f5 hH18 hr1 hr2 hr3 hr4 hr5 hl
        refine ⟨_, rfl, b, c, 5, rfl, N18.bag, by decide, by decide, fun z H19 z0 z1 e19 B19 => ?_⟩
        obtain ⟨bi, bv, bs, hb18⟩ := N18.bag.b
        have N19 := N18.take e19 B19
        have tk : ∀ {q : Addr} {l : List V}, H18 q = some (.tup l) → H19 q = some (.tup l) := fun {q l} h => e19 _ _ h (by simpa using ne_of h hb18 (by intro z; cases z))
        have hl19 := e19 _ _ hl18 (by simpa using ne_of hl18 hb18 (by intro z; cases z))
        have g1 := tk g1
        have g2 := tk g2
        have g3 := tk g3
        have g4 := tk g4
        have g5 := tk g5
        have pick : ∃ (r : Addr) (e : Cir.Arc), atI [V.ref r1, V.ref r2, V.ref r3, V.ref r4, V.ref r5] z = some (.ref r) ∧ H19 r = some (.tup [.int e.1, .int e.2]) ∧ ¬ Cir.Good n e := by
          have : z = 0 ∨ z = 1 ∨ z = 2 ∨ z = 3 ∨ z = 4 := by omega
          rcases this with rfl | rfl | rfl | rfl | rfl
          · exact ⟨r1, (tl, tl), rfl, g1, fun g => g.2.2 rfl⟩
          · exact ⟨r2, ((n : Int), he), rfl, g2, fun g => by have h : (n : Int) < n := g.1.2; omega⟩
          · exact ⟨r3, (tl, -1), rfl, g3, fun g => by have h : (0 : Int) ≤ -1 := g.2.1.1; omega⟩
          · exact ⟨r4, (tl, (n : Int)), rfl, g4, fun g => by have h : (n : Int) < n := g.2.1.2; omega⟩
          · exact ⟨r5, (-1, he), rfl, g5, fun g => by have h : (0 : Int) ≤ -1 := g.1.1; omega⟩
        obtain ⟨rr, e, ha, hre, bad⟩ := pick
        refine ⟨_, _, _, _, rfl, rfl, SqL.of hl19, ha, _, rfl, _, rfl, _, _, _, _, rfl, rfl, N19.la, ix_nat (by rw [hts]; exact hwr), ?_⟩
        have A19 := N19.spoil (K := K) hre hwr
        have X19 : (upd H19 pa (.lst ((ts.map V.ref).set wr (.ref rr)))) px = some (.lst (xs'.map V.int)) := by rw [upd_ne N19.ne.symm]; exact N19.lx
        refine ⟨_, rfl, by show 4 ≤ sizeLine; decide, fun pd hpd => ?_⟩
        exact ⟨pd, as.set wr e, xs', _, _, _, _, _, A19.fr ((Fr.refl [] _).new hpd), SqL.of (by rw [upd_ne (ne_of_none X19 hpd)]; exact X19), upd_same, out_wrong good hwr bad, by rw [List.length_set], by rw [List.length_set]; exact hlx, rfl⟩
      · exact ⟨pd, as, xs', word, i, _, _, _, N16.arcs, SqL.of N16.lx, hd16, ho, rfl, hlx, rfl⟩
    clear N16 hd16 ho hlx
    rintro σ' H17 ⟨pd, as', xs', word, i, o13, o14, o15, hA, hX, hd17, ho, hl1, hl2, rfl⟩
    refine ⟨_, rfl, _, rfl, _, rfl, _, rfl, n, pa, px, as', xs', d, rfl, hA, hX, hl2, by omega, by omega, hd, hdlog, fun word' i' ho' p H18 e18 hp => ?_⟩
    obtain ⟨rfl, rfl⟩ := ho.uniq ho'
    refine ⟨_, rfl, dOut word i, dOut word i, dp_out hp, dp_out (e18 _ _ hd17 (by simp)), out_shaped ho, out_shaped ho, ?_⟩
    rw [out_eqv]
    exact k _
end

/-! ### what the top has written, and the law -/
theorem all_mk {P : Program} {w : World} {K : PySem.W.Frag} {h : Heap} {mg : Str → Option Value} {fa CA CU CD f1 f2 f3 f4 f5 f6 f7 f8 f9 f10 f11 f12 f13 f14 : Addr} (X : K.In h) (G : h.Ns mainGlobals mg) (hfa : mg "law" = some (.ref fa))
    {od1 an1 : Option Addr} {sl1 : Array (Option Value)} {oc1 kV1 dc1 pm1 cd1 ct1 : Value}
    {od2 an2 : Option Addr} {sl2 : Array (Option Value)} {oc2 kV2 dc2 pm2 cd2 ct2 : Value}
    {od3 an3 : Option Addr} {sl3 : Array (Option Value)} {oc3 kV3 dc3 pm3 cd3 ct3 : Value}
    {od4 an4 : Option Addr} {sl4 : Array (Option Value)} {oc4 kV4 dc4 pm4 cd4 ct4 : Value}
    {od5 an5 : Option Addr} {sl5 : Array (Option Value)} {oc5 kV5 dc5 pm5 cd5 ct5 : Value}
    {od6 an6 : Option Addr} {sl6 : Array (Option Value)} {oc6 kV6 dc6 pm6 cd6 ct6 : Value}
    {od7 an7 : Option Addr} {sl7 : Array (Option Value)} {oc7 kV7 dc7 pm7 cd7 ct7 : Value}
    {od8 an8 : Option Addr} {sl8 : Array (Option Value)} {oc8 kV8 dc8 pm8 cd8 ct8 : Value}
    {od9 an9 : Option Addr} {sl9 : Array (Option Value)} {oc9 kV9 dc9 pm9 cd9 ct9 : Value}
    {od10 an10 : Option Addr} {sl10 : Array (Option Value)} {oc10 kV10 dc10 pm10 cd10 ct10 : Value}
    {od11 an11 : Option Addr} {sl11 : Array (Option Value)} {oc11 kV11 dc11 pm11 cd11 ct11 : Value}
    {od12 an12 : Option Addr} {sl12 : Array (Option Value)} {oc12 kV12 dc12 pm12 cd12 ct12 : Value}
    {od13 an13 : Option Addr} {sl13 : Array (Option Value)} {oc13 kV13 dc13 pm13 cd13 ct13 : Value}
    {od14 an14 : Option Addr} {sl14 : Array (Option Value)} {oc14 kV14 dc14 pm14 cd14 ct14 : Value}
    (gA : PySem.W.nsIn K mainGlobals "BadArc" = some (some (.ref CA)))
    (TA : ∃ fI, XS.ErrTxt P K mg "BadArc" "BadArc.__init__" s_iA ["arc"] CA fI)
    (gU : PySem.W.nsIn K mainGlobals "Unbalanced" = some (some (.ref CU)))
    (TU : ∃ fI, XS.ErrTxt P K mg "Unbalanced" "Unbalanced.__init__" s_iU ["node"] CU fI)
    (a1 : PySem.W.nsIn K mainGlobals "_check_ends" = some (some (.ref f1)))
    (l1 : K.lookup f1 = some ⟨oc1, od1, .func (PySem.W.fnOf "_check_ends" "_check_ends" (defArgs s_check_ends) (defBody s_check_ends) (defScope s_check_ends) .none kV1 dc1 pm1 an1 cd1 ct1), sl1⟩)
    (c1 : PySem.W.codeIn K cd1 "_check_ends" = true) (k1 : PySem.W.keepIn K (.ref f1) = true)
    (a2 : PySem.W.nsIn K mainGlobals "_spare" = some (some (.ref f2)))
    (l2 : K.lookup f2 = some ⟨oc2, od2, .func (PySem.W.fnOf "_spare" "_spare" (defArgs s_spare) (defBody s_spare) (defScope s_spare) .none kV2 dc2 pm2 an2 cd2 ct2), sl2⟩)
    (c2 : PySem.W.codeIn K cd2 "_spare" = true) (k2 : PySem.W.keepIn K (.ref f2) = true)
    (a3 : PySem.W.nsIn K mainGlobals "_check_balance" = some (some (.ref f3)))
    (l3 : K.lookup f3 = some ⟨oc3, od3, .func (PySem.W.fnOf "_check_balance" "_check_balance" (defArgs s_check_balance) (defBody s_check_balance) (defScope s_check_balance) .none kV3 dc3 pm3 an3 cd3 ct3), sl3⟩)
    (c3 : PySem.W.codeIn K cd3 "_check_balance" = true) (k3 : PySem.W.keepIn K (.ref f3) = true)
    (a4 : PySem.W.nsIn K mainGlobals "_near" = some (some (.ref f4)))
    (l4 : K.lookup f4 = some ⟨oc4, od4, .func (PySem.W.fnOf "_near" "_near" (defArgs s_near) (defBody s_near) (defScope s_near) .none kV4 dc4 pm4 an4 cd4 ct4), sl4⟩)
    (c4 : PySem.W.codeIn K cd4 "_near" = true) (k4 : PySem.W.keepIn K (.ref f4) = true)
    (a5 : PySem.W.nsIn K mainGlobals "_other_arc" = some (some (.ref f5)))
    (l5 : K.lookup f5 = some ⟨oc5, od5, .func (PySem.W.fnOf "_other_arc" "_other_arc" (defArgs s_other_arc) (defBody s_other_arc) (defScope s_other_arc) .none kV5 dc5 pm5 an5 cd5 ct5), sl5⟩)
    (c5 : PySem.W.codeIn K cd5 "_other_arc" = true) (k5 : PySem.W.keepIn K (.ref f5) = true)
    (a6 : PySem.W.nsIn K mainGlobals "_fraction_round" = some (some (.ref f6)))
    (l6 : K.lookup f6 = some ⟨oc6, od6, .func (PySem.W.fnOf "_fraction_round" "_fraction_round" (defArgs s_fraction_round) (defBody s_fraction_round) (defScope s_fraction_round) .none kV6 dc6 pm6 an6 cd6 ct6), sl6⟩)
    (c6 : PySem.W.codeIn K cd6 "_fraction_round" = true) (k6 : PySem.W.keepIn K (.ref f6) = true)
    (a7 : PySem.W.nsIn K mainGlobals "rounded" = some (some (.ref f7)))
    (l7 : K.lookup f7 = some ⟨oc7, od7, .func (PySem.W.fnOf "rounded" "rounded" (defArgs s_rounded) (defBody s_rounded) (defScope s_rounded) .none kV7 dc7 pm7 an7 cd7 ct7), sl7⟩)
    (c7 : PySem.W.codeIn K cd7 "rounded" = true) (k7 : PySem.W.keepIn K (.ref f7) = true)
    (a8 : PySem.W.nsIn K mainGlobals "_law_bag" = some (some (.ref f8)))
    (l8 : K.lookup f8 = some ⟨oc8, od8, .func (PySem.W.fnOf "_law_bag" "_law_bag" (defArgs s_law_bag) (defBody s_law_bag) (defScope s_law_bag) .none kV8 dc8 pm8 an8 cd8 ct8), sl8⟩)
    (c8 : PySem.W.codeIn K cd8 "_law_bag" = true) (k8 : PySem.W.keepIn K (.ref f8) = true)
    (a9 : PySem.W.nsIn K mainGlobals "_law_take" = some (some (.ref f9)))
    (l9 : K.lookup f9 = some ⟨oc9, od9, .func (PySem.W.fnOf "_law_take" "_law_take" (defArgs s_law_take) (defBody s_law_take) (defScope s_law_take) .none kV9 dc9 pm9 an9 cd9 ct9), sl9⟩)
    (c9 : PySem.W.codeIn K cd9 "_law_take" = true) (k9 : PySem.W.keepIn K (.ref f9) = true)
    (a10 : PySem.W.nsIn K mainGlobals "_law_network" = some (some (.ref f10)))
    (l10 : K.lookup f10 = some ⟨oc10, od10, .func (PySem.W.fnOf "_law_network" "_law_network" (defArgs s_law_network) (defBody s_law_network) (defScope s_law_network) .none kV10 dc10 pm10 an10 cd10 ct10), sl10⟩)
    (c10 : PySem.W.codeIn K cd10 "_law_network" = true) (k10 : PySem.W.keepIn K (.ref f10) = true)
    (a11 : PySem.W.nsIn K mainGlobals "_law_spare" = some (some (.ref f11)))
    (l11 : K.lookup f11 = some ⟨oc11, od11, .func (PySem.W.fnOf "_law_spare" "_law_spare" (defArgs s_law_spare) (defBody s_law_spare) (defScope s_law_spare) .none kV11 dc11 pm11 an11 cd11 ct11), sl11⟩)
    (c11 : PySem.W.codeIn K cd11 "_law_spare" = true) (k11 : PySem.W.keepIn K (.ref f11) = true)
    (a12 : PySem.W.nsIn K mainGlobals "_law_right" = some (some (.ref f12)))
    (l12 : K.lookup f12 = some ⟨oc12, od12, .func (PySem.W.fnOf "_law_right" "_law_right" (defArgs s_law_right) (defBody s_law_right) (defScope s_law_right) .none kV12 dc12 pm12 an12 cd12 ct12), sl12⟩)
    (c12 : PySem.W.codeIn K cd12 "_law_right" = true) (k12 : PySem.W.keepIn K (.ref f12) = true)
    (a13 : PySem.W.nsIn K mainGlobals "_law_outcome" = some (some (.ref f13)))
    (l13 : K.lookup f13 = some ⟨oc13, od13, .func (PySem.W.fnOf "_law_outcome" "_law_outcome" (defArgs s_law_outcome) (defBody s_law_outcome) (defScope s_law_outcome) .none kV13 dc13 pm13 an13 cd13 ct13), sl13⟩)
    (c13 : PySem.W.codeIn K cd13 "_law_outcome" = true) (k13 : PySem.W.keepIn K (.ref f13) = true)
    (a14 : PySem.W.nsIn K mainGlobals "law" = some (some (.ref f14)))
    (l14 : K.lookup f14 = some ⟨oc14, od14, .func (PySem.W.fnOf "law" "law" (defArgs s_law) (defBody s_law) (defScope s_law) .none kV14 dc14 pm14 an14 cd14 ct14), sl14⟩)
    (c14 : PySem.W.codeIn K cd14 "law" = true) (k14 : PySem.W.keepIn K (.ref f14) = true)
    (z_len : PySem.W.nsIn K mainGlobals "len" = some none)
    (z_int : PySem.W.nsIn K mainGlobals "int" = some none)
    (z_range : PySem.W.nsIn K mainGlobals "range" = some none)
    (z_list : PySem.W.nsIn K mainGlobals "list" = some none)
    (z_min : PySem.W.nsIn K mainGlobals "min" = some none)
    (z_max : PySem.W.nsIn K mainGlobals "max" = some none)
    (z_abs : PySem.W.nsIn K mainGlobals "abs" = some none)
    (z_isinstance : PySem.W.nsIn K mainGlobals "isinstance" = some none)
    (z_bool : PySem.W.nsIn K mainGlobals "bool" = some none)
    (z_str : PySem.W.nsIn K mainGlobals "str" = some none)
    (z_tuple : PySem.W.nsIn K mainGlobals "tuple" = some none)
    (z_dict : PySem.W.nsIn K mainGlobals "dict" = some none)
    (z_sorted : PySem.W.nsIn K mainGlobals "sorted" = some none)
    (z_sum : PySem.W.nsIn K mainGlobals "sum" = some none)
    (z_repr : PySem.W.nsIn K mainGlobals "repr" = some none)
    (z_zip : PySem.W.nsIn K mainGlobals "zip" = some none)
    (z_enumerate : PySem.W.nsIn K mainGlobals "enumerate" = some none)
    (z_reversed : PySem.W.nsIn K mainGlobals "reversed" = some none)
    (gD : PySem.W.nsIn K mainGlobals "DealError" = some (some (.ref CD)))
    (h1 : PySem.W.specialIn K (.builtin "object.__class__") "__get__" = some (some (.builtin "getset_descriptor.__get__")))
    (h2 : PySem.W.takesIn K (.builtin "object.__class__") = some true)
    (iAc : PySem.W.findIn K (.ref CA) "__class__" = some (some (.builtin "object.__class__")))
    (iAm : PySem.W.mroIn K CA (.type "object") = some true)
    (iUc : PySem.W.findIn K (.ref CU) "__class__" = some (some (.builtin "object.__class__")))
    (iUm : PySem.W.mroIn K CU (.type "object") = some true)
    (kAD : PySem.W.kitOne K (.ref CA) (.ref CD) = some true)
    (kUD : PySem.W.kitOne K (.ref CU) (.ref CD) = some true)
    (kAU : PySem.W.kitOne K (.ref CA) (.ref CU) = some false)
    (kUA : PySem.W.kitOne K (.ref CU) (.ref CA) = some false)
    (eUA : PySem.W.exmOne K (.ref CU) (.ref CA) = some false)
    : ∃ fd : FuncData, (∀ (s : Shared) (v : Value), BindsTo s fd ⟨[v], []⟩ [("script", v)]) ∧ ∀ base : Heap, K.In base → base.Ns mainGlobals mg → FnOk P w K mg base CX0 6 fa fd ["script"] (spLaw K) := by
  have e := hfa.symm.trans (PySem.W.mg_of X G a14)
  cases e
  have B : Blt mg := { m_len := PySem.W.mg_none_of X G z_len, m_int := PySem.W.mg_none_of X G z_int, m_range := PySem.W.mg_none_of X G z_range, m_list := PySem.W.mg_none_of X G z_list, m_min := PySem.W.mg_none_of X G z_min, m_max := PySem.W.mg_none_of X G z_max, m_abs := PySem.W.mg_none_of X G z_abs, m_isinstance := PySem.W.mg_none_of X G z_isinstance, m_bool := PySem.W.mg_none_of X G z_bool, m_str := PySem.W.mg_none_of X G z_str, m_tuple := PySem.W.mg_none_of X G z_tuple, m_dict := PySem.W.mg_none_of X G z_dict, m_sorted := PySem.W.mg_none_of X G z_sorted, m_sum := PySem.W.mg_none_of X G z_sum, m_repr := PySem.W.mg_none_of X G z_repr, m_zip := PySem.W.mg_none_of X G z_zip, m_enumerate := PySem.W.mg_none_of X G z_enumerate, m_reversed := PySem.W.mg_none_of X G z_reversed }
  have T0 : Txt P K mg CA CU := { B with arc := TA, unb := TU }
  have T : TxtL P K mg CD CA CU := { T0 with h1 := h1, h2 := h2, g_DealError := PySem.W.mg_of X G gD, iA := ⟨iAc, iAm⟩, iU := ⟨iUc, iUm⟩, kAD := kAD, kUD := kUD, kAU := kAU, kUA := kUA, eUA := eUA }
  have F1 := fun_mk (st := s_check_ends) l1 c1 k1
  have b1 := F1.binds (ps := ["count", "arcs"]) fun _ _ _ _ _ _ us hl => match us, hl with | [_, _], _ => rfl
  have F2 := fun_mk (st := s_spare) l2 c2 k2
  have b2 := F2.binds (ps := ["count", "arcs", "amounts"]) fun _ _ _ _ _ _ us hl => match us, hl with | [_, _, _], _ => rfl
  have F3 := fun_mk (st := s_check_balance) l3 c3 k3
  have b3 := F3.binds (ps := ["count", "arcs", "amounts"]) fun _ _ _ _ _ _ us hl => match us, hl with | [_, _, _], _ => rfl
  have F4 := fun_mk (st := s_near) l4 c4 k4
  have b4 := F4.binds (ps := ["count", "arcs"]) fun _ _ _ _ _ _ us hl => match us, hl with | [_, _], _ => rfl
  have F5 := fun_mk (st := s_other_arc) l5 c5 k5
  have b5 := F5.binds (ps := ["row", "parts", "divisor", "came"]) fun _ _ _ _ _ _ us hl => match us, hl with | [_, _, _, _], _ => rfl
  have F6 := fun_mk (st := s_fraction_round) l6 c6 k6
  have b6 := F6.binds (ps := ["arcs", "near", "parts", "divisor", "start"]) fun _ _ _ _ _ _ us hl => match us, hl with | [_, _, _, _, _], _ => rfl
  have F7 := fun_mk (st := s_rounded) l7 c7 k7
  have b7 := F7.binds (ps := ["count", "arcs", "amounts", "divisor"]) fun _ _ _ _ _ _ us hl => match us, hl with | [_, _, _, _], _ => rfl
  have F8 := fun_mk (st := s_law_bag) l8 c8 k8
  have b8 := F8.binds (ps := ["script"]) fun _ _ _ _ _ _ us hl => match us, hl with | [_], _ => rfl
  have F9 := fun_mk (st := s_law_take) l9 c9 k9
  have b9 := F9.binds (ps := ["bag", "many"]) fun _ _ _ _ _ _ us hl => match us, hl with | [_, _], _ => rfl
  have F10 := fun_mk (st := s_law_network) l10 c10 k10
  have b10 := F10.binds (ps := ["bag", "count", "divisor", "rounds"]) fun _ _ _ _ _ _ us hl => match us, hl with | [_, _, _, _], _ => rfl
  have F11 := fun_mk (st := s_law_spare) l11 c11 k11
  have b11 := F11.binds (ps := ["count", "arcs", "amounts"]) fun _ _ _ _ _ _ us hl => match us, hl with | [_, _, _], _ => rfl
  have F12 := fun_mk (st := s_law_right) l12 c12 k12
  have b12 := F12.binds (ps := ["count", "arcs", "amounts", "divisor", "told"]) fun _ _ _ _ _ _ us hl => match us, hl with | [_, _, _, _, _], _ => rfl
  have F13 := fun_mk (st := s_law_outcome) l13 c13 k13
  have b13 := F13.binds (ps := ["count", "arcs", "amounts", "divisor"]) fun _ _ _ _ _ _ us hl => match us, hl with | [_, _, _, _], _ => rfl
  have F14 := fun_mk (st := s_law) l14 c14 k14
  have b14 := F14.binds (ps := ["script"]) fun _ _ _ _ _ _ us hl => match us, hl with | [_], _ => rfl
  refine ⟨PySem.W.fnOf "law" "law" (defArgs s_law) (defBody s_law) (defScope s_law) .none kV14 dc14 pm14 an14 cd14 ct14, fun s v => .of_eq rfl, fun base _ _ => ?_⟩
  have G_check_ends : FnB P w K mg base (L2.CX P w) 2 "_check_ends" ["count", "arcs"] (spCheckEnds K CA) := ⟨f1, _, ok_check_ends F1 T0, PySem.W.mg_of X G a1, k1, b1⟩
  have G_spare : FnB P w K mg base CX0 1 "_spare" ["count", "arcs", "amounts"] (spSpare K) := ⟨f2, _, ok_spare F2 T0, PySem.W.mg_of X G a2, k2, b2⟩
  have G_check_balance : FnB P w K mg base (L2.CX P w) 3 "_check_balance" ["count", "arcs", "amounts"] (spCheckBal K CU) := ⟨f3, _, ok_check_balance F3 T0 G_spare, PySem.W.mg_of X G a3, k3, b3⟩
  have G_near : FnB P w K mg base CX0 1 "_near" ["count", "arcs"] (spNear K) := ⟨f4, _, ok_near F4 T0, PySem.W.mg_of X G a4, k4, b4⟩
  have G_other_arc : FnB P w K mg base CX0 1 "_other_arc" ["row", "parts", "divisor", "came"] (spOther K) := ⟨f5, _, ok_other_arc F5 T0, PySem.W.mg_of X G a5, k5, b5⟩
  have G_fraction_round : FnB P w K mg base CX0 2 "_fraction_round" ["arcs", "near", "parts", "divisor", "start"] (spRound K) := ⟨f6, _, ok_fraction_round F6 T0 G_other_arc, PySem.W.mg_of X G a6, k6, b6⟩
  have G_rounded : FnB P w K mg base (L2.CX P w) 4 "rounded" ["count", "arcs", "amounts", "divisor"] (spRounded K CA CU) := ⟨f7, _, ok_rounded F7 T0 G_check_ends G_check_balance G_near G_fraction_round, PySem.W.mg_of X G a7, k7, b7⟩
  have G_law_bag : FnB P w K mg base CX0 1 "_law_bag" ["script"] (spBag K) := ⟨f8, _, ok_law_bag F8 B, PySem.W.mg_of X G a8, k8, b8⟩
  have G_law_take : FnB P w K mg base CX0 1 "_law_take" ["bag", "many"] (spTake) := ⟨f9, _, ok_law_take F9 B, PySem.W.mg_of X G a9, k9, b9⟩
  have G_law_network : FnB P w K mg base CX0 2 "_law_network" ["bag", "count", "divisor", "rounds"] (spNetwork K) := ⟨f10, _, ok_law_network F10 T0 G_law_take, PySem.W.mg_of X G a10, k10, b10⟩
  have G_law_spare : FnB P w K mg base CX0 1 "_law_spare" ["count", "arcs", "amounts"] (spSpare K) := ⟨f11, _, ok_law_spare F11 T0, PySem.W.mg_of X G a11, k11, b11⟩
  have G_law_right : FnB P w K mg base CX0 2 "_law_right" ["count", "arcs", "amounts", "divisor", "told"] (spLawRight K) := ⟨f12, _, ok_law_right F12 T0 G_law_spare, PySem.W.mg_of X G a12, k12, b12⟩
  have G_law_outcome : FnB P w K mg base CX0 5 "_law_outcome" ["count", "arcs", "amounts", "divisor"] (spOutcome K) := ⟨f13, _, ok_law_outcome F13 T G_rounded, PySem.W.mg_of X G a13, k13, b13⟩
  exact ok_law F14 T G_law_bag G_law_take G_law_network G_rounded G_law_right G_law_outcome
theorem walk {l : PySem.W.OpenLaw} {q : Program} {loose : List Str} {XP : (Str → Option Value) → Heap → Prop} {YP : World → Heap → Prop} {d : DefRec} {K : Params → PySem.W.Frag} (hn : l.most = some 63) (hdf : d.params.defaults = [])
    (hY : ∀ (w : World) (h : Heap), YP w h → (K w.params).In h)
    (F : ∀ (w : World) (mg : Str → Option Value) (fa : Addr) (h : Heap), (K w.params).In h → h.Ns mainGlobals mg → mg d.name = some (.ref fa) →
      ∃ fd : FuncData, (∀ (s : Shared) (u : Value), BindsTo s fd ⟨[u], []⟩ [("script", u)]) ∧ ∀ base : Heap, (K w.params).In base → base.Ns mainGlobals mg → FnOk l.prog w (K w.params) mg base CX0 6 fa fd ["script"] (spLaw (K w.params))) :
    PySem.W.WalkO q loose XP YP l.row.toRowW d [] (fun f vs => PySem.call f vs) :=
  L2.walk_of (n := 63) (k := 6) (x := "script") (CX := fun _ => CX0) (sp := fun w => spLaw (K w.params)) hn (by decide) hdf ⟨rfl, by decide, by decide⟩ hY F (fun _ _ a ns hl _ hS => ⟨a, ns, rfl, hS, hl, fun _ => rfl⟩) fun _ _ _ _ _ z => z
end K00
open PySem PySem.W PyProof.Rows
set_option maxRecDepth 100000 in
set_option maxHeartbeats 0 in
theorem PySem.Challenge.cw_eachfloweachlink_k00_rounding_keeps_ever_holds : PySem.Challenge.rw_eachfloweachlink_k00_rounding_keeps_ever.Holds := by
  w_on; o_law; k_head; (case hw => w_witness2)
  k_fill
  refine K00.walk (l := PySem.Challenge.rw_eachfloweachlink_k00_rounding_keeps_ever) rfl rfl (fun w h Y => PySem.W.kIn_of Y) ?F
  case F =>
    intro w mg fa h KX G hmg
    refine' K00.all_mk KX G hmg ?gA ?TA ?gU ?TU ?a1 ?l1 ?c1 ?k1 ?a2 ?l2 ?c2 ?k2 ?a3 ?l3 ?c3 ?k3 ?a4 ?l4 ?c4 ?k4 ?a5 ?l5 ?c5 ?k5 ?a6 ?l6 ?c6 ?k6 ?a7 ?l7 ?c7 ?k7 ?a8 ?l8 ?c8 ?k8 ?a9 ?l9 ?c9 ?k9 ?a10 ?l10 ?c10 ?k10 ?a11 ?l11 ?c11 ?k11 ?a12 ?l12 ?c12 ?k12 ?a13 ?l13 ?c13 ?k13 ?a14 ?l14 ?c14 ?k14 ?z_len ?z_int ?z_range ?z_list ?z_min ?z_max ?z_abs ?z_isinstance ?z_bool ?z_str ?z_tuple ?z_dict ?z_sorted ?z_sum ?z_repr ?z_zip ?z_enumerate ?z_reversed ?gD ?h1 ?h2 ?iAc ?iAm ?iUc ?iUm ?kAD ?kUD ?kAU ?kUA ?eUA
    (case gA => k_is)
    case TA =>
      refine' ⟨_, PySem.XS.errTxt_mk KX G ?gC ?xL ?hbm ?sup ?stc ?sa ?ga ?gg ?eC ?hC ?noF ?iC ?tI ?kC ?mC ?vC ?tC ?isC ?sC ?mgS ?l ?c ?lc ?ld ?hv ?hf ?top⟩
      (case gC => k_is)
      (case xL => k_is)
      (case hbm => decide +kernel)
      (case sup => ks_is)
      (case stc => k_is)
      (case sa => k_is)
      (case ga => k_is)
      (case gg => k_is)
      (case eC => k_is)
      (case hC => k_is)
      (case noF => (intro f hf; cases List.mem_singleton.mp hf; k_is))
      (case iC => k_is)
      (case tI => k_is)
      (case kC => k_is)
      (case mC => k_is)
      (case vC => k_is)
      (case tC => k_is)
      (case isC => k_is)
      (case sC => first | rfl | k_is)
      (case mgS => k_is)
      (case l => k_is)
      (case c => k_is)
      (case lc => k_is)
      (case ld => k_is)
      (case hv => rfl)
      (case hf => decide +kernel)
      (case top => decide +kernel)
    (case gU => k_is)
    case TU =>
      refine' ⟨_, PySem.XS.errTxt_mk KX G ?gC ?xL ?hbm ?sup ?stc ?sa ?ga ?gg ?eC ?hC ?noF ?iC ?tI ?kC ?mC ?vC ?tC ?isC ?sC ?mgS ?l ?c ?lc ?ld ?hv ?hf ?top⟩
      (case gC => k_is)
      (case xL => k_is)
      (case hbm => decide +kernel)
      (case sup => ks_is)
      (case stc => k_is)
      (case sa => k_is)
      (case ga => k_is)
      (case gg => k_is)
      (case eC => k_is)
      (case hC => k_is)
      (case noF => (intro f hf; cases List.mem_singleton.mp hf; k_is))
      (case iC => k_is)
      (case tI => k_is)
      (case kC => k_is)
      (case mC => k_is)
      (case vC => k_is)
      (case tC => k_is)
      (case isC => k_is)
      (case sC => first | rfl | k_is)
      (case mgS => k_is)
      (case l => k_is)
      (case c => k_is)
      (case lc => k_is)
      (case ld => k_is)
      (case hv => rfl)
      (case hf => decide +kernel)
      (case top => decide +kernel)
    (case a1 => k_is)
    (case l1 => k_is)
    (case c1 => k_is)
    (case k1 => k_is)
    (case a2 => k_is)
    (case l2 => k_is)
    (case c2 => k_is)
    (case k2 => k_is)
    (case a3 => k_is)
    (case l3 => k_is)
    (case c3 => k_is)
    (case k3 => k_is)
    (case a4 => k_is)
    (case l4 => k_is)
    (case c4 => k_is)
    (case k4 => k_is)
    (case a5 => k_is)
    (case l5 => k_is)
    (case c5 => k_is)
    (case k5 => k_is)
    (case a6 => k_is)
    (case l6 => k_is)
    (case c6 => k_is)
    (case k6 => k_is)
    (case a7 => k_is)
    (case l7 => k_is)
    (case c7 => k_is)
    (case k7 => k_is)
    (case a8 => k_is)
    (case l8 => k_is)
    (case c8 => k_is)
    (case k8 => k_is)
    (case a9 => k_is)
    (case l9 => k_is)
    (case c9 => k_is)
    (case k9 => k_is)
    (case a10 => k_is)
    (case l10 => k_is)
    (case c10 => k_is)
    (case k10 => k_is)
    (case a11 => k_is)
    (case l11 => k_is)
    (case c11 => k_is)
    (case k11 => k_is)
    (case a12 => k_is)
    (case l12 => k_is)
    (case c12 => k_is)
    (case k12 => k_is)
    (case a13 => k_is)
    (case l13 => k_is)
    (case c13 => k_is)
    (case k13 => k_is)
    (case a14 => k_is)
    (case l14 => k_is)
    (case c14 => k_is)
    (case k14 => k_is)
    (case z_len => k_is)
    (case z_int => k_is)
    (case z_range => k_is)
    (case z_list => k_is)
    (case z_min => k_is)
    (case z_max => k_is)
    (case z_abs => k_is)
    (case z_isinstance => k_is)
    (case z_bool => k_is)
    (case z_str => k_is)
    (case z_tuple => k_is)
    (case z_dict => k_is)
    (case z_sorted => k_is)
    (case z_sum => k_is)
    (case z_repr => k_is)
    (case z_zip => k_is)
    (case z_enumerate => k_is)
    (case z_reversed => k_is)
    (case gD => k_is)
    (case h1 => k_is)
    (case h2 => k_is)
    (case iAc => k_is)
    (case iAm => k_is)
    (case iUc => k_is)
    (case iUm => k_is)
    (case kAD => kit_is)
    (case kUD => kit_is)
    (case kAU => kit_is)
    (case kUA => kit_is)
    (case eUA => kts_exm)
