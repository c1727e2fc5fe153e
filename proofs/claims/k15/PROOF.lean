import PyProof.Rows.All
import Wide.All
import OpenK.AllK
import Wide.FinOn
import PyProof.EqAt
import PyProof.EqKinds
import PyProof.TupleCall
import PyProof.ReprRoads
import PyProof.ReprLen
import KE.KExcSuper
import KE.KExcIs
import KE.DatumOrd
import KE.IntTextLaws
import KE.RegKSuper
import KE.RegKIsAll
import KE.RegKTryMore
import PySem.Challenge.RW_eachfloweachlink_k15_exchanges_lead_ther
import HandS.ForMost
import HandS.Exc
import HandS.ExcInit
import HandS.ExcOwn
import HandS.ExcField
import HandS.TryMany
import HandS.WordsExc
import HandS.Wide
import HandS.Deep
import HandS.Conv
import HandS.IsInst
import HandS.NoneIn
import HandS.Evl
import HandS.Base
import HandS.Call
import HandS.List
import HandS.Ends
import HandS.Words
import HandS.Text
import HandS.Walk
import HandS.Gcd
set_option Elab.async false
set_option linter.all false
set_option maxRecDepth 100000
set_option maxHeartbeats 4000000
/-! # Own errors over ValueError whose __init__ says super().__init__(text) and then stores its arguments -/
namespace PySem
namespace XS
open PySem.W PySem.Calls PyProof.Rows PySem.HandSPX

/-- the text of such an __init__: the scope, the arguments, the first statement, a store -/
def supS (msg : Str) (p0 p1 p2 p3 p4 p5 : Pos) (j : Nat) : Stmt :=
  .Expr (.Call (.Attribute (.Call (.Name "super" p0) [] [] p1) "__init__" p2) [.Constant (.str msg) j p3] [] p4) p5
def stoS (f : Str) (a1 a2 a3 a4 : Pos) : Stmt := .Assign [.Attribute (.Name "self" a1) f a2] (.Name f a3) a4

/-- what the written part says of the class at C, its __init__ at fI -/
structure ErrTxt (prog : Program) (K : Frag) (mg : Str → Option Value) (x qual : Str) (st : Stmt) (fs : List Str) (C fI : Addr) : Prop where
  gC : mg x = some (.ref C)
  cls : ∃ nm q N bs bm sn sub ab col dd k0 k1 k2 k3 k5,
    K.lookup C = some (excClassObj nm q C N bs bm true sn sub ab col dd k0 k1 k2 k3 k5 "ValueError.__new__") ∧ refsVE bm = true
  sup : ks_superIn K C C "__init__" = some (some (.builtin "ValueError.__init__"))
  stc : nsIn K cStatics "thirdparty.any" = some none
  sa : findIn K (.ref C) "__setattr__" = some (some (.builtin "object.__setattr__"))
  xf : L2.xfB K C = true
  noF : ∀ f ∈ fs, findIn K (.ref C) f = some none
  iC : findIn K (.ref C) "__init__" = some (some (.ref fI))
  tI : typeIn K (.ref fI) = some (.type "function")
  kC : keepIn K (.ref C) = true
  mC : mroIn K C (.ref C) = some true
  vC : subIn K (.ref C) (.type "ValueError") = some true
  tC : typeIn K (.ref C) = some (.type "type")
  te : exmOne K (.ref C) (.ref C) = some true
  mgS : mg "super" = none
  fn : ∃ (oc : Value) (od : Option Addr) (kV doc pm : Value) (an : Option Addr) (ct : Value) (osl : Array (Option Value)) (cda cc : Addr),
    K.lookup fI = some ⟨oc, od, .func (ksFn "__init__" qual (L2.defArgs st) (L2.defBody st) (L2.defScope st) .none kV doc pm an (.ref cda) ct cc), osl⟩ ∧
    codeIn K (.ref cda) qual = true ∧
    (∃ cl cld csl, K.lookup cc = some ⟨cl, cld, .cell (some (.ref C)), csl⟩) ∧
    (∃ ccl cdd vs ccs file tf, K.lookup cda = some ⟨ccl, cdd, .fields vs, ccs⟩ ∧ vs[2]? = some (.str file tf) ∧ ((prog.main.file : Str) == file) = true)
  top : (prog.main.scope.names.lookup ("super" : Str)).isSome = false

section
variable {prog : Program} {w : World} {A : Around} {E : Value → Shared → Prop} {s : Shared} {K : Frag} {mg mb : Str → Option Value}
  {x qual : Str} {st : Stmt} {fs : List Str} {C fI : Addr}

theorem ErrTxt.cl (T : ErrTxt prog K mg x qual st fs C fI) : ∃ cd, clsIn K C = some cd ∧ refsVE cd.mro = true ∧ cd.hasDict = true := by
  obtain ⟨nm, q, N, bs, bm, sn, sub, ab, col, dd, k0, k1, k2, k3, k5, hC, hbm⟩ := T.cls
  refine ⟨{ name := nm, bases := bs, mro := .ref C :: bm, ns := N, qualname := q, hasDict := true, slotNames := sn, subclasses := sub, abstract := ab, collection := col, hasDel := false }, ?_, hbm, rfl⟩
  unfold clsIn
  rw [hC] <;> rfl

/-- the wrapper that super() hands out is called: the args are laid anew -/
theorem call_mw (T : ErrTxt prog K mg x qual st fs C fI) {u e t0 : Addr} {rest : List Value} {Q : Value → Shared → Prop} (X : K.In s.heap)
    (hu : s.heap.get? u = some (kxs_mw "ValueError.__init__" e)) (he : s.heap.get? e = some (excO C t0)) (hz : rest.length ≤ sizeLine)
    (hq : ∀ h' t1, (∀ b o, b ≠ e → s.heap.get? b = some o → h'.get? b = some o) → h'.get? e = some (excO C t1) → Q .none { s with heap := h' }) :
    wpAny (model prog w) A (call (.ref u) rest) Q E s := by
  obtain ⟨nm, q, N, bs, bm, sn, sub, ab, col, dd, k0, k1, k2, k3, k5, hC, hbm⟩ := T.cls
  have hC' := X _ _ hC
  obtain ⟨h, g, d, t, os⟩ := s
  refine wpAny_call (codeAny_of_tree ?_)
  show wpAny _ A.in1 (callAny (Value.ref u) ⟨rest, []⟩) _ _ ⟨h, g, d, t, os⟩
  simp only [callAny]
  refine wpAny_bind (wpAny_load (a := u) hu ?_)
  have z : (Value.type "method-wrapper" == Value.type "method" || Value.type "method-wrapper" == Value.type "builtin_function_or_method" || Value.type "method-wrapper" == Value.type "method-wrapper") = true := by decide
  simp only [kxs_mw, z, if_true]
  refine KFB.if_so (by decide) (wpAny_bind ?_)
  refine check_bound_init F.excBase_ValueError.toExcCallFacts hC' he rfl ?_
  refine wpAny_bind (wpAny_pure (wpAny_pure ⟨plainId_quiet F.excBase_ValueError.init.plain _, codeAny_builtin F.excBase_ValueError.initEntry ?_⟩))
  exact exc_init_tree (cls := .ref C) (t0 := t0) (dv := none) (c2 := .none) (c3 := .none) (b4 := .bool false) he hz fun h' k e' _ => hq h' _ k e'

/-- a method's call on one line: what it evaluates to, its places symbolic -/
theorem super_eval {p0 p1 p2 p4 : Pos} {es : List Expr} {env : Env} (hpos : (p2.endLine == p4.line) = true) (hform : methodCallForm es.length (backTo p4 (starEach es env)) [] = true) :
    eval (.Call (.Attribute (.Call (.Name "super" p0) [] [] p1) "__init__" p2) es [] p4) env = (do
      let ov ← attributeBase (.Call (.Name "super" p0) [] [] p1) "__init__" env (eval (.Call (.Name "super" p0) [] [] p1) env)
      standAt p2.atName
      let (f, first) ← holding [ov] (getMethod ov "__init__" (do return (← importBound (.Call (.Name "super" p0) [] [] p1) env).getD true))
      callWith p4 f first (backTo p4 (starEach es env)) []) := by
  have e1 : methodCallPos true (.Call (.Name "super" p0) [] [] p1) env p2 p4 = pure p4 := by
    unfold methodCallPos
    rw [if_pos (by rw [hpos]; rfl)]
  rw [arm_eval_Call]
  have e2 : ∀ ov : Value, methodCall (.Call (.Name "super" p0) [] [] p1) "__init__" p2 p4 env ov (es.length + 0) (backTo p4 (starEach es env)) [] = (do
      let (f, first) ← holding [ov] (getMethod ov "__init__" (do return (← importBound (.Call (.Name "super" p0) [] [] p1) env).getD true))
      callWith p4 f first (backTo p4 (starEach es env)) []) := fun ov => by
    unfold methodCall calleeOf
    rw [Nat.add_zero, hform, e1]
    rfl
  show (do
      let ov ← attributeBase (.Call (.Name "super" p0) [] [] p1) "__init__" env (eval (.Call (.Name "super" p0) [] [] p1) env)
      standAt p2.atName
      methodCall (.Call (.Name "super" p0) [] [] p1) "__init__" p2 p4 env ov (es.length + 0) (backTo p4 (starEach es env)) []) = _
  simp only [e2]
/-- the first statement of such an __init__ -/
theorem sup_stmt (T : ErrTxt prog K mg x qual st fs C fI) {qn : Str} {scope : Scope} {L f cda cc : Addr} {fd : FuncData} {o : Addr} {t0 : Addr} {m : Str → Option Value} {body : List Stmt} {ar : Arg}
    {msg : Str} {p0 p1 p2 p3 p4 p5 : Pos} {j : Nat} {Q : Flow → Shared → Prop} {oc : Value} {od : Option Addr} {osl : Array (Option Value)}
    (X : K.In s.heap) (hg : s.heap.Ns mainGlobals mg) (hb : s.heap.Ns builtinsNs mb) (hmb : mb "super" = some (.type "super"))
    (hm : s.heap.Ns L m) (hself : m ar.arg = some (.ref o)) (ho : s.heap.get? o = some (excO C t0)) (hoC : o ≠ C)
    (hf : K.lookup f = some ⟨oc, od, .func fd, osl⟩) (hp : (fd.params.posonlyargs ++ fd.params.args).head? = some ar)
    (hcell : ∃ cl cld csl, K.lookup cc = some ⟨cl, cld, .cell (some (.ref C)), csl⟩)
    (hcode : ∃ ccl cdd vs ccs file tf, K.lookup cda = some ⟨ccl, cdd, .fields vs, ccs⟩ ∧ vs[2]? = some (.str file tf) ∧ ((prog.main.file : Str) == file) = true)
    (hk : scope.kind = .function) (hks : scope.names.lookup ("super" : Str) = some .globalImplicit) (hkc : scope.names.lookup ("__class__" : Str) = some .free) (hka : scope.names.lookup ar.arg = some .local)
    (hq : ∀ h' tk t1, (∀ b u, b ≠ o → s.heap.get? b = some u → h'.get? b = some u) → h'.get? o = some (excO C t1) → Q .next { s with heap := h', toks := tk })
    (hpos : (p2.endLine == p4.line) = true) (hi : interactive (ksEnv qn scope L f (.ref cda) cc) = false := by rfl) :
    PySem.wpAt (model prog w) A (.func body (ksEnv qn scope L f (.ref cda) cc)) (exec (supS msg p0 p1 p2 p3 p4 p5 j) (ksEnv qn scope L f (.ref cda) cc)) Q E s := by
  obtain ⟨cl, cld, csl, hcell⟩ := hcell
  obtain ⟨ccl, cdd, vs, ccs, file, tf, hcode, hvs, hfile⟩ := hcode
  obtain ⟨nm, q, N, bs, bm, sn, sub, ab, col, dd, k0, k1, k2, k3, k5, hC, hbm⟩ := id T.cls
  have hcl : clsIn K C = some { name := nm, bases := bs, mro := .ref C :: bm, ns := N, qualname := q, hasDict := true, slotNames := sn, subclasses := sub, abstract := ab, collection := col, hasDel := false } := by
    unfold clsIn
    rw [hC] <;> rfl
  have hsup := T.sup
  unfold ks_superIn at hsup
  rw [hcl, Option.bind_some] at hsup
  obtain ⟨hh, g, d, t, os⟩ := s
  unfold supS
  refine ks_wpAt_Expr_any (ks_wpAt_MethodCall ?_ (super_eval hpos (by rfl))) hi (by rfl)
  refine ks_wpAt_super_base (env := ksEnv qn scope L f (.ref cda) cc) hks hkc (by decide) rfl (X _ _ hf) rfl hp rfl (X _ _ hcode) rfl hvs hfile T.top ?_
  refine ks_loadName_global hk hks (loadGlobal_builtin (env := ksEnv qn scope L f (.ref cda) cc) hg T.mgS hb hmb ⟨rfl, ?_⟩)
  refine wpAny_loadName_free hk hkc rfl ⟨_, X _ _ hcell, rfl⟩ ?_
  refine wpAny_loadName_local hk hka hm hself ?_
  refine ks_wpAny_isType_cls (X _ _ hC) rfl ⟨rfl, ?_⟩
  refine ks_wpAny_call_super (X _ _ hC) rfl ho rfl (fun c z => by cases z) (looks_mroIn X T.mC) fun h1 e1 kp1 => ?_
  have X1 : K.In h1 := X.keeps kp1
  have ho1 := kp1 _ _ ho
  have I1 : InstAt h1 o (excO C t0) C none := ⟨ho1, rfl, rfl, trivial⟩
  refine kxs_getMethod kxs_ValueError e1 (looks_opaque X1 T.stc) (l₀ := .ref C :: bm) ?_ rfl X1 hsup (I1.type.andThen (looks_subIn X1 T.vC)) hoC (by decide) ?_
  · exact (looks_clsIn X1 hcl).andThen .now
  have kp2 : ∀ b u, h1.get? b = some u → (h1.push (kxs_mw "ValueError.__init__" o)).get? b = some u := fun b u e => Heap.get?_push_of_some _ e
  show wpAny _ _ (callWith p4 (Value.ref h1.objs.size) [] ((false, eval (.Constant (.str msg) j p3) (ksEnv qn scope L f (.ref cda) cc)) :: []) []) _ _ _
  refine kxs_callWith (i := "ValueError.__init__") (x := o) (u := h1.objs.size) rfl (evalArgs_plain (Calls.spliced_cons (wpAny_Constant_str (Calls.spliced_nil ⟨?_, ?_⟩))))
  · show KxsAt _ _ _ (h1.push (kxs_mw "ValueError.__init__" o))
    exact Heap.get?_push_at rfl rfl
  · refine call_mw T (X1.keeps kp2) (e := o) (t0 := t0) (Heap.get?_push_at rfl rfl) (kp2 _ _ ho1) (by show 1 ≤ sizeLine; decide) fun h3 t1 k3 e3 => ?_
    exact hq h3 _ t1 (fun b u hb z => k3 b u hb (kp2 b u (kp1 b u z))) e3

/-- the stores that follow -/
inductive Stos : List Stmt → List Str → Prop
  | nil : Stos [] []
  | cons {f : Str} {a1 a2 a3 a4 : Pos} {r : List Stmt} {gs : List Str} (h : Stos r gs) : Stos (stoS f a1 a2 a3 a4 :: r) (f :: gs)
def mpOf : List (Str × Value) → Str → Option Value
  | [], _ => none
  | (f, v) :: r, y => if y = f then some v else mpOf r y
theorem mpOf_cons (f : Str) (v : Value) (r : List (Str × Value)) : mpOf ((f, v) :: r) = fun y => if y = f then some v else mpOf r y := rfl
theorem mpOf_within : ∀ l : List (Str × Value), Within (mpOf l) (l.map (·.1))
  | [] => Within.nil
  | (f, v) :: r => Within.cons f v (mpOf_within r)
/-- at o: an exception of the class at C whose own dict at dx holds l -/
structure ErrAt (h : Heap) (o C dx : Addr) (l : List (Str × Value)) : Prop where
  obj : ∃ t1 : Addr, h.get? o = some { cls := .ref C, dict := some dx, data := .fields #[.ref t1, .none, .none, .none, .bool false, .none] }
  ns : h.Ns1 dx (mpOf l)

theorem lkL {M : Model} {env : Env} {m : Str → Option Value} {y : Str} {pos : Pos} {v : Value} {Q : Value → Shared → Prop} (hn : s.heap.Ns env.locals m) (hv : m y = some v) (h : Q v s)
    (hk : env.scope.kind = .function) (hl : env.kindOf y = some .local) (hd : (y == ("__debug__" : Str)) = false) :
    wpAny M A (eval (.Name y pos) env) Q E s :=
  wpAny_Name (wpAny_loadName_local hk hl hn hv h) hd

/-- a further store -/
theorem sto_old (T : ErrTxt prog K mg x qual st fs C fI) {env : Env} {o dx : Addr} {f : Str} {a1 a2 a3 a4 : Pos} {v : Value} {m : Str → Option Value} {l : List (Str × Value)} {Q : Flow → Shared → Prop}
    (X : K.In s.heap) (hm : s.heap.Ns env.locals m) (hself : m "self" = some (.ref o)) (hv : m f = some v) (hE : ErrAt s.heap o C dx l) (hl : l.length ≤ 900) (hfs : f ∈ fs)
    (hk : env.scope.kind = .function) (h1 : env.kindOf "self" = some .local) (h2 : env.kindOf f = some .local) (hd : (f == ("__debug__" : Str)) = false)
    (hq : ∀ h' tk, (∀ b u, b ≠ dx → s.heap.get? b = some u → h'.get? b = some u) → h'.Ns1 dx (mpOf ((f, v) :: l)) → Q .next { s with heap := h', toks := tk }) :
    wpAny (model prog w) A (exec (stoS f a1 a2 a3 a4) env) Q E s := by
  obtain ⟨cd, hcd, hmro, hdict⟩ := T.cl
  obtain ⟨⟨t1, hobj⟩, hns⟩ := hE
  obtain ⟨oD, _, _, hoD, _, _⟩ := hns.count (mpOf_within l)
  obtain ⟨hh, g, d, t, os⟩ := s
  unfold stoS
  refine plainObj_wpAny_Assign_Attribute (lkL (v := v) hm hv (lkL (v := .ref o) hm hself ?_ hk h1 (by decide)) hk h2 hd)
  refine set_plain X (ox := { cls := .ref C, dict := some dx, data := .fields #[.ref t1, .none, .none, .none, .bool false, .none] }) (od := some oD) ⟨hobj, rfl, rfl, hoD⟩ T.sa ?_
  exact PySem.OEX.osa_old X hobj hns (mpOf_within l) (by rw [List.length_map]; omega) hcd hmro hdict (T.noF f hfs) fun h' tk' k hn => hq h' tk' k hn
/-- the first store: the own dict is laid -/
theorem sto_new (T : ErrTxt prog K mg x qual st fs C fI) {env : Env} {o t1 : Addr} {f : Str} {a1 a2 a3 a4 : Pos} {v : Value} {m : Str → Option Value} {Q : Flow → Shared → Prop}
    (X : K.In s.heap) (hm : s.heap.Ns env.locals m) (hself : m "self" = some (.ref o)) (hv : m f = some v) (hobj : s.heap.get? o = some (excO C t1)) (hfs : f ∈ fs)
    (hk : env.scope.kind = .function) (h1 : env.kindOf "self" = some .local) (h2 : env.kindOf f = some .local) (hd : (f == ("__debug__" : Str)) = false)
    (hq : ∀ h' tk dx, (∀ b u, b ≠ o → s.heap.get? b = some u → h'.get? b = some u) → s.heap.objs.size ≤ dx → dx ≠ o → ErrAt h' o C dx [(f, v)] → Q .next { s with heap := h', toks := tk }) :
    wpAny (model prog w) A (exec (stoS f a1 a2 a3 a4) env) Q E s := by
  obtain ⟨cd, hcd, hmro, hdict⟩ := T.cl
  obtain ⟨hh, g, d, t, os⟩ := s
  unfold stoS
  refine plainObj_wpAny_Assign_Attribute (lkL (v := v) hm hv (lkL (v := .ref o) hm hself ?_ hk h1 (by decide)) hk h2 hd)
  refine set_plain X (ox := excO C t1) (od := none) ⟨hobj, rfl, rfl, trivial⟩ T.sa ?_
  exact exc_osa X hobj hcd hmro hdict (T.noF f hfs) fun h' tk' dx k dn dne hx hn => hq h' tk' dx k dn dne ⟨⟨t1, hx⟩, hn⟩

theorem sto_run (T : ErrTxt prog K mg x qual st fs C fI) {env : Env} {o dx : Addr} {m : Str → Option Value} {Q : Flow → Shared → Prop}
    (hk : env.scope.kind = .function) (h1 : env.kindOf "self" = some .local) (hself : m "self" = some (.ref o)) (hLo : env.locals ≠ dx) (hodx : dx ≠ o) :
    ∀ {body : List Stmt} {gs : List Str}, Stos body gs → ∀ (ps : List (Str × Value)) (l : List (Str × Value)) (s : Shared), ps.map (·.1) = gs → (∀ p ∈ ps, m p.1 = some p.2 ∧ p.1 ∈ fs ∧ env.kindOf p.1 = some .local ∧ (p.1 == ("__debug__" : Str)) = false) →
      l.length + ps.length ≤ 900 → K.In s.heap → K.lookup dx = none → s.heap.Ns env.locals m → ErrAt s.heap o C dx l →
      (∀ h' tk, (∀ b u, b ≠ dx → s.heap.get? b = some u → h'.get? b = some u) → h'.Ns1 dx (mpOf (ps.reverse ++ l)) → Q .next { s with heap := h', toks := tk }) →
      wpAny (model prog w) A (execs body env) Q E s := by
  intro body gs hst
  induction hst with
  | nil =>
    intro ps l s e hp hl X hdx hm hE hq
    cases ps with
    | cons _ _ => cases e
    | nil =>
      refine wpAny_execs_nil ?_
      exact hq s.heap s.toks (fun _ _ _ z => z) hE.ns
  | @cons f a1 a2 a3 a4 r gs hst ih =>
    intro ps l s e hp hl X hdx hm hE hq
    cases ps with
    | nil => cases e
    | cons p ps =>
      obtain ⟨pf, v⟩ := p
      have e1 : pf = f := (List.cons.inj e).1
      subst e1
      obtain ⟨hv, hfs, hkf, hdf⟩ := hp (pf, v) List.mem_cons_self
      refine wpAny_execs_cons (sto_old T X hm hself hv hE (by simp only [List.length_cons] at hl; omega) hfs hk h1 hkf hdf fun h' tk k hn => ?_)
      obtain ⟨oL, es, ep, hL, hr⟩ := hm
      have kK : K.In h' := fun a u z => k a u (fun y => by rw [y, hdx] at z; cases z) (X a u z)
      refine ih ps ((pf, v) :: l) { s with heap := h', toks := tk } (List.cons.inj e).2 (fun q hq => hp q (List.mem_cons_of_mem _ hq)) (by simp only [List.length_cons] at hl ⊢; omega) kK hdx ⟨oL, es, ep, k _ _ hLo hL, hr⟩ ⟨?_, hn⟩ fun h2 tk2 k2 hn2 => ?_
      · obtain ⟨t1, z⟩ := hE.obj
        exact ⟨t1, k _ _ (Ne.symm hodx) z⟩
      · refine hq h2 tk2 (fun b u hb z => k2 b u hb (k b u hb z)) ?_
        rw [List.reverse_cons, List.append_assoc]
        exact hn2

/-- what the text of the __init__ must be (each by rfl or decide at a written text) -/
structure ErrSyn (qual : Str) (st : Stmt) (f0 : Str) (gs : List Str) : Prop where
  body : ∃ (msg : Str) (p0 p1 p2 p3 p4 p5 : Pos) (j : Nat) (a1 a2 a3 a4 : Pos) (r : List Stmt), L2.defBody st = supS msg p0 p1 p2 p3 p4 p5 j :: stoS f0 a1 a2 a3 a4 :: r ∧ Stos r gs ∧ (p2.endLine == p4.line) = true
  ar : ∃ ar : Arg, ((L2.defArgs st).posonlyargs ++ (L2.defArgs st).args).head? = some ar ∧ ar.arg = "self"
  kind : (L2.defScope st).kind = .function
  sup : (L2.defScope st).names.lookup ("super" : Str) = some .globalImplicit
  cls : (L2.defScope st).names.lookup ("__class__" : Str) = some .free
  self : (L2.defScope st).names.lookup ("self" : Str) = some .local
  loc : ∀ f ∈ f0 :: gs, (L2.defScope st).names.lookup f = some .local ∧ (f == ("__debug__" : Str)) = false
  cell : ∀ y ∈ (L2.defScope st).names, y.2 ≠ .cell
  co : (L2.defScope st).isCoroutine = false
  gen : (L2.defScope st).isGenerator = false
  nd : ((("self" : Str) :: f0 :: gs) : List Str).Nodup
  short : gs.length ≤ 100
  bind : ∀ (kV doc pm : Value) (an : Option Addr) (cdv ct : Value) (cc : Addr) (us : List Value), us.length = ((("self" : Str) :: f0 :: gs) : List Str).length →
    ∀ s : Shared, BindsTo s (ksFn "__init__" qual (L2.defArgs st) (L2.defBody st) (L2.defScope st) .none kV doc pm an cdv ct cc) ⟨us, []⟩ (((("self" : Str) :: f0 :: gs) : List Str).zip us)

theorem lookup_rev {n : Str} {v : Value} : ∀ {l : List (Str × Value)}, (l.map (·.1)).Nodup → (n, v) ∈ l → l.reverse.lookup n = some v := by
  intro l
  induction l with
  | nil => intro _ h; cases h
  | cons p l ih =>
    intro nd h
    obtain ⟨f, u⟩ := p
    rw [List.map_cons, List.nodup_cons] at nd
    rw [List.reverse_cons, List.lookup_append]
    rcases List.mem_cons.mp h with e | h
    · cases e
      have z : l.reverse.lookup n = none := by
        rw [List.lookup_eq_none_iff]
        intro q hq
        have : q.1 ∈ l.map (·.1) := List.mem_map_of_mem (List.mem_reverse.mp hq)
        have ne : ¬ n = q.1 := fun e => nd.1 (by rw [e]; exact this)
        simp [ne]
      rw [z]
      simp [List.lookup]
    · rw [ih nd.2 h]
      rfl

theorem zip_map1 : ∀ (ns : List Str) (us : List Value), us.length = ns.length → (ns.zip us).map (·.1) = ns
  | [], _, _ => rfl
  | n :: ns, [], h => by cases h
  | n :: ns, u :: us, h => by
    show n :: (ns.zip us).map (·.1) = n :: ns
    rw [zip_map1 ns us (Nat.succ.inj h)]

theorem errs_init (T : ErrTxt prog K mg x qual st fs C fI) {f0 : Str} {gs : List Str} (S : ErrSyn qual st f0 gs) (hfs : fs = f0 :: gs) {R : Result → Shared → Prop} {o t0 : Addr} {v0 : Value} {vs : List Value}
    (X : K.In s.heap) (hlim : s.heap.NoLimit) (hg : s.heap.Ns mainGlobals mg) (hb : s.heap.Ns builtinsNs mb) (hmb : mb "super" = some (.type "super"))
    (ho : s.heap.get? o = some (excO C t0)) (hno : K.lookup o = none) (hroom : A.depth < recursionLimit) (hlen : vs.length = gs.length)
    (hq : ∀ h' tk dx, (∀ b u, b ≠ o → s.heap.get? b = some u → h'.get? b = some u) → s.heap.objs.size ≤ dx → dx ≠ o → ErrAt h' o C dx (((f0, v0) :: gs.zip vs).reverse) → R (.ok (.ret .none)) { s with heap := h', toks := tk }) :
    codeAny (model prog w) A (.call (.ref fI) ⟨.ref o :: v0 :: vs, []⟩) R s := by
  obtain ⟨oc, od, kV, doc, pm, an, ct, osl, cda, cc, lk, hcd, hcell, hcode⟩ := T.fn
  obtain ⟨msg, p0, p1, p2, p3, p4, p5, j, a1, a2, a3, a4, r, hbody, hst, hpos⟩ := S.body
  obtain ⟨ar, har, hself⟩ := S.ar
  have hCo : o ≠ C := by
    rintro rfl
    obtain ⟨nm, q, N, bs, bm, sn, sub, ab, col, dd, k0, k1, k2, k3, k5, hC, hbm⟩ := T.cls
    rw [hno] at hC
    cases hC
  have hlt : o < s.heap.objs.size := Heap.lt_size ho
  have hulen : (Value.ref o :: v0 :: vs).length = ((("self" : Str) :: f0 :: gs) : List Str).length := by simp [hlen]
  have nd : ((((("self" : Str) :: f0 :: gs) : List Str).zip (Value.ref o :: v0 :: vs)).map (·.1)).Nodup := by
    rw [zip_map1 _ _ hulen]
    exact S.nd
  refine ks_codeAny_call_defAt (fd := ksFn "__init__" qual (L2.defArgs st) (L2.defBody st) (L2.defScope st) .none kV doc pm an (.ref cda) ct cc) (body := L2.defBody st) (binds := ((("self" : Str) :: f0 :: gs) : List Str).zip (Value.ref o :: v0 :: vs))
    hroom (X _ _ lk) rfl hlim (codeRec_of X hcd) rfl (S.bind _ _ _ _ _ _ _ _ hulen s) S.cell (fun y hy => ?_) (fun h0 hns hk0 => ?_) S.co S.gen S.kind
  · have : y.1 ∈ ((("self" : Str) :: f0 :: gs) : List Str) := (List.of_mem_zip hy).1
    rcases List.mem_cons.mp this with e | e
    · rw [e]; exact S.self
    · exact (S.loc _ e).1
  show PySem.wpAt _ (A.deeper (ksEnv qual (L2.defScope st) s.heap.objs.size fI (.ref cda) cc)) (.func (L2.defBody st) (ksEnv qual (L2.defScope st) s.heap.objs.size fI (.ref cda) cc)) (execs (L2.defBody st) (ksEnv qual (L2.defScope st) s.heap.objs.size fI (.ref cda) cc)) _ _ _
  have hb2 : execs (L2.defBody st) (ksEnv qual (L2.defScope st) s.heap.objs.size fI (.ref cda) cc) = execs (supS msg p0 p1 p2 p3 p4 p5 j :: stoS f0 a1 a2 a3 a4 :: r) (ksEnv qual (L2.defScope st) s.heap.objs.size fI (.ref cda) cc) := by rw [hbody]
  rw [hb2]
  have X0 : K.In h0 := X.keeps hk0
  have m_self : (((("self" : Str) :: f0 :: gs) : List Str).zip (Value.ref o :: v0 :: vs)).reverse.lookup ("self" : Str) = some (.ref o) := lookup_rev nd List.mem_cons_self
  have m_f0 : (((("self" : Str) :: f0 :: gs) : List Str).zip (Value.ref o :: v0 :: vs)).reverse.lookup f0 = some v0 := lookup_rev nd (List.mem_cons_of_mem _ List.mem_cons_self)
  have hLo : s.heap.objs.size ≠ o := Nat.ne_of_gt hlt
  refine ks_wpAt_execs_cons (sup_stmt T (fd := ksFn "__init__" qual (L2.defArgs st) (L2.defBody st) (L2.defScope st) .none kV doc pm an (.ref cda) ct cc) (ar := ar) (o := o) (t0 := t0) (m := fun y => (((("self" : Str) :: f0 :: gs) : List Str).zip (Value.ref o :: v0 :: vs)).reverse.lookup y)
    X0 (hg.keeps hk0) (hb.keeps hk0) hmb hns (by rw [hself]; exact m_self) (hk0 _ _ ho) hCo lk har hcell hcode S.kind S.sup S.cls (by rw [hself]; exact S.self) (fun h1 tk1 t1 k1 e1 => ?_) hpos (by unfold interactive; simp [S.kind]))
  show PySem.wpAt _ _ _ (execs _ _) _ _ _
  refine wpAt_of_wpAny ?_
  have hns0 := hns
  obtain ⟨oL, es, ep, hL, hr⟩ := hns
  have hns1 : h1.Ns s.heap.objs.size (fun y => (((("self" : Str) :: f0 :: gs) : List Str).zip (Value.ref o :: v0 :: vs)).reverse.lookup y) := ⟨oL, es, ep, k1 _ _ hLo hL, hr⟩
  have X1 : K.In h1 := fun a u z => k1 a u (fun y => by rw [y, hno] at z; cases z) (X0 a u z)
  refine wpAny_execs_cons (sto_new T (m := fun y => (((("self" : Str) :: f0 :: gs) : List Str).zip (Value.ref o :: v0 :: vs)).reverse.lookup y) X1 hns1 m_self m_f0 e1 (by rw [hfs]; exact List.mem_cons_self) S.kind S.self (S.loc f0 List.mem_cons_self).1 (S.loc f0 List.mem_cons_self).2
    fun h2 tk2 dx k2 dn dne hE => ?_)
  have hL1 : s.heap.objs.size < h1.objs.size := hns1.lt
  have hLdx : s.heap.objs.size ≠ dx := Nat.ne_of_lt (Nat.lt_of_lt_of_le hL1 dn)
  have hKdx : K.lookup dx = none := by
    cases z : K.lookup dx with
    | none => rfl
    | some u => exact absurd (Nat.lt_of_lt_of_le (Heap.lt_size (X1 _ _ z)) dn) (Nat.lt_irrefl _)
  have X2 : K.In h2 := fun a u z => k2 a u (fun y => by rw [y, hno] at z; cases z) (X1 a u z)
  show wpAny _ _ (execs r _) _ _ _
  refine sto_run T (env := ksEnv qual (L2.defScope st) s.heap.objs.size fI (.ref cda) cc) (dx := dx) (o := o) (m := fun y => (((("self" : Str) :: f0 :: gs) : List Str).zip (Value.ref o :: v0 :: vs)).reverse.lookup y) S.kind S.self m_self hLdx dne hst (gs.zip vs) [(f0, v0)] _ (zip_map1 gs vs hlen) (fun p hp => ?_) ?_ X2 hKdx ?_ hE fun h3 tk3 k3 hn3 => ?_
  · have pg : p.1 ∈ gs := (List.of_mem_zip hp).1
    exact ⟨lookup_rev nd (List.mem_cons_of_mem _ (List.mem_cons_of_mem _ hp)), by rw [hfs]; exact List.mem_cons_of_mem _ pg, (S.loc _ (List.mem_cons_of_mem _ pg)).1, (S.loc _ (List.mem_cons_of_mem _ pg)).2⟩
  · rw [List.length_zip]
    have := S.short
    simp only [List.length_cons, List.length_nil]
    omega
  · exact ⟨oL, es, ep, k2 _ _ hLo (k1 _ _ hLo hL), hr⟩
  · refine hq h3 _ dx (fun b u hb z => ?_) (Nat.le_of_lt (Nat.lt_of_lt_of_le hL1 dn)) dne ?_
    · have z0 := hk0 b u z
      have z1 := k1 b u hb z0
      have z2 := k2 b u hb z1
      exact k3 b u (Nat.ne_of_lt (Nat.lt_trans (Heap.lt_size z) (Nat.lt_of_lt_of_le hL1 dn))) z2
    · obtain ⟨t2, z⟩ := hE.obj
      refine ⟨⟨t2, k3 _ _ (Ne.symm dne) z⟩, ?_⟩
      rw [List.reverse_cons]
      exact hn3

/-- a made error: at e, its own dict at d -/
structure Made (h h' : Heap) (e C d : Addr) (l : List (Str × Value)) : Prop where
  keep : ∀ b o, h.get? b = some o → h'.get? b = some o
  new : h.objs.size ≤ e
  dbig : h.objs.size ≤ d
  dne : d ≠ e
  er : ErrAt h' e C d l

theorem errs_made (T : ErrTxt prog K mg x qual st fs C fI) {f0 : Str} {gs : List Str} (S : ErrSyn qual st f0 gs) (hfs : fs = f0 :: gs) {R : Result → Shared → Prop} {v0 : Value} {vs : List Value}
    (X : K.In s.heap) (hlim : s.heap.NoLimit) (hg : s.heap.Ns mainGlobals mg) (hb : s.heap.Ns builtinsNs mb) (hmb : mb "super" = some (.type "super"))
    (hroom : A.depth + 1 < recursionLimit) (hlen : vs.length = gs.length)
    (hq : ∀ h' tk e d, Made s.heap h' e C d (((f0, v0) :: gs.zip vs).reverse) → R (.ok (.ret (.ref e))) { s with heap := h', toks := tk }) :
    codeAny (model prog w) A (.call (.ref C) ⟨v0 :: vs, []⟩) R s := by
  obtain ⟨nm, q, N, bs, bm, sn, sub, ab, col, dd, k0, k1, k2, k3, k5, hC, hbm⟩ := id T.cls
  obtain ⟨hp, g, dr, tk, os⟩ := s
  have k : ∀ b o, hp.get? b = some o → ((hp.push (kdv_tup (v0 :: vs))).push (excO C hp.objs.size)).get? b = some o := fun b o e => Heap.get?_push_of_some _ (Heap.get?_push_of_some _ e)
  have hget : ((hp.push (kdv_tup (v0 :: vs))).push (excO C hp.objs.size)).get? (hp.objs.size + 1) = some (excO C hp.objs.size) := by heap_get
  have hnx : K.lookup (hp.objs.size + 1) = none := by
    cases e : K.lookup (hp.objs.size + 1) with
    | none => rfl
    | some o =>
      have z : hp.get? (hp.objs.size + 1) = some o := X _ _ e
      exact absurd (Nat.lt_of_succ_lt (Heap.lt_size z)) (Nat.lt_irrefl _)
  have hsz : (v0 :: vs).length ≤ sizeLine := by
    have := S.short
    have z : 101 ≤ sizeLine := by decide
    simp only [List.length_cons, hlen]
    omega
  refine call_own F.excBase_ValueError (fun X => refsVE_contains X bm hbm) (X _ _ hC) (looks_findIn X T.iC) (fun self => bind_fn X self T.tI) hsz ?_
  refine errs_init (s := ⟨(hp.push (kdv_tup (v0 :: vs))).push (excO C hp.objs.size), g, dr, tk, os⟩) T S hfs (X.keeps k) (hlim.keeps k) (hg.keeps k) (hb.keeps k) hmb hget hnx ?_ hlen fun h' tk' dx k' dn dne hE => ?_
  · show A.depth + 1 < recursionLimit
    exact hroom
  · have old : ∀ b o, hp.get? b = some o → h'.get? b = some o := fun b o e => k' b o (Nat.ne_of_lt (Nat.lt_succ_of_lt (Heap.lt_size e))) (k b o e)
    have z : hp.objs.size + 1 + 1 ≤ dx := by
      first
        | (simpa only [Heap.size_push] using dn)
        | exact dn
        | (have q := dn; rw [Heap.size_push, Heap.size_push] at q; exact q)
    exact ⟨rfl, hq h' tk' (hp.objs.size + 1) dx ⟨old, Nat.le_succ _, Nat.le_trans (Nat.le_trans (Nat.le_succ _) (Nat.le_succ _)) z, dne, hE⟩⟩
end
end XS
end PySem

namespace PySem
namespace XS
open PySem.W PySem.Calls PyProof.Rows PySem.HandSPX
/-! ### what the top must have written, fact by fact -/
theorem exm_of {K : Frag} {D S : Addr} {b : Bool} (h1 : subIn K (.ref S) (.type "BaseException") = some true) (h2 : isClsIn K S = true) (h3 : typeIn K (.ref S) = some (.type "type")) (h4 : subIn K (.ref D) (.ref S) = some b) :
    exmOne K (.ref D) (.ref S) = some b := by
  have e1 : (subIn K (.ref S) (.type "BaseException") == some true) = true := by rw [h1] <;> rfl
  have e2 : ((clsIn K S).isSome && typeIn K (.ref S) == some (.type "type")) = true := by
    have h2' : (clsIn K S).isSome = true := h2
    rw [h2', h3] <;> rfl
  show (if (subIn K (.ref S) (.type "BaseException") == some true) = true then (if ((clsIn K S).isSome && typeIn K (.ref S) == some (.type "type")) = true then subIn K (.ref D) (.ref S) else none) else none) = some b
  rw [if_pos e1, if_pos e2]
  exact h4
theorem xf_of {K : Frag} {C : Addr} (ga : findIn K (.ref C) "__getattribute__" = some (some (.builtin "BaseException.__getattribute__"))) (gg : findIn K (.ref C) "__getattr__" = some none)
    (eC : subIn K (.ref C) (.type "BaseException") = some true) (hC : hasDictIn K C = true) : L2.xfB K C = true := by
  unfold L2.xfB
  rw [decide_eq_true ga, decide_eq_true gg, decide_eq_true eC, hC]
  rfl
theorem errTxt_mk {prog : Program} {K : Frag} {h : Heap} {mg : Str → Option Value} {x qual : Str} {st : Stmt} {fs : List Str} {C fI : Addr} (X : K.In h) (G : h.Ns mainGlobals mg)
    {nm q : Str} {N : Addr} {bs bm : List Value} {sn : List Str} {sub : List Value} {ab : Bool} {col : Option Bool} {dd : Option Addr} {m0 m1 m2 m3 m5 : Option Value}
    {oc kV doc pm ct : Value} {od an : Option Addr} {osl : Array (Option Value)} {cda cc : Addr} {cl : Value} {cld : Option Addr} {csl : Array (Option Value)} {ccl : Value} {cdd : Option Addr} {vs : Array Value} {ccs : Array (Option Value)} {file : Str} {tf : Tok}
    (gC : nsIn K mainGlobals x = some (some (.ref C)))
    (xL : K.lookup C = some (excClassObj nm q C N bs bm true sn sub ab col dd m0 m1 m2 m3 m5 "ValueError.__new__")) (hbm : refsVE bm = true)
    (sup : ks_superIn K C C "__init__" = some (some (.builtin "ValueError.__init__"))) (stc : nsIn K cStatics "thirdparty.any" = some none)
    (sa : findIn K (.ref C) "__setattr__" = some (some (.builtin "object.__setattr__")))
    (ga : findIn K (.ref C) "__getattribute__" = some (some (.builtin "BaseException.__getattribute__"))) (gg : findIn K (.ref C) "__getattr__" = some none)
    (eC : subIn K (.ref C) (.type "BaseException") = some true) (hC : hasDictIn K C = true) (noF : ∀ f ∈ fs, findIn K (.ref C) f = some none)
    (iC : findIn K (.ref C) "__init__" = some (some (.ref fI))) (tI : typeIn K (.ref fI) = some (.type "function")) (kC : keepIn K (.ref C) = true)
    (mC : mroIn K C (.ref C) = some true) (vC : subIn K (.ref C) (.type "ValueError") = some true) (tC : typeIn K (.ref C) = some (.type "type"))
    (isC : isClsIn K C = true) (sC : subIn K (.ref C) (.ref C) = some true) (mgS : nsIn K mainGlobals "super" = some none)
    (l : K.lookup fI = some ⟨oc, od, .func (ksFn "__init__" qual (L2.defArgs st) (L2.defBody st) (L2.defScope st) .none kV doc pm an (.ref cda) ct cc), osl⟩) (c : codeIn K (.ref cda) qual = true)
    (lc : K.lookup cc = some ⟨cl, cld, .cell (some (.ref C)), csl⟩) (ld : K.lookup cda = some ⟨ccl, cdd, .fields vs, ccs⟩) (hv : vs[2]? = some (.str file tf)) (hf : ((prog.main.file : Str) == file) = true)
    (top : (prog.main.scope.names.lookup ("super" : Str)).isSome = false) : ErrTxt prog K mg x qual st fs C fI :=
  { gC := mg_of X G gC, cls := ⟨nm, q, N, bs, bm, sn, sub, ab, col, dd, m0, m1, m2, m3, m5, xL, hbm⟩, sup := sup, stc := stc, sa := sa, xf := xf_of ga gg eC hC, noF := noF, iC := iC, tI := tI, kC := kC, mC := mC, vC := vC, tC := tC,
    te := exm_of eC isC tC sC, mgS := mg_none_of X G mgS, fn := ⟨oc, od, kV, doc, pm, an, ct, osl, cda, cc, l, c, ⟨cl, cld, csl, lc⟩, ⟨ccl, cdd, vs, ccs, file, tf, ld, hv, hf⟩⟩, top := top }
end XS
end PySem

namespace L2
open PySem PySem.Spec PyProof.Rows

theorem pair_app {α β : Type} {F : α → β → Prop} {l1 : List α} {u1 : List β} (h : Paired F l1 u1) : ∀ {l2 : List α} {u2 : List β}, Paired F l2 u2 → Paired F (l1 ++ l2) (u1 ++ u2) := by
  induction h with
  | nil => intro l2 u2 g; exact g
  | cons r _ ih => intro l2 u2 g; exact .cons r (ih g)
theorem pair_rev {α β : Type} {F : α → β → Prop} {l : List α} {u : List β} (h : Paired F l u) : Paired F l.reverse u.reverse := by
  induction h with
  | nil => exact .nil
  | cons r _ ih =>
    rw [List.reverse_cons, List.reverse_cons]
    exact pair_app ih (.cons r .nil)
abbrev FV : (Str × V) → (Str × Value) → Prop := fun p q => p.1 = q.1 ∧ RelV p.2 q.2
theorem pair_zip : ∀ {ns : List Str} {vs : List V} {us : List Value}, Vals vs us → Paired FV (ns.zip vs) (ns.zip us)
  | [], _, _, _ => .nil
  | _ :: _, _, _, .nil => .nil
  | n :: ns, _, _, .cons r t => .cons ⟨rfl, r⟩ (pair_zip (ns := ns) t)
theorem relO_mp {l : List (Str × V)} {u : List (Str × Value)} (h : Paired FV l u) (g : Str) : RelO (l.lookup g) (XS.mpOf u g) := by
  induction h with
  | nil => exact True.intro
  | @cons p q l u r _ ih =>
    obtain ⟨f, v⟩ := p
    obtain ⟨f', w⟩ := q
    obtain ⟨e, rv⟩ := r
    dsimp only at e rv
    subst e
    rw [lookup_put, XS.mpOf_cons]
    dsimp only
    by_cases hw : g = f
    · rw [if_pos hw, if_pos hw]
      exact rv
    · rw [if_neg hw, if_neg hw]
      exact ih

/-- C(e, ..) of such an error: its own dict, new, holds the fields (the last one first) -/
def tMkE (C : Addr) (ns : List Str) (ta : TA) : St → Hp → XK → Prop := fun σ H Q => ta σ H fun vs H1 => vs.length = ns.length ∧ ∀ d, H1 d = none → Q (.ref C) (some d) (upd H1 d (.xd (ns.zip vs).reverse))
def tRaiseE (C : Addr) (ns : List Str) (W : WX) (ta : TA) : TS := fun _ σ H => tMkE C ns ta σ H fun cls d H' => W cls d σ H'

section
variable {X : Cx} {C fI : Addr} {x qual : Str} {st : Stmt} {f0 : Str} {gs : List Str}
theorem pmk_err {e : Expr} {es : List Expr} {ta : TA} {p pos : Pos} {k : Nat} (T : XS.ErrTxt X.prog X.K X.mg x qual st (f0 :: gs) C fI) (S : XS.ErrSyn qual st f0 gs) (hr : Room k X.A) (ha : PA X (e :: es) ta) (hg : Gl X x := by rfl)
    (hdb : (x == ("__debug__" : Str)) = false := by decide) (he : starEach (e :: es) X.env = (false, eval e X.env) :: starEach es X.env := by rfl) (hpl : (backTo pos (starEach es X.env)).any (·.1) = false := by rfl) :
    PMk X (.Call (.Name x p) (e :: es) [] pos) (tMkE C (f0 :: gs) ta) := by
  intro pins s σ H Q I h
  obtain ⟨mb, hb1, hb2⟩ := I.mod.blt
  refine wpAny_Call_Name_kw (ld_glob I hg T.gC ?_ hdb)
  refine PySem.W.callWith_K (h₀ := X.base) I.ok.mod.kin T.kC (thn (ha.run pos pins s σ H _ I h) fun us s1 hh => ?_) he hpl
  obtain ⟨vs, H1, I1, r1, hlen, q1⟩ := hh
  refine ⟨I1.kIn, ?_⟩
  cases r1 with
  | nil => cases hlen
  | @cons v u vr ur rv rr =>
    show wpAny _ _ (call (.ref C) (u :: ur)) _ _ _
    have hlim := I1.nolimit
    have hul : ur.length = gs.length := by
      rw [← Vals.length rr]
      exact Nat.succ.inj hlen
    have KI := I1.kIn
    have hglob := I1.mod.glob.keeps I1.bk
    have hblt := hb1.keeps I1.bk
    obtain ⟨hp, g, dr, tk, os⟩ := s1
    refine wpAny_call (XS.errs_made T S rfl KI hlim hglob hblt ((hb2 "super" (by decide)).trans PyProof.Rows.Boot.«super») (by have := hr.dp; omega) hul fun h' tk' ex d M => ?_)
    show MkP X pins σ Q (.ref ex) ⟨h', g, dr, tk', os⟩
    obtain ⟨t1, hoe⟩ := M.er.obj
    have hns := M.er.ns
    obtain ⟨G', g1, g2⟩ := restrict h' fun b => decide (b ≠ ex)
    have gk : ∀ b, b ≠ ex → G'.get? b = h'.get? b := fun b hb => g1 b (decide_eq_true hb)
    have ge : G'.get? ex = none := g2 ex (by simp)
    have old : ∀ b o, hp.get? b = some o → G'.get? b = some o := fun b o q => (gk b (Nat.ne_of_lt (Nat.lt_of_lt_of_le (Heap.lt_size q) M.new))).trans (M.keep b o q)
    have ob : ObjOk X.prog X.w (upd H1 d (.xd ((f0 :: gs).zip (v :: vr)).reverse)) G' d (.xd ((f0 :: gs).zip (v :: vr)).reverse) :=
      ⟨_, hns.at (fun o q => (gk d M.dne).trans q), fun f => relO_mp (pair_rev (.cons ⟨rfl, rv⟩ (pair_zip rr))) f⟩
    have J : Inv X pins σ (upd H1 d (.xd ((f0 :: gs).zip (v :: vr)).reverse)) ⟨G', g, dr, tk', os⟩ := I1.laid (t' := tk') old M.dbig ob
    refine ⟨ex, _, _, ⟨G', g, dr, tk', os⟩, _, .ref C, some d, rfl, J, fun b o q => ?_, ge, hoe, ⟨rfl, rfl⟩, rfl, rfl, ?_, rfl, I1.bare, raises_own (xfB_ok T.xf).exC T.tC, q1 d (I1.hok.fresh M.dbig)⟩
    · by_cases hb : b = ex
      · have q' : G'.get? b = some o := q
        rw [hb, ge] at q'; cases q'
      · exact (gk b hb).symm.trans q
    · rw [upd_ne (Ne.symm M.dne)]
      exact I1.hok.fresh M.new
theorem ps_raiseErr {e : Expr} {es : List Expr} {ta : TA} {W : WX} {p pos pos2 : Pos} {k : Nat} (hc : X.calm = true) (T : XS.ErrTxt X.prog X.K X.mg x qual st (f0 :: gs) C fI) (S : XS.ErrSyn qual st f0 gs) (hr : Room k X.A) (tk : Takes X W) (ha : PA X (e :: es) ta)
    (hg : Gl X x := by rfl) (hdb : (x == ("__debug__" : Str)) = false := by decide) (he : starEach (e :: es) X.env = (false, eval e X.env) :: starEach es X.env := by rfl) (hpl : (backTo pos (starEach es X.env)).any (·.1) = false := by rfl) :
    PS X (.Raise (some (.Call (.Name x p) (e :: es) [] pos)) none pos2) (tRaiseE C (f0 :: gs) W ta) := ps_raise hc tk (pmk_err T S hr ha hg hdb he hpl)
end

/-! ### isinstance(e, c), e the error that the suite holds, whatever its own dict -/
def rIsX (K : PySem.W.Frag) (a : Addr) (cls : Value) (d : Option Addr) : List V → Hp → VK → Prop := fun xs H Q =>
  ∃ (D dd : Addr) (fs : List (Str × V)) (c : V) (cv : Value) (b : Bool), cls = .ref D ∧ d = some dd ∧ xs = [.ref a, c] ∧ (∀ u, RelV c u → u = cv) ∧ PySem.W.kitOne K (.ref D) cv = some b ∧ H dd = some (.xd fs) ∧
    (PySem.W.findIn K (.ref D) "__class__" = some (some (.builtin "object.__class__")) ∧ PySem.W.mroIn K D (.type "object") = some true ∧ xfB K D = true) ∧ Q (.bl b) H
theorem call_isX {X : Cx} {a : Addr} {oe : Obj} {cls : Value} {d : Option Addr} {pn : List (Addr × Obj)} (hn : PySem.W.specialIn X.K (.builtin "object.__class__") "__get__" = some (some (.builtin "getset_descriptor.__get__")))
    (ht : PySem.W.takesIn X.K (.builtin "object.__class__") = some true) (hz : Zc cls d oe) (hf : ∃ vs, oe.data = .fields vs) : CallR (X.suite a ((a, oe) :: pn)) (.builtin "isinstance") (rIsX X.K a cls d) := by
  intro pins s σ H xs us Q I r h
  obtain ⟨D, dd, fs, c, cv, b, rfl, rfl, rfl, hcv, e, hdd, ⟨ha, hm, hx⟩, q⟩ := h
  obtain ⟨ga, gg, exC, hdC⟩ := xfB_ok hx
  cases r with
  | cons rx rr =>
    cases rr with
    | cons rt rr =>
      cases rr
      cases rx
      have ec := hcv _ rt
      subst ec
      obtain ⟨hget, _⟩ := I.pin (a, oe) (List.mem_append.mpr (.inl List.mem_cons_self))
      obtain ⟨vs, hv⟩ := hf
      have hxd : ObjOk X.prog X.w H s.heap dd (.xd fs) := I.hok dd _ hdd
      obtain ⟨mA, hns, _⟩ := hxd
      obtain ⟨od, ho, _⟩ := lookIn_ns hns
      have J : PySem.W.InstAt s.heap a oe D (some od) := ⟨hget, hz.1, by unfold PySem.W.notCls; rw [hv] <;> rfl, by rw [hz.2]; exact ho⟩
      obtain ⟨cd, hc, _⟩ := PySem.W.any_some hdC
      exact PySem.W.kia_one (PySem.W.kitx_exc (by rw [hc]; rfl) ga gg exC ha hn ht hm) I.kIn J e (fun z => nomatch z) fun tk => ⟨.bl b, H, I.kept (t' := tk) fun _ _ z => z, rfl, q⟩
end L2

/-! ### try with several clauses, with a name or without -/
namespace L2
open PySem PySem.Spec PyProof.Rows
abbrev Clause := Value × Option Nat × (Addr → Value → Option Addr → TS)
def endN : Option Nat → Ends → Ends
  | none, D => D
  | some i, D => { nx := fun σ' H' => D.nx (σ'.set i none) H', rt := D.rt, bk := fun σ' H' => D.bk (σ'.set i none) H', ct := fun σ' H' => D.ct (σ'.set i none) H' }
def inN : Option Nat → Addr → St → St
  | none, _, σ => σ
  | some i, a, σ => σ.set i (some (.ref a))
/-- what the clauses wish of an exception of the body, one after the other -/
def wGen (K : PySem.W.Frag) (Wout : WX) (D : Ends) : List Clause → WX
  | [] => Wout
  | (c, io, ts) :: r => fun cls d σ H => ∃ b, PySem.W.exmOne K cls c = some b ∧ (b = true → ∀ a, H a = none → ts a cls d (endN io D) (inN io a σ) H) ∧ (b = false → wGen K Wout D r cls d σ H)
inductive HdsG (X : Cx) : List ExceptHandler → List Clause → Prop
  | nil : HdsG X [] []
  | plain {x : Str} {c : Value} {ts : Addr → Value → Option Addr → TS} {b₀ : Stmt} {suite : List Stmt} {np pq : Pos} {hds : List ExceptHandler} {l : List Clause} (hc : Names X x c)
      (hsu : ∀ (a : Addr) (oe : Obj) (cls : Value) (d : Option Addr) (pn : List (Addr × Obj)), Zc cls d oe → (∃ vs, oe.data = .fields vs) → PSs (X.suite a ((a, oe) :: pn)) (b₀ :: suite) (ts a cls d)) (r : HdsG X hds l) :
      HdsG X (.ExceptHandler (some (.Name x np)) none (b₀ :: suite) pq :: hds) ((c, none, ts) :: l)
  | named {x n : Str} {c : Value} {i : Nat} {ts : Addr → Value → Option Addr → TS} {b₀ : Stmt} {suite : List Stmt} {np pq : Pos} {hds : List ExceptHandler} {l : List Clause} (hc : Names X x c)
      (hi : X.N[i]? = some n) (hln : X.env.kindOf n = some .local)
      (hsu : ∀ (a : Addr) (oe : Obj) (cls : Value) (d : Option Addr) (pn : List (Addr × Obj)), Zc cls d oe → (∃ vs, oe.data = .fields vs) → PSs (X.suite a ((a, oe) :: pn)) (b₀ :: suite) (ts a cls d)) (r : HdsG X hds l) :
      HdsG X (.ExceptHandler (some (.Name x np)) (some n) (b₀ :: suite) pq :: hds) ((c, some i, ts) :: l)
section
variable {X : Cx} {body : List Stmt} {hd0 : ExceptHandler} {hds : List ExceptHandler} {l : List Clause} {pos : Pos} {tb : WX → TS} {Wout : WX}
theorem ps_try_gen (hs : X.stack = X.env :: X.outer) (hf : X.env.frame = some X.env.locals) (hN : X.N.Nodup) (tk : Takes X Wout)
    (hb : ∀ (W : WX) (pn : List (Addr × Obj)) (xe : Value → Shared → Prop), Takes (X.tr pn xe) W → PassesOwn (model X.prog X.w) X.A X.env xe → PSs (X.tr pn xe) body (tb W))
    (hh : HdsG X (hd0 :: hds) l) : PS X (.Try body (hd0 :: hds) [] [] pos) (fun D σ H => tb (wGen X.K Wout D l) D σ H) := by
  refine ⟨fun pins s σ H D I h => ?_⟩
  have ok := I.ok
  have frm : X.A.frames = some (X.env :: X.outer) := by rw [ok.frames, hs]
  refine wpAny_Try_except ?_
  refine wpAny_mono ((hb (wGen X.K Wout D l) (X.pn ++ pins)
    (fun ev z1 => wpAny (model X.prog X.w) X.A (noteFrame ev X.env) (fun _ z2 => wpAny (model X.prog X.w) X.A (setFlight ev none) (fun _ z3 => wpAny (model X.prog X.w) X.A (handleBy ev X.env (hd0 :: hds)) (SP X pins D) X.xe z3) X.xe z2) X.xe z1)
    (fun u s' xx => ?_) PassesOwn.looking).run [] s σ H D (I.toTry _) h) (fun fl s1 hsp => ?_) (fun ev s1 he => he)
  · obtain ⟨ea, B, sI, pp, σq, Hq, cls, d, rfl, Jt, nb, up, sky, na, os, ag, wish⟩ := xx
    have J : Inv X pins σq Hq sI := Jt.ofTry ok
    have sky2 : Sky B (X.env :: X.outer) ea (Zc cls d) X.env.locals s'.heap := by rw [← hs]; exact sky
    show wpAny (model X.prog X.w) X.A (noteFrame (Value.ref ea) X.env) _ _ _
    refine Sky.land Zc.steady frm hf sky2 fun g3 fly3 upg3 => ?_
    have K3 : Inv X pins σq Hq { s' with heap := g3 } := J.landed nb fly3.1 (up.trans upg3) os ag
    obtain ⟨ob3, fv3, hg3, zc3, dt3⟩ := fly3.there
    have noframe : ∀ {hh : Heap} {o : Obj} {vs : Array Value}, hh.FunFrames B (X.env :: X.outer) → hh.get? ea = some o → o.data = .fields vs → ea ∉ frs (X.env :: X.outer) := fun {hh o vs} ff e1 dd1 hm1 => by
      obtain ⟨_, o2, e2, hnf⟩ := ff.mem hm1
      rw [e1] at e2
      cases e2
      exact hnf _ dd1
    have nofr := noframe fly3.2.2.1 hg3 dt3
    have neL : ea ≠ X.env.locals := fun z => nofr (List.mem_filterMap.mpr ⟨X.env, List.mem_cons_self, by rw [hf, z]⟩)
    have neF : ea ∉ X.fs := fun hm1 => by
      obtain ⟨e1, he1, q1⟩ := List.mem_filterMap.mp hm1
      exact nofr (List.mem_filterMap.mpr ⟨e1, List.mem_cons_of_mem _ he1, q1⟩)
    have Q3 := K3.suite hg3 dt3 na neL neF
    have LT : PySem.W.Looks (model X.prog X.w) g3 (typeOf (.ref ea)) cls := fun A1 Q1 E1 z1 k1 q1 => wpAny_typeOf_ref (k1 _ _ hg3) (by rw [zc3.1]; exact q1)
    have named : ∀ {x : Str} {c : Value} {np : Pos} {Q1 : Value → Shared → Prop} {E1 : Value → Shared → Prop}, Names X x c → Q1 c { s' with heap := g3 } → wpAny (model X.prog X.w) (X.A.mark (some (.ref ea))) (eval (.Name x np) X.env) Q1 E1 { s' with heap := g3 } := fun {x c np Q1 E1} hc q1 => by
      obtain ⟨hg, hdbg, hm | ⟨hm, hv, hnn⟩⟩ := hc
      · exact ld_glob (X := X.suite ea ((ea, ob3) :: (X.pn ++ pins))) Q3 hg hm q1 hdbg
      · exact ld_blt (X := X.suite ea ((ea, ob3) :: (X.pn ++ pins))) Q3 hg hm hv q1 hnn hdbg
    have run : ∀ {hs2 : List ExceptHandler} {l2 : List Clause}, HdsG X hs2 l2 → wGen X.K Wout D l2 cls d σq Hq → wpAny (model X.prog X.w) X.A (handleBy (.ref ea) X.env hs2) (SP X pins D) X.xe { s' with heap := g3 } := by
      intro hs2 l2 hk
      induction hk with
      | nil =>
        intro w1
        refine wpAny_handleBy_nil ?_
        obtain ⟨_, _, _, o1, vs1, T1, oT1, tt1, he1, hz1, hd1, hw1, hr1⟩ := id fly3
        unfold PySem.passOn
        refine wpAny_bind (wpAny_field he1 hd1 hw1 ?_)
        rw [if_neg (show ¬ ((Value.ref T1 == Value.none) = true) from by simp)]
        have last : wpAny (model X.prog X.w) X.A (setFlight (.ref ea) X.env.frame) (fun _ z4 => wpAny (model X.prog X.w) X.A (throw (.ref ea) : Sem Flow) (SP X pins D) X.xe z4) X.xe { s' with heap := g3 } := by
          rw [hf]
          refine HandSPX.setFlight_upZ fly3 fun g4 fly4 upg4 => wpAny_throw (tk _ _ ?_)
          exact ⟨ea, B, sI, pins, σq, Hq, cls, d, rfl, J, nb, (up.trans upg3).trans upg4, .inr (.inr (by rw [hs]; exact fly4)), na, os, ag, w1⟩
        first
          | exact wpAny_bind (wpAny_pure (wpAny_bind last))
          | exact wpAny_bind last
      | @plain x c ts b₀ suite np pq hs3 l3 hc hsu r ih =>
        intro w1
        obtain ⟨b, hb1, hyes, hno⟩ := w1
        refine wpAny_handleBy_cons (codeAny_handlers_test ?_) (by intro q; cases q)
        refine named hc ((PySem.W.exm_one (M := model X.prog X.w) K3.kIn LT hb1).here ?_)
        cases b with
        | true =>
          refine codeAny_handlers_suite (HandSPX.lands_againZ fly3 fun g4 fly4 upg4 => ?_)
          have K4 : Inv X pins σq Hq { s' with heap := g4 } := J.landed nb fly4.1 ((up.trans upg3).trans upg4) os ag
          obtain ⟨ob4, fv4, hg4, zc4, dt4⟩ := fly4.there
          have Q4 := K4.suite hg4 dt4 na neL neF
          refine wpAny_mono ((hsu ea ob4 cls d (X.pn ++ pins) zc4 ⟨_, dt4⟩).run [] _ _ Hq _ Q4 (hyes rfl ea na)) (fun f1 s6 hsp => ?_) (fun _ _ z => False.elim z)
          cases f1 with
          | ret u6 =>
            obtain ⟨v6, σ6, H6, S6, r6, q6⟩ := hsp
            exact ⟨_, _, _, S6.unsuite ok, r6, q6⟩
          | next | brk | cont =>
            obtain ⟨σ6, H6, S6, q6⟩ := hsp
            exact ⟨_, _, S6.unsuite ok, q6⟩
        | false =>
          show wpAny _ X.A (handleBy (.ref ea) X.env hs3) _ _ _
          exact ih (hno rfl)
      | @named x n c i ts b₀ suite np pq hs3 l3 hc hi hln hsu r ih =>
        intro w1
        obtain ⟨b, hb1, hyes, hno⟩ := w1
        refine wpAny_handleBy_cons (codeAny_handlers_test ?_) (by intro q; cases q)
        refine named hc ((PySem.W.exm_one (M := model X.prog X.w) K3.kIn LT hb1).here ?_)
        cases b with
        | true =>
          refine codeAny_handlers_suite_as (HandSPX.lands_againZ fly3 fun g4 fly4 upg4 => ?_)
          have K4 : Inv X pins σq Hq { s' with heap := g4 } := J.landed nb fly4.1 ((up.trans upg3).trans upg4) os ag
          obtain ⟨ob4, fv4, hg4, zc4, dt4⟩ := fly4.there
          have Q4 := K4.suite hg4 dt4 na neL neF
          refine store_ok (X := X.suite ea ((ea, ob4) :: (X.pn ++ pins))) (v := .ref ea) Q4 hN hi (.inl hln) rfl (fun s5 S5 => ?_) (.inr hln)
          refine wpAny_mono ((hsu ea ob4 cls d (X.pn ++ pins) zc4 ⟨_, dt4⟩).run [] s5 _ Hq _ S5 (hyes rfl ea na)) (fun f1 s6 hsp => ?_) (fun _ _ z => False.elim z)
          have away : ∀ {σ6 : St} {H6 : Hp} {Q6 : Shared → Prop}, Inv (X.suite ea ((ea, ob4) :: (X.pn ++ pins))) [] σ6 H6 s6 → (∀ s7, Inv X pins (σ6.set i none) H6 s7 → Q6 s7) →
              wpAny (model X.prog X.w) X.A (do bindName X.env n .none; unbindBehindTheSuite X.env n pq) (fun _ s7 => Q6 s7) X.xe s6 := fun S6 hq => gone_ok (S6.unsuite ok) hN hi hln hq
          cases f1 with
          | ret u6 =>
            obtain ⟨v6, σ6, H6, S6, r6, q6⟩ := hsp
            exact away S6 fun s7 J7 => ⟨_, _, _, J7, r6, q6⟩
          | next | brk | cont =>
            obtain ⟨σ6, H6, S6, q6⟩ := hsp
            exact away S6 fun s7 J7 => ⟨_, _, J7, q6⟩
        | false =>
          show wpAny _ X.A (handleBy (.ref ea) X.env hs3) _ _ _
          exact ih (hno rfl)
    exact run hh wish
  · cases fl with
    | next =>
      obtain ⟨σq, Hq, Jt, q1⟩ := hsp
      exact wpAny_execs_nil ⟨σq, Hq, Jt.ofTry ok, q1⟩
    | brk | cont =>
      obtain ⟨σq, Hq, Jt, q1⟩ := hsp
      exact ⟨σq, Hq, Jt.ofTry ok, q1⟩
    | ret u =>
      obtain ⟨v, σq, Hq, Jt, r1, q1⟩ := hsp
      exact ⟨v, σq, Hq, Jt.ofTry ok, r1, q1⟩
end
end L2

/-! # Own layer: defs bundled by name, list items read for a store, frames, reading steps -/
namespace L2
open PySem PySem.Spec PyProof.Rows

/-- the def of this name keeps the promise -/
def FnB (P : Program) (w : World) (K : PySem.W.Frag) (mg : Str → Option Value) (base : Heap) (CX : CXT) (k : Nat) (x : Str) (ps : List Str) (sp : Sp) : Prop :=
  ∃ (f : Addr) (fd : FuncData), FnOk P w K mg base CX k f fd ps sp ∧ mg x = some (.ref f) ∧ PySem.W.keepIn K (.ref f) = true ∧ Binds K fd ps []

section
variable {X : Cx} {CX : CXT} {k : Nat} {ps : List Str} {sp : Sp} {E : XK} {x : Str} {p pos : Pos} {e : Expr} {es : List Expr} {t : TA}
theorem pe_callF (F : FnB X.prog X.w X.K X.mg X.base CX k x ps sp) (hr : Room k X.A) (hg : Gl X x) (hx : Passes CX X E)
    (ha : PA X (e :: es) t) (hdb : (x == ("__debug__" : Str)) = false := by decide) (he : starEach (e :: es) X.env = (false, eval e X.env) :: starEach es X.env := by rfl) (hpl : (backTo pos (starEach es X.env)).any (·.1) = false := by rfl) :
    PE X (.Call (.Name x p) (e :: es) [] pos) (tCall sp [] E t) := by
  obtain ⟨f, fd, F1, g, kp, b⟩ := F
  exact pe_call F1 hr hg g kp b .nil hx ha hdb he hpl
theorem pe_callFS {ES : St → XK} (F : FnB X.prog X.w X.K X.mg X.base CX k x ps sp) (hr : Room k X.A) (hg : Gl X x) (hx : ∀ σ, PassesAt CX X σ (ES σ))
    (ha : PA X (e :: es) t) (hdb : (x == ("__debug__" : Str)) = false := by decide) (he : starEach (e :: es) X.env = (false, eval e X.env) :: starEach es X.env := by rfl) (hpl : (backTo pos (starEach es X.env)).any (·.1) = false := by rfl) :
    PE X (.Call (.Name x p) (e :: es) [] pos) (tCallS sp ES t) := by
  obtain ⟨f, fd, F1, g, kp, b⟩ := F
  exact pe_callS F1 hr hg g kp b hx ha hdb he hpl
theorem pget_list : PGet X (rIxL X.K) := by
  intro pins s σ H o i ov iv Q I ro ri h
  obtain ⟨p, xs, j, z, rfl, rfl, hq, he, q⟩ := h
  cases ro
  obtain ⟨t, rfl⟩ := ri
  obtain ⟨its, r, pl, hz⟩ := I.list hq
  obtain ⟨n, h1, h2, h3, h4, h5⟩ := atI_get he
  obtain ⟨w, ew, rw'⟩ := r.get h2
  have hl := r.length
  have hn := line63
  have fin : EP X pins σ Q w s := ⟨z, H, I, rw', q⟩
  by_cases h0 : 0 ≤ j
  · have hj : j.toNat = n := by
      rw [seqIndex_of h0 h5] at h1
      exact Option.some.inj h1
    exact wpAny_getItem_list pl.isList h0 (by omega) (by rw [hj]; simpa using ew) fin
  · have hj : (j + (its.toArray.size : Int)).toNat = n := by
      rw [seqIndex_neg (by omega) h4] at h1
      rw [List.size_toArray, ← hl]
      exact Option.some.inj h1
    exact wpAny_getItem_list_neg (Q := fun v s' => EP X pins σ Q v s') pl.isList (by omega) (by rw [List.size_toArray] <;> omega) (by omega) (by rw [hj]; simpa using ew) fin
end

theorem passN {X : Cx} : Passes (L2.CX X.prog X.w) X E0 := fun _ _ _ _ _ _ _ h => by
  obtain ⟨_, _, _, _, _, _, _, _, _, _, _, _, z⟩ := h
  exact z.elim
/-! ### frames: what is tracked stays, but for the addresses of S -/
def Fr (S : List Addr) (H H' : Hp) : Prop := ∀ a o, H a = some o → a ∉ S → H' a = some o
theorem Fr.refl (S : List Addr) (H : Hp) : Fr S H H := fun _ _ h _ => h
theorem Fr.trans {S : List Addr} {H H1 H2 : Hp} (a : Fr S H H1) (b : Fr S H1 H2) : Fr S H H2 := fun c o h n => b c o (a c o h n) n
theorem Fr.new {S : List Addr} {H H' : Hp} {p : Addr} {o : HO} (e : Fr S H H') (h : H' p = none) : Fr S H (upd H' p o) := fun a u ha n => by
  have z := e a u ha n
  rw [upd_ne (ne_of_none z h)]
  exact z
/-- a store at an address of S, or at one that H does not know -/
theorem Fr.put {S : List Addr} {H H' : Hp} {p : Addr} {o : HO} (e : Fr S H H') (h : p ∈ S ∨ H p = none) : Fr S H (upd H' p o) := fun a u ha n => by
  have ne : a ≠ p := by
    rintro rfl
    rcases h with h | h
    · exact n h
    · rw [ha] at h
      cases h
  rw [upd_ne ne]
  exact e a u ha n
theorem Fr.sub {S S' : List Addr} {H H' : Hp} (e : Fr S H H') (h : ∀ a, a ∈ S → a ∈ S') : Fr S' H H' := fun a o ha n => e a o ha fun z => n (h a z)
theorem Fr.nil {S : List Addr} {H H' : Hp} (e : Fr [] H H') : Fr S H H' := fun a o ha _ => e a o ha (by simp)
theorem Fr.free {H H' : Hp} {p : Addr} (e : Fr [] H H') (h : H' p = none) : H p = none := by
  cases q : H p with
  | none => rfl
  | some o =>
    rw [e p o q (by simp)] at h
    cases h
theorem Fr.free1 {H H' : Hp} {p b : Addr} {o : HO} (e : Fr [b] H H') (hb : H' b = some o) (h : H' p = none) : H p = none := by
  cases q : H p with
  | none => rfl
  | some u =>
    by_cases z : p = b
    · rw [z, hb] at h
      cases h
    · rw [e p u q (by simpa using z)] at h
      cases h
theorem Fr.l {K : PySem.W.Frag} {H H' : Hp} {a : Addr} {xs : List V} (e : Fr [] H H') (h : SqL K H a xs) : SqL K H' a xs := by
  rcases h with (h | ⟨o, h⟩) | h
  · exact .inl (.inl (e _ _ h (by simp)))
  · exact .inl (.inr ⟨o, e _ _ h (by simp)⟩)
  · exact .inr h
theorem Fr.t {K : PySem.W.Frag} {H H' : Hp} {a : Addr} {xs : List V} (e : Fr [] H H') (h : SqT K H a xs) : SqT K H' a xs := by
  rcases h with (h | ⟨o, h⟩) | h
  · exact .inl (.inl (e _ _ h (by simp)))
  · exact .inl (.inr ⟨o, e _ _ h (by simp)⟩)
  · exact .inr h

/-! ### places of lists -/
theorem at_map {α : Type} {f : α → V} {xs : List α} {j : Nat} {v : α} (h : xs[j]? = some v) : atI (xs.map f) (j : Int) = some (f v) := atI_nat (by rw [List.getElem?_map, h]; rfl)
theorem ix_nat {n j : Nat} (h : j < n) : ixN n (j : Int) = some j := by
  unfold ixN
  rw [if_pos (Int.natCast_nonneg j), if_pos (by exact_mod_cast h)]
  rfl
theorem at_int {α : Type} {xs : List α} {i : Int} {v : α} (h0 : 0 ≤ i) (h : xs[i.toNat]? = some v) : atI xs i = some v := by
  have e : ((i.toNat : Nat) : Int) = i := Int.toNat_of_nonneg h0
  rw [← e]
  exact atI_nat h
theorem ix_int {n : Nat} {i : Int} (h0 : 0 ≤ i) (h : i < n) : ixN n i = some i.toNat := by
  unfold ixN
  rw [if_pos h0, if_pos h]
end L2

namespace L2
open PySem PySem.Spec PyProof.Rows
/-- the built-in names that no module of the row binds -/
structure Blt (mg : Str → Option Value) : Prop where
  m_len : mg "len" = none
  m_int : mg "int" = none
  m_range : mg "range" = none
  m_list : mg "list" = none
  m_min : mg "min" = none
  m_max : mg "max" = none
  m_abs : mg "abs" = none
  m_isinstance : mg "isinstance" = none
  m_bool : mg "bool" = none
  m_str : mg "str" = none
  m_tuple : mg "tuple" = none
  m_dict : mg "dict" = none
  m_sorted : mg "sorted" = none
  m_sum : mg "sum" = none
  m_repr : mg "repr" = none
  m_zip : mg "zip" = none
  m_enumerate : mg "enumerate" = none
  m_reversed : mg "reversed" = none

theorem dec_iff {p : Prop} [Decidable p] {A B : Prop} (h1 : p → A) (h2 : ¬ p → B) : if decide p = true then A else B := by
  by_cases h : p
  · rw [decide_eq_true h]
    exact iteT (h1 h)
  · rw [decide_eq_false h]
    exact iteF (h2 h)
theorem iteY {c : Bool} {A B : Prop} (hc : c = true) (h : A) : if c = true then A else B := by rw [if_pos hc]; exact h
theorem iteN {c : Bool} {A B : Prop} (hc : c = false) (h : B) : if c = true then A else B := by rw [hc, if_neg Bool.false_ne_true]; exact h
/-- b || c by its ways -/
theorem bool_iff {c : Bool} {A B : Prop} (h1 : c = true → A) (h2 : c = false → B) : if c = true then A else B := by
  cases c with
  | true => exact iteT (h1 rfl)
  | false => exact iteF (h2 rfl)

/-! ### the bag of a law: what is left of the script, and the numbers drawn from it -/
def BagAt (H : Hp) (b c : Addr) (ns : List Int) (i v s : Int) : Prop :=
  H b = some (.lst [.ref c, .int i, .int v, .int s]) ∧ H c = some (.lst (ns.map V.int)) ∧ 0 ≤ i ∧ 0 ≤ v ∧ 0 ≤ s
def Bag (H : Hp) (b : Addr) : Prop := ∃ c ns i v s, BagAt H b c ns i v s
theorem BagAt.ne {H : Hp} {b c : Addr} {ns : List Int} {i v s : Int} (h : BagAt H b c ns i v s) : c ≠ b := by
  rintro rfl
  have e := h.1.symm.trans h.2.1
  cases ns with
  | nil => cases e
  | cons n r =>
    have e2 := HO.lst.inj (Option.some.inj e)
    cases e2
theorem BagAt.put {H : Hp} {b c : Addr} {ns : List Int} {i v s i' v' s' : Int} (h : BagAt H b c ns i v s) (hi : 0 ≤ i') (hv : 0 ≤ v') (hs : 0 ≤ s') : BagAt (upd H b (.lst [.ref c, .int i', .int v', .int s'])) b c ns i' v' s' :=
  ⟨upd_same, by rw [upd_ne h.ne]; exact h.2.1, hi, hv, hs⟩
theorem BagAt.fr {S : List Addr} {H H' : Hp} {b c : Addr} {ns : List Int} {i v s : Int} (h : BagAt H b c ns i v s) (e : Fr S H H') (hb : b ∉ S) (hc : c ∉ S) : BagAt H' b c ns i v s :=
  ⟨e _ _ h.1 hb, e _ _ h.2.1 hc, h.2.2⟩
theorem Bag.fr {H H' : Hp} {b : Addr} (h : Bag H b) (e : Fr [] H H') : Bag H' b := by
  obtain ⟨c, ns, i, v, s, h⟩ := h
  exact ⟨c, ns, i, v, s, h.fr e (by simp) (by simp)⟩
theorem Bag.new {H : Hp} {b p : Addr} {o : HO} (h : Bag H b) (hp : H p = none) : Bag (upd H p o) b := h.fr ((Fr.refl [] H).new hp)
theorem Bag.some {H : Hp} {b : Addr} (h : Bag H b) : ∃ o, H b = Option.some o := by
  obtain ⟨c, ns, i, v, s, h⟩ := h
  exact ⟨_, h.1⟩
/-- the bag at b whose numbers stand at c -/
def BagC (H : Hp) (b c : Addr) : Prop := ∃ ns i v s, BagAt H b c ns i v s
theorem BagC.ne {H : Hp} {b c : Addr} (h : BagC H b c) : c ≠ b := by
  obtain ⟨ns, i, v, s, h⟩ := h
  exact h.ne
theorem BagC.fr {S : List Addr} {H H' : Hp} {b c : Addr} (h : BagC H b c) (e : Fr S H H') (hb : b ∉ S) (hc : c ∉ S) : BagC H' b c := by
  obtain ⟨ns, i, v, s, h⟩ := h
  exact ⟨ns, i, v, s, h.fr e hb hc⟩
theorem BagC.put {H : Hp} {b c p : Addr} {o : HO} (h : BagC H b c) (hb : p ≠ b) (hc : p ≠ c) : BagC (upd H p o) b c :=
  h.fr (S := [p]) ((Fr.refl _ H).put (.inl (by simp))) (by simpa using hb.symm) (by simpa using hc.symm)
theorem BagC.new {H : Hp} {b c p : Addr} {o : HO} (h : BagC H b c) (hp : H p = none) : BagC (upd H p o) b c := by
  obtain ⟨ns, i, v, s, h⟩ := h
  exact ⟨ns, i, v, s, h.fr ((Fr.refl [] H).new hp) (by simp) (by simp)⟩
theorem BagC.b {H : Hp} {b c : Addr} (h : BagC H b c) : ∃ i v s, H b = some (.lst [.ref c, .int i, .int v, .int s]) := by
  obtain ⟨ns, i, v, s, h⟩ := h
  exact ⟨_, _, _, h.1⟩
theorem BagC.neb {H : Hp} {b c p : Addr} (h : BagC H b c) (hp : H p = none) : p ≠ b := by
  obtain ⟨i, v, s, h⟩ := h.b
  exact (ne_of_none h hp).symm
theorem BagC.nec {H : Hp} {b c p : Addr} (h : BagC H b c) (hp : H p = none) : p ≠ c := by
  obtain ⟨ns, i, v, s, h⟩ := h
  exact (ne_of_none h.2.1 hp).symm
/-- _law_take(bag, many): some number below many; all but the bag stays -/
def spTake : Sp := fun vs H Q _ => ∃ (b c : Addr) (many : Int), vs = [.ref b, .int many] ∧ BagC H b c ∧ 0 < many ∧ many.natAbs.log2 < 9000 ∧
  ∀ (t : Int) (H' : Hp), 0 ≤ t → t < many → Fr [b] H H' → BagC H' b c → Q (.int t) H'
/-- _law_bag(script): a new bag -/
def spBag (K : PySem.W.Frag) : Sp := fun vs H Q _ => ∃ (a : Addr) (ns : List Int), vs = [.ref a] ∧ SqL K H a (ns.map V.int) ∧ ns.length ≤ 1000 ∧
  ∀ (b c : Addr) (H' : Hp), H b = none → H c = none → Fr [] H H' → BagC H' b c → Q (.ref b) H'
theorem log_ok {z : Int} (h : z.natAbs < 2 ^ 250) : z.natAbs.log2 < 9000 := by
  by_cases c : z.natAbs = 0
  · rw [c]
    decide
  · rw [Nat.log2_lt c]
    exact Nat.lt_of_lt_of_le h (Nat.pow_le_pow_right (by decide) (by decide))
end L2

namespace L2
open PySem PySem.Spec PyProof.Rows
theorem get_map_int {ns : List Int} {i : Nat} {y : V} (h : (ns.map V.int)[i]? = some y) : ∃ z, ns[i]? = some z ∧ y = V.int z := by
  rw [List.getElem?_map] at h
  cases e : ns[i]? with
  | none => rw [e] at h; cases h
  | some z => rw [e] at h; exact ⟨z, rfl, (Option.some.inj h).symm⟩
theorem get_mapf {α : Type} {f : α → V} {ns : List α} {i : Nat} {y : V} (h : (ns.map f)[i]? = some y) : ∃ z, ns[i]? = some z ∧ y = f z := by
  rw [List.getElem?_map] at h
  cases e : ns[i]? with
  | none => rw [e] at h; cases h
  | some z => rw [e] at h; exact ⟨z, rfl, (Option.some.inj h).symm⟩
theorem take_succ {α : Type} {ns : List α} {i : Nat} {z : α} (h : ns[i]? = some z) : ns.take (i + 1) = ns.take i ++ [z] := by
  rw [List.take_add_one, h]
  rfl
end L2

namespace L2
open PySem PySem.Spec PyProof.Rows
theorem for_rng {n : Nat} {g : TG} {tb : TS} {D : Ends} {σ : St} {H : Hp} (Pv : Nat → St → Hp → Prop) (h0 : Pv 0 σ H)
    (hs : ∀ i σ H, i < n → Pv i σ H → g (.int (i : Int)) σ H fun σ2 H2 => tb { D with nx := Pv (i + 1), ct := Pv (i + 1), bk := D.nx } σ2 H2) (hd : ∀ σ H, Pv n σ H → D.nx σ H) :
    ∃ W : Nat → Nat → St → Hp → Prop, (∃ m, W 0 m σ H) ∧ ∀ i m σ H, W i m σ H →
      ((Itr 0 n).stop i H ∧ D.nx σ H) ∨ ((Itr 0 n).go i H ∧ ∃ N : St → Hp → Prop, (∀ σ' H', N σ' H' → ∃ m', m' < m ∧ W (i + 1) m' σ' H') ∧ ∀ x H', (Itr 0 n).yld i H x H' → g x σ H' fun σ2 H2 => tb { D with nx := N, ct := N, bk := D.nx } σ2 H2) :=
  for_range Pv h0 (fun i σ H hi p => by rw [Int.zero_add]; exact hs i σ H hi p) hd
theorem lc_rng {n : Nat} {g : TG} {tt : TT} {te : TE} {vs : List Nat} {σ : St} {H1 : Hp} {D : Addr} {Qd : Hp → Prop} (Pv : Nat → Hp → Prop) (h0 : Pv 0 (upd H1 D (.lst [])))
    (hs : ∀ i H, i < n → Pv i H → g (.int (i : Int)) (wipe σ vs) H fun σ2 H2 => wipe σ2 vs = wipe σ vs ∧ tt σ2 H2 fun b H3 =>
      if b = true then te σ2 H3 fun y H4 => ∃ acc, H4 D = some (.lst acc) ∧ acc.length < sizeLine ∧ Pv (i + 1) (upd H4 D (.lst (acc ++ [y]))) else Pv (i + 1) H3) (hd : ∀ H, Pv n H → Qd H) :
    ∃ W : Nat → Nat → Hp → Prop, (∃ m, W 0 m (upd H1 D (.lst []))) ∧ ∀ i m H, W i m H →
      ((Itr 0 n).stop i H ∧ Qd H) ∨ ((Itr 0 n).go i H ∧ ∃ Nx : Hp → Prop, (∀ H', Nx H' → ∃ m', m' < m ∧ W (i + 1) m' H') ∧ ∀ x H', (Itr 0 n).yld i H x H' → g x (wipe σ vs) H' fun σ2 H2 => wipe σ2 vs = wipe σ vs ∧ tt σ2 H2 fun b H3 =>
        if b = true then te σ2 H3 fun y H4 => ∃ acc, H4 D = some (.lst acc) ∧ acc.length < sizeLine ∧ Nx (upd H4 D (.lst (acc ++ [y]))) else Nx H3) :=
  lc_range Pv h0 (fun i H hi p => by rw [Int.zero_add]; exact hs i H hi p) hd
/-- numbers that a range takes -/
theorem rg_ok {n : Nat} (h : n ≤ 100000000) : -(2 ^ 62) ≤ (n : Int) ∧ (n : Int) < 2 ^ 62 := by omega
theorem len_line {n : Nat} (h : n ≤ 100000) : n ≤ sizeLine := Nat.le_trans h (by decide)
theorem len_lt {n : Nat} (h : n < 100000) : n < sizeLine := Nat.lt_of_lt_of_le h (by decide)
/-- ends that nobody asks for -/
def noEnds : Ends := { nx := fun _ _ => False, rt := fun _ _ => False }
theorem rep_one {n : Nat} {v : V} : (List.replicate n [v]).flatten = List.replicate n v := by
  induction n with
  | zero => rfl
  | succ m ih =>
    rw [List.replicate_succ, List.flatten_cons, ih, List.replicate_succ]
    rfl
end L2

namespace L2
open PySem PySem.Spec PyProof.Rows
theorem while_m {c : TT} {tb : TS} {D : Ends} {σ : St} {H : Hp} (W : Nat → St → Hp → Prop) (m0 : Nat) (h0 : W m0 σ H)
    (hs : ∀ m σ H, W m σ H → c σ H fun b H1 => if b = true then tb { D with nx := fun σ' H' => ∃ m', m' < m ∧ W m' σ' H', ct := fun σ' H' => ∃ m', m' < m ∧ W m' σ' H', bk := D.nx } σ H1 else D.nx σ H1)
    (mono : ∀ σ H Q Q', (∀ b H1, Q b H1 → Q' b H1) → c σ H Q → c σ H Q') : tWhile c tb D σ H := by
  refine ⟨W, ⟨m0, h0⟩, fun m σ H p => mono σ H _ _ (fun b H1 q => ?_) (hs m σ H p)⟩
  cases b with
  | true => exact ⟨_, fun σ' H' h => h, q⟩
  | false => exact q
/-- while True -/
theorem while_true {tb : TS} {D : Ends} {σ : St} {H : Hp} (W : Nat → St → Hp → Prop) (m0 : Nat) (h0 : W m0 σ H)
    (hs : ∀ m σ H, W m σ H → tb { D with nx := fun σ' H' => ∃ m', m' < m ∧ W m' σ' H', ct := fun σ' H' => ∃ m', m' < m ∧ W m' σ' H', bk := D.nx } σ H) : tWhile (tB (tC (.bl true))) tb D σ H :=
  while_m W m0 h0 (fun m σ H p => ⟨true, rfl, iteT (hs m σ H p)⟩) fun σ H Q Q' h ⟨c, e, q⟩ => ⟨c, e, h _ _ q⟩
/-- the places of a list of numbers, as a dict -/
def kvsOf : List Int → Nat → List (Key × V)
  | [], _ => []
  | v :: r, i => (Sum.inl v, V.int (i : Int)) :: kvsOf r (i + 1)
theorem kvsOf_len : ∀ (l : List Int) (i : Nat), (kvsOf l i).length = l.length
  | [], _ => rfl
  | v :: r, i => by
    show (kvsOf r (i + 1)).length + 1 = r.length + 1
    rw [kvsOf_len r]
theorem kvsOf_snoc (v : Int) : ∀ (l : List Int) (i : Nat), kvsOf (l ++ [v]) i = kvsOf l i ++ [(Sum.inl v, V.int ((i + l.length : Nat) : Int))]
  | [], i => rfl
  | u :: r, i => by
    show (_ :: kvsOf (r ++ [v]) (i + 1)) = _ :: (kvsOf r (i + 1) ++ _)
    rw [kvsOf_snoc v r (i + 1)]
    have e : i + 1 + r.length = i + (u :: r).length := by
      rw [List.length_cons]
      omega
    rw [e]
theorem kvsOf_val (v : Int) : ∀ (l : List Int) (i : Nat), valV (kvsOf l i) (Sum.inl v : Key) = if v ∈ l then some (V.int ((i + l.idxOf v : Nat) : Int)) else none
  | [], i => rfl
  | u :: r, i => by
    have ih := kvsOf_val v r (i + 1)
    unfold valV at ih ⊢
    show ((_ :: kvsOf r (i + 1)).find? _).map _ = _
    rw [List.find?_cons]
    by_cases c : u = v
    · have d : decide ((Sum.inl u : Key) = Sum.inl v) = true := decide_eq_true (by rw [c])
      simp only [d]
      rw [if_pos (by rw [c]; exact List.mem_cons_self), c, List.idxOf_cons_self]
      rfl
    · have d : decide ((Sum.inl u : Key) = Sum.inl v) = false := decide_eq_false (fun e => c (Sum.inl.inj e))
      simp only [d]
      rw [ih]
      by_cases m : v ∈ r
      · rw [if_pos m, if_pos (List.mem_cons_of_mem _ m)]
        have ec : (u == v) = false := by simpa using c
        rw [List.idxOf_cons, ec]
        have e : i + 1 + r.idxOf v = i + (r.idxOf v + 1) := by omega
        rw [e]
        rfl
      · rw [if_neg m, if_neg]
        intro h
        rcases List.mem_cons.mp h with h | h
        · exact c h.symm
        · exact m h
theorem cut_drop (xs : List V) (i : Nat) (h : i ≤ xs.length) : cutV xs (some (i : Int)) none = xs.drop i := by
  unfold cutV
  have e1 : HT.sIx xs.length 0 (some (i : Int)) = i := by
    rw [HT.sIx_nat]
    omega
  have e2 : HT.sIx xs.length xs.length none = xs.length := rfl
  rw [e1, e2]
  exact List.take_of_length_le (by rw [List.length_drop]; exact Nat.le_refl _)
end L2

namespace L2
open PySem PySem.Spec PyProof.Rows
theorem nint {a b : Int} (h : (!decide (V.int a = V.int b)) = true) : a ≠ b := fun e => by
  rw [e] at h
  simp at h
theorem yint {a b : Int} (h : (!decide (V.int a = V.int b)) = false) : a = b := by
  have : decide (V.int a = V.int b) = true := by simpa using h
  exact V.int.inj (of_decide_eq_true this)
theorem ne_if {a b : Int} {A B : Prop} (h1 : a ≠ b → A) (h2 : a = b → B) : if (!decide (V.int a = V.int b)) = true then A else B := bool_iff (fun h => h1 (nint h)) fun h => h2 (yint h)
theorem eq_if {a b : Int} {A B : Prop} (h1 : a = b → A) (h2 : a ≠ b → B) : if decide (V.int a = V.int b) = true then A else B :=
  dec_iff (fun h => h1 (V.int.inj h)) fun h => h2 fun e => h (congrArg V.int e)
theorem not_if {p : Prop} [Decidable p] {A B : Prop} (h1 : ¬ p → A) (h2 : p → B) : if (!decide p) = true then A else B := by
  by_cases h : p
  · rw [decide_eq_true h]
    exact iteF (h2 h)
  · rw [decide_eq_false h]
    exact iteT (h1 h)
end L2

namespace L2
open PySem PySem.Spec PyProof.Rows
/-- min(t), t a tuple of two ints -/
def rMinT (K : PySem.W.Frag) : List V → Hp → VK → Prop := fun vs H Q => ∃ (a : Addr) (i j : Int), vs = [V.ref a] ∧ SqT K H a [.int i, .int j] ∧ Q (.int (if j < i then j else i)) H
theorem cr_minT {X : Cx} (hc : X.calm = true) (hu : X.A.units + 65 < cLine) : CallR X (.builtin "min") (rMinT X.K) := by
  intro pins s σ H vs us Q I r h
  obtain ⟨a, i, j, rfl, hs, q⟩ := h
  obtain ⟨its, rv, hl, _⟩ := I.tuple hs
  rw [Vals.ref1 r]
  obtain ⟨u1, u2, rfl, ⟨t1, rfl⟩, ⟨t2, rfl⟩⟩ := vals2 rv
  refine PySem.W.min_tuple_datum (α := Int) (x := i) (xs := [j]) (I.ok.hd hc) hl (PySem.W.HoldAll.cons (PySem.W.holds_int _ _) (PySem.W.HoldAll.cons (PySem.W.holds_int _ _) PySem.W.HoldAll.nil)) (by show X.A.units + 1 + 0 < cLine; omega) fun k v h' tk hk hv kp => ?_
  have J := I.kept (t' := tk) kp
  have hval : ∀ (n : Int) (t : Tok), v = .int n t → n = PySem.W.minOf i [j] := fun n t e => by
    subst e
    obtain ⟨as, rd⟩ := hv
    cases rd
    rfl
  have em : PySem.W.minOf i [j] = if j < i then j else i := by
    show (if PySem.W.DatumOrd.lt j i = true then j else i) = _
    by_cases c : j < i
    · rw [if_pos c, if_pos (by show decide (j < i) = true; exact decide_eq_true c)]
    · rw [if_neg c, if_neg (by show ¬ decide (j < i) = true; simpa using c)]
  obtain ⟨n, t, rfl⟩ : ∃ n t, v = Value.int n t := by
    match k, hk with
    | 0, hk => exact ⟨i, t1, (Option.some.inj hk).symm⟩
    | 1, hk => exact ⟨j, t2, (Option.some.inj hk).symm⟩
    | k + 2, hk => simp at hk
  have en := hval n t rfl
  rw [em] at en
  exact ⟨.int n, H, J, ⟨t, rfl⟩, by rw [en]; exact q⟩
end L2

namespace L2
open PySem PySem.Spec PyProof.Rows
/-! ### data: lists of ints, pairs of ints, lists of pairs -/
def dInts (xs : List Int) : PyData := .list (xs.map PyData.int)
def dPr (p : Int × Int) : PyData := .tuple [.int p.1, .int p.2]
def dPrs (ps : List (Int × Int)) : PyData := .list (ps.map dPr)
theorem dpa_ints {K : PySem.W.Frag} {H : Hp} : ∀ xs : List Int, DpAll K H (xs.map V.int) (xs.map PyData.int)
  | [] => .nil
  | x :: xs => .cons (.int x) (dpa_ints xs)
theorem dp_ints {K : PySem.W.Frag} {H : Hp} {a : Addr} {xs : List Int} (h : SqL K H a (xs.map V.int)) : Dp K H (.ref a) (dInts xs) := .lst h (dpa_ints xs)
theorem dp_pr {K : PySem.W.Frag} {H : Hp} {t : Addr} {p : Int × Int} (h : SqT K H t [.int p.1, .int p.2]) : Dp K H (.ref t) (dPr p) := .tup h (.cons (.int _) (.cons (.int _) .nil))
theorem dpa_prs {K : PySem.W.Frag} {H : Hp} : ∀ (ts : List Addr) (ps : List (Int × Int)), ts.length = ps.length → (∀ (k : Nat) (t : Addr) (p : Int × Int), ts[k]? = some t → ps[k]? = some p → SqT K H t [.int p.1, .int p.2]) → DpAll K H (ts.map V.ref) (ps.map dPr)
  | [], [], _, _ => .nil
  | t :: ts, p :: ps, hl, h => .cons (dp_pr (h 0 t p rfl rfl)) (dpa_prs ts ps (by simpa using hl) fun k t' p' a b => h (k + 1) t' p' a b)
  | [], _ :: _, hl, _ => by simp at hl
  | _ :: _, [], hl, _ => by simp at hl
theorem ints_lay : ∀ xs : List Int, PyData.canLayAll0 (xs.map PyData.int) = true
  | [] => by simp [PyData.canLayAll0]
  | x :: xs => by simp [PyData.canLayAll0, PyData.canLay0, ints_lay xs]
theorem ints_depth : ∀ xs : List Int, PyData.depthAll (xs.map PyData.int) ≤ 1
  | [] => by simp [PyData.depthAll]
  | x :: xs => by
    have := ints_depth xs
    simp only [List.map_cons, PyData.depthAll, PyData.depth]
    omega
theorem prs_lay : ∀ ps : List (Int × Int), PyData.canLayAll0 (ps.map dPr) = true
  | [] => by simp [PyData.canLayAll0]
  | p :: ps => by simp [PyData.canLayAll0, PyData.canLay0, dPr, prs_lay ps]
theorem pr_depth (p : Int × Int) : (dPr p).depth ≤ 2 := by simp [dPr, PyData.depth, PyData.depthAll]
theorem prs_depth : ∀ ps : List (Int × Int), PyData.depthAll (ps.map dPr) ≤ 2
  | [] => by simp [PyData.depthAll]
  | p :: ps => by
    have h1 := prs_depth ps
    have h2 := pr_depth p
    simp only [List.map_cons, PyData.depthAll]
    omega
theorem shaped_of {d : PyData} (h : d.canLay0 = true) (h2 : d.depth ≤ 64) : SeqAt.shaped d = true := by
  show (d.canLay0 && decide (d.depth ≤ 64)) = true
  rw [h, decide_eq_true h2]
  rfl
theorem ints_shaped (xs : List Int) : SeqAt.shaped (dInts xs) = true := shaped_of (by simp only [dInts, PyData.canLay0]; exact ints_lay xs) (by have := ints_depth xs; simp only [dInts, PyData.depth]; omega)
theorem pr_shaped (p : Int × Int) : SeqAt.shaped (dPr p) = true := shaped_of (by simp [dPr, PyData.canLay0, PyData.canLayAll0]) (by have := pr_depth p; omega)
theorem prs_shaped (ps : List (Int × Int)) : SeqAt.shaped (dPrs ps) = true := shaped_of (by simp only [dPrs, PyData.canLay0]; exact prs_lay ps) (by have := prs_depth ps; simp only [dPrs, PyData.depth]; omega)
theorem ints_eqvA : ∀ xs : List Int, PyData.eqvAll (xs.map PyData.int) (xs.map PyData.int) = true
  | [] => by simp [PyData.eqvAll]
  | x :: xs => by simp [PyData.eqvAll, PyData.eqv, ints_eqvA xs]
theorem ints_eqv (xs : List Int) : PyData.eqv (dInts xs) (dInts xs) = true := by simp only [dInts, PyData.eqv]; exact ints_eqvA xs
theorem pr_eqv (p q : Int × Int) : PyData.eqv (dPr p) (dPr q) = decide (p = q) := by
  obtain ⟨a, b⟩ := p
  obtain ⟨c, d⟩ := q
  have e : PyData.eqv (dPr (a, b)) (dPr (c, d)) = ((a == c) && ((b == d) && true)) := by simp only [dPr, PyData.eqv, PyData.eqvAll]
  rw [e]
  by_cases h1 : a = c
  · by_cases h2 : b = d
    · subst h1 h2
      simp
    · simp [h2]
  · simp [h1]
theorem prs_eqvA : ∀ ps : List (Int × Int), PyData.eqvAll (ps.map dPr) (ps.map dPr) = true
  | [] => by simp [PyData.eqvAll]
  | p :: ps => by
    simp only [List.map_cons, PyData.eqvAll, prs_eqvA ps, pr_eqv]
    simp
theorem prs_eqv (ps : List (Int × Int)) : PyData.eqv (dPrs ps) (dPrs ps) = true := by simp only [dPrs, PyData.eqv]; exact prs_eqvA ps
theorem any_pr (ps : List (Int × Int)) (p : Int × Int) : ((ps.map dPr).any fun z => PyData.eqv z (dPr p)) = decide (p ∈ ps) := by
  induction ps with
  | nil => rfl
  | cons q ps ih =>
    rw [List.map_cons, List.any_cons, ih, pr_eqv]
    by_cases c : q = p
    · subst c; simp
    · simp [c, Ne.symm c]
end L2

/-! # Own layer: defs whose promise is kept where no repr is under way (the law's own call is such a place): repr of lists and tuples -/
namespace L2
open PySem PySem.Spec PyProof.Rows
/-- as FnOk, but for calls with no repr under way -/
structure FnG (P : Program) (w : World) (K : PySem.W.Frag) (mg : Str → Option Value) (base : Heap) (CX : CXT) (k : Nat) (f : Addr) (fd : FuncData) (ps : List Str) (sp : Sp) : Prop where
  many : ∀ vs H Q E, sp vs H Q E → vs.length = ps.length
  go : ∀ (B : Around) (out : List Env) (z : Shared) (H : Hp) (ar : Args) (us : List Value) (vs : List V) (Q : VK) (E : XK), Room k B → B.guards = some [] → Env0 P w K mg base B out z H → BindsTo z fd ar (ps.zip us) →
    Vals vs us → sp vs H Q E → codeAny (model P w) B (.call (.ref f) ar) (CR CX out P w H z Q E) z
theorem FnOk.g {P : Program} {w : World} {K : PySem.W.Frag} {mg : Str → Option Value} {base : Heap} {CX : CXT} {k : Nat} {f : Addr} {fd : FuncData} {ps : List Str} {sp : Sp} (F : FnOk P w K mg base CX k f fd ps sp) : FnG P w K mg base CX k f fd ps sp :=
  ⟨F.len, fun B out z H ar us vs Q E hr _ => F.run B out z H ar us vs Q E hr⟩
section
variable {P : Program} {w : World} {K : PySem.W.Frag} {mg : Str → Option Value} {base : Heap}
theorem fnG_mk {CX : CXT} {k : Nat} {x qual : Str} {st : Stmt} {f : Addr} {fd : FuncData} {N ps : List Str} {sp : Sp} (F : Fun K x qual st f fd) (S : FnScope N ps (defScope st)) (many : ∀ vs H Q E, sp vs H Q E → vs.length = ps.length)
    (body : ∀ (cdv : Value) (B : Around) (out : List Env) (z : Shared) (H : Hp) (vs : List V) (Q : VK) (E : XK), Room k (B.deeper (envOfC qual (defScope st) z.heap.objs.size f cdv)) → B.guards = some [] → sp vs H Q E →
      ∃ t, PSs (cxOf CX P w K mg base N qual (defScope st) f cdv B out z H E) (defBody st) t ∧ t { nx := fun _ H' => Q .non H', rt := Q } (start N vs) H) : FnG P w K mg base CX (k + 1) f fd ps sp := by
  obtain ⟨oc, od, kV, doc, pm, an, cdv, ct, osl, rfl, look, code⟩ := F.ex
  refine ⟨many, fun B out z H ar us vs Q E room hg e0 bind vals prom => ?_⟩
  have nvs := many vs H Q E prom
  have kin : K.In z.heap := e0.mod.kin.keeps fun c o hc => (e0.bs c o hc).1
  have nolim : z.heap.NoLimit := e0.mod.nolimit.keeps fun c o hc => (e0.bs c o hc).1
  refine codeAny_call_function room.depth (kin _ _ look) rfl S.co S.gen rfl (PySem.W.codeRec_of kin code) (bind _ _ _ _ ?_)
  refine wpAny_newFunctionEnv_cells S.kind (fun ⟨n, u⟩ hy => (S.par n (List.of_mem_zip hy).1).imp id fun q => ⟨q, PySem.W.cellsFrom_some _ _ _ (.inl q)⟩) fun env he z1 inside => ?_
  subst he
  refine ⟨nolim.keeps inside.toInCall.keep, codeAny_func ?_⟩
  obtain ⟨t, tree, wish⟩ := body cdv B out z H vs Q E (room.deeper _) hg prom
  have I0 := inv_start (CX := CX) (E := E) (qual := qual) (f := f) (cd := cdv) S room.hd e0 nvs vals inside
  refine wpAny_mono (tree.run [] z1 (start N vs) H _ I0 wish) (fun fl z2 hs => ?_) fun e z2 hs => hs
  match fl, hs with
  | .ret u, ⟨v, _, H2, J, rv, q⟩ => exact ⟨v, H2, J.os, J.bare, J.base, J.hok, rv, q⟩
  | .next, ⟨_, H2, J, q⟩ => exact ⟨V.non, H2, J.os, J.bare, J.base, J.hok, rfl, q⟩
  | .brk, ⟨_, _, _, q⟩ => exact q.elim
  | .cont, ⟨_, _, _, q⟩ => exact q.elim
/-- a def that raises nothing -/
theorem Fun.okG {k : Nat} {x qual : Str} {st : Stmt} {f : Addr} {fd : FuncData} {N ps : List Str} {sp : Sp} (F : Fun K x qual st f fd) (S : FnScope N ps (defScope st)) (many : ∀ vs H Q E, sp vs H Q E → vs.length = ps.length)
    (body : ∀ (cdv : Value) (A : Around) (outer : List Env) (s : Shared) (H : Hp) (vs : List V) (Q : VK) (E : XK), Room k (A.deeper (envOfC qual (defScope st) s.heap.objs.size f cdv)) → A.guards = some [] → sp vs H Q E →
      ∃ t, PSs (cxOf CX0 P w K mg base N qual (defScope st) f cdv A outer s H E).nox (defBody st) t ∧ t { nx := fun _ H' => Q .non H', rt := Q } (start N vs) H) : FnG P w K mg base CX0 (k + 1) f fd ps sp :=
  fnG_mk F S many fun cdv A outer s H vs Q E hr hg hsp => by
    obtain ⟨t, h, q⟩ := body cdv A outer s H vs Q E hr hg hsp
    exact ⟨t, h.nox, q⟩
end
/-- such a def, bundled by its name -/
def FnGB (P : Program) (w : World) (K : PySem.W.Frag) (mg : Str → Option Value) (base : Heap) (CX : CXT) (k : Nat) (x : Str) (ps : List Str) (sp : Sp) : Prop :=
  ∃ (f : Addr) (fd : FuncData), FnG P w K mg base CX k f fd ps sp ∧ mg x = some (.ref f) ∧ PySem.W.keepIn K (.ref f) = true ∧ Binds K fd ps []
section
variable {X : Cx} {CX : CXT} {k : Nat} {ps : List Str} {sp : Sp} {E : XK} {x : Str} {p pos : Pos} {e : Expr} {es : List Expr} {t : TA}
theorem pe_callG (F : FnGB X.prog X.w X.K X.mg X.base CX k x ps sp) (hr : Room k X.A) (hgu : X.A.guards = some []) (hg : Gl X x) (hx : Passes CX X E)
    (ha : PA X (e :: es) t) (hdb : (x == ("__debug__" : Str)) = false := by decide) (he : starEach (e :: es) X.env = (false, eval e X.env) :: starEach es X.env := by rfl) (hpl : (backTo pos (starEach es X.env)).any (·.1) = false := by rfl) :
    PE X (.Call (.Name x p) (e :: es) [] pos) (tCall sp [] E t) := by
  obtain ⟨f, fd, F, hm, hk, hb⟩ := F
  refine ⟨fun pins s σ H Q I h => wpAny_Call_Name_kw (ld_glob I hg hm ?_ hdb)⟩
  refine PySem.W.callWith_K (h₀ := X.base) I.ok.mod.kin hk (thn (ha.run pos pins s σ H _ I h) fun us s1 hh => ?_) he hpl
  obtain ⟨vs, H1, J, r, q⟩ := hh
  rw [List.append_nil] at q
  refine ⟨J.kIn, wpAny_call (codeAny_mono (F.go X.A X.stack s1 H1 ⟨us, []⟩ us vs Q E hr hgu J.env0 ?_ r q) fun res s2 done => ?_)⟩
  · have := hb s1 us J.kIn (by rw [List.append_nil, ← r.length]; exact F.many _ _ _ _ q)
    rwa [List.append_nil] at this
  · match res, done with
    | .error e, h => exact hx pins σ H1 s1 e s2 J h
    | .ok (.ret u), h => exact J.after h
/-- repr(x), x a list or a tuple of data -/
def rReprD (K : PySem.W.Frag) : List V → Hp → VK → Prop := fun xs H Q => ∃ (a : Addr) (d : PyData), xs = [.ref a] ∧ Dp K H (.ref a) d ∧ SeqAt.shaped d = true ∧ d.showable = true ∧ d.shown.length ≤ sizeLine ∧ Q (.str d.shown) H
theorem cr_reprD (hgu : X.A.guards = some []) (hu : X.A.units + 66 < cLine) : CallR X (.builtin "repr") (rReprD X.K) := by
  intro pins s σ H xs us Q I r h
  obtain ⟨a, d, rfl, hd, sd, hs, hz, q⟩ := h
  match us, r with
  | [u], .cons (rx : u = Value.ref a) .nil =>
    subst rx
    obtain ⟨as, rd⟩ := Dp.reads I d (.ref a) (.ref a) hd rfl
    have dep := SeqAt.depth_of_shaped sd
    refine repr_of_reads' rd hs (PyData.noDict_hsm (PyData.hasDict_of_canLay d (SeqAt.canLay_of_shaped sd))) hgu (by omega) (fun _ _ z => z) (fun h' u tk kp => ?_) hz
    exact ⟨.str d.shown, H, I.kept kp, ⟨u, rfl⟩, q⟩
end

/-- the head: the law's def called with the script, no repr under way -/
theorem law_callG {P : Program} {w : World} {K : PySem.W.Frag} {mg mb : Str → Option Value} {k : Nat} {fa a : Addr} {fd : FuncData} {x : Str} {sp : Sp} {z : Shared} {us : List Value} {ns : List Int}
    (kin : K.In z.heap) (glob : z.heap.Ns mainGlobals mg) (blt : z.heap.Ns builtinsNs mb) (bbb : ∀ x : Str, x ≠ "__name__" → mb x = bootBuiltins x) (nolim : z.heap.NoLimit) (gens : z.gens = #[])
    (obj : z.heap.get? a = some { cls := .type "list", data := .seq us.toArray }) (inty : IntsAre us ns) (short : ns.length ≤ sizeLine) (room : Room k callerA)
    (F : ∀ base : Heap, K.In base → base.Ns mainGlobals mg → FnG P w K mg base CX0 k fa fd [x] sp) (bind : ∀ (s : Shared) (u : Value), BindsTo s fd ⟨[u], []⟩ [(x, u)])
    (prom : ∀ H : Hp, Only H → SqL K H a (ns.map V.int) → sp [.ref a] H (fun v _ => v = .bl true) fun _ _ _ => False) :
    codeAny (model P w) callerA (.call (.ref fa) ⟨[.ref a], []⟩) (fun r s' => r = .ok (.ret (.bool true)) ∧ OldK z.heap s'.heap ∧ s'.os = z.os ∧ AllBare s'.gens) z := by
  have vals := vals_ints inty
  -- what is tracked: the script, if the written part does not hold it
  obtain ⟨H, only, sq, hok, just, out⟩ : ∃ H : Hp, Only H ∧ SqL K H a (ns.map V.int) ∧ HOk P w H z.heap ∧ (∀ b o, H b = some o → b = a) ∧ (∀ o, H a = some o → K.lookup a = none) := by
    cases hk : K.lookup a with
    | some o =>
      have e := kin a o hk
      rw [obj] at e
      cases e
      exact ⟨fun _ => none, fun _ => .inl rfl, .inr ⟨_, us.toArray, _, hk, rfl, rfl, rfl, by rw [List.size_toArray, inty.length]; exact short, vals⟩, (fun b u hb => nomatch (show (none : Option HO) = some u from hb)), (fun b o hb => nomatch (show (none : Option HO) = some o from hb)), (fun o hb => nomatch (show (none : Option HO) = some o from hb))⟩
    | none =>
      have it : ∀ {b : Addr} {o : HO}, (if b = a then some (HO.frz { cls := .type "list", data := .seq us.toArray } (.lst (ns.map V.int))) else none) = some o → b = a ∧ o = HO.frz { cls := .type "list", data := .seq us.toArray } (.lst (ns.map V.int)) := fun {b o} hb => by
        by_cases c : b = a
        · rw [if_pos c] at hb
          exact ⟨c, (Option.some.inj hb).symm⟩
        · rw [if_neg c] at hb
          cases hb
      refine ⟨fun b => if b = a then some (.frz { cls := .type "list", data := .seq us.toArray } (.lst (ns.map V.int))) else none, fun b => ?_, .inl (.inr ⟨_, if_pos rfl⟩), fun b u hb => ?_, fun b o hb => (it hb).1, fun _ _ => rfl⟩
      · by_cases c : b = a
        · exact .inr ⟨_, _, if_pos c⟩
        · exact .inl (if_neg c)
      · obtain ⟨rfl, rfl⟩ := it hb
        exact ⟨obj, by rw [List.length_map]; exact short, us, _, vals, obj⟩
  have stays : ∀ {b : Addr} {o : Obj}, z.heap.get? b = some o → H b = none → (hidT z.heap H).get? b = some o := fun e n => hidT_get e n
  have kin2 : K.In (hidT z.heap H) := fun b o e => stays (kin b o e) (by
    cases q : H b with
    | none => rfl
    | some u =>
      have eb := just b u q
      subst eb
      rw [out u q] at e
      cases e)
  have ns2 : ∀ {b : Addr} {m : Str → Option Value}, z.heap.Ns b m → (hidT z.heap H).Ns b m := fun {b m} hn => by
    obtain ⟨o, es, ep, e, d, r⟩ := hn
    refine ⟨o, es, ep, stays e ?_, d, r⟩
    cases q : H b with
    | none => rfl
    | some u =>
      have eb := just b u q
      subst eb
      rw [obj] at e
      cases e
      have d2 : Data.seq us.toArray _ = Data.dict es ep := d
      cases d2
  obtain ⟨mc, l1, l2⟩ := nolim
  have e0 : Env0 P w K mg (hidT z.heap H) callerA [] z H :=
    { frames := rfl, mod := ⟨kin2, ns2 glob, ⟨mb, ns2 blt, bbb⟩, ⟨mc, ns2 l1, l2⟩⟩, bs := fun b o e => of_hidT e, bsz := Nat.le_of_eq (hidT_size _ _), funs := trivial, frf := fun b hb => (List.not_mem_nil hb).elim, hok := hok, bare := .of_eq gens }
  refine codeAny_mono ((F _ kin2 (ns2 glob)).go callerA [] z H ⟨[.ref a], []⟩ [.ref a] [.ref a] _ _ room rfl e0 (bind z (.ref a)) (.cons rfl .nil) (prom H only sq)) fun res s' done => ?_
  match res, done with
  | .error e, h => exact h.elim
  | .ok (.ret u), ⟨v, H', os, bare, un, hok', rv, q⟩ =>
    obtain rfl : v = .bl true := q
    obtain rfl : u = Value.bool true := rv
    refine ⟨rfl, OldK.of_keep fun b o e => ?_, os, bare⟩
    cases q : H b with
    | none => exact un.keep b o e q (fun h => (List.not_mem_nil h).elim) (fun h => (List.not_mem_nil h).elim)
    | some u =>
      rcases only b with n | ⟨ob, xs, n⟩
      · rw [q] at n
        cases n
      · obtain ⟨e1, _⟩ := hok b _ n
        rw [e] at e1
        cases e1
        obtain ⟨e2, _⟩ := hok' b _ (un.frzs b o _ n)
        exact e2
theorem walk_ofG {l : PySem.W.OpenLaw} {n k : Nat} {q : Program} {loose : List Str} {XP : (Str → Option Value) → Heap → Prop} {YP : World → Heap → Prop} {d : DefRec} {K : Params → PySem.W.Frag} {sp : PySem.W.Frag → Sp} {x : Str}
    (most : l.most = some n) (short : n ≤ sizeLine) (dfl : d.params.defaults = []) (room : Room k callerA) (kin : ∀ (w : World) (h : Heap), YP w h → (K w.params).In h)
    (F : ∀ (w : World) (mg : Str → Option Value) (fa : Addr) (h : Heap), (K w.params).In h → h.Ns mainGlobals mg → mg d.name = some (.ref fa) →
      ∃ fd : FuncData, (∀ (s : Shared) (u : Value), BindsTo s fd ⟨[u], []⟩ [(x, u)]) ∧ ∀ base : Heap, (K w.params).In base → base.Ns mainGlobals mg → FnG l.prog w (K w.params) mg base CX0 k fa fd [x] (sp (K w.params)))
    (prom : ∀ (K : PySem.W.Frag) (H : Hp) (a : Addr) (ns : List Int), ns.length ≤ n → SqL K H a (ns.map V.int) → sp K [.ref a] H (fun v _ => v = .bl true) fun _ _ _ => False) :
    PySem.W.WalkO q loose XP YP l.row.toRowW d [] (fun f vs => PySem.call f vs) := by
  refine Att.attach_call most dfl fun w s0 s1 mg mb fa o pm cd doc a vs ns G Y ho hd hcd hmg hobj hints hlen hg => ?_
  obtain ⟨fd, bind, hF⟩ := F w mg fa _ (kin w _ Y) G.T.g hmg
  exact law_callG (kin w _ Y) G.T.g G.T.b G.T.builtins G.T.nolimit hg hobj hints (Nat.le_trans hlen short) room hF bind fun H _ hS => prom _ H a ns hlen hS
end L2

/-! # Lines of words: what a split by line feeds and spaces tells, and what one look through the signs tells. Plain Lean -/
namespace Lns
/-- split at the sign c, acc the part under way -/
def spA (c : Nat) : List Nat → List Nat → List (List Nat)
  | acc, [] => [acc]
  | acc, a :: r => if a = c then acc :: spA c [] r else spA c (acc ++ [a]) r
def okS (a : Nat) : Bool := decide (33 ≤ a) && decide (a ≤ 126)
def okW (w : List Nat) : Bool := (!w.isEmpty) && w.all okS
def wordsOf (l : List Nat) : Option (List (List Nat)) := if (spA 32 [] l).all okW = true then some (spA 32 [] l) else none
abbrev Rows := List (List (List Nat))
def goP : List (List Nat) → Rows → Nat × Rows
  | [], rows => (0, rows)
  | [l], rows => (if l = [] then 0 else rows.length + 1, rows)
  | l :: m :: ls, rows => match wordsOf l with
    | none => (rows.length + 1, rows)
    | some ws => goP (m :: ls) (rows ++ [ws])
def prog (t : List Nat) : Nat × Rows := goP (spA 10 [] t) []
def scan : List Nat → Rows → List (List Nat) → List Nat → Bool → Nat × Rows
  | [], rows, _, _, st => (if st = true then rows.length + 1 else 0, rows)
  | a :: r, rows, ws, w, _ =>
    if a = 32 ∨ a = 10 then
      if w = [] then (rows.length + 1, rows)
      else if a = 10 then scan r (rows ++ [ws ++ [w]]) [] [] false else scan r rows (ws ++ [w]) [] true
    else if okS a = true then scan r rows ws (w ++ [a]) true else (rows.length + 1, rows)
theorem spA_hit (c : Nat) (acc r : List Nat) : spA c acc (c :: r) = acc :: spA c [] r := by rw [spA, if_pos rfl]
theorem spA_miss {c a : Nat} (acc r : List Nat) (h : a ≠ c) : spA c acc (a :: r) = spA c (acc ++ [a]) r := by rw [spA, if_neg h]
theorem spA_ne (c : Nat) : ∀ (l acc : List Nat), spA c acc l ≠ []
  | [], acc => by simp [spA]
  | a :: r, acc => by
    by_cases h : a = c
    · rw [h, spA_hit]
      simp
    · rw [spA_miss _ _ h]
      exact spA_ne c r _
theorem spA_app (c : Nat) : ∀ (p acc s : List Nat) (ws : List (List Nat)) (w : List Nat), spA c acc p = ws ++ [w] → spA c acc (p ++ s) = ws ++ spA c w s
  | [], acc, s, ws, w, h => by
    have h' : [acc] = ws ++ [w] := h
    cases ws with
    | nil =>
      have e : acc = w := by simpa using h'
      rw [e]
      rfl
    | cons x xs => simp at h'
  | a :: p, acc, s, ws, w, h => by
    rw [List.cons_append]
    by_cases e : a = c
    · rw [e, spA_hit] at h
      rw [e, spA_hit]
      cases ws with
      | nil =>
        have e2 : acc = w ∧ spA c [] p = [] := by simpa using h
        exact absurd e2.2 (spA_ne c p [])
      | cons x xs =>
        have e2 : acc = x ∧ spA c [] p = xs ++ [w] := by simpa using h
        rw [spA_app c p [] s xs w e2.2, e2.1]
        rfl
    · rw [spA_miss _ _ e] at h
      rw [spA_miss _ _ e]
      exact spA_app c p _ s ws w h
theorem spA_head (c : Nat) : ∀ (s acc : List Nat), ∃ t r, spA c acc s = (acc ++ t) :: r
  | [], acc => ⟨[], [], by simp [spA]⟩
  | a :: s, acc => by
    by_cases e : a = c
    · exact ⟨[], spA c [] s, by rw [e, spA_hit]; simp⟩
    · obtain ⟨t, r, h⟩ := spA_head c s (acc ++ [a])
      exact ⟨a :: t, r, by rw [spA_miss _ _ e, h]; simp⟩
/-- no text that begins so is a line of words -/
def Bad (q : List Nat) : Prop := ∀ s, (spA 32 [] (q ++ s)).all okW = false
theorem Bad.more {q : List Nat} (h : Bad q) (a : Nat) : Bad (q ++ [a]) := fun s => by
  rw [List.append_assoc]
  exact h _
theorem goP_bad : ∀ (r q : List Nat) (rows : Rows), Bad q → q ≠ [] → goP (spA 10 q r) rows = (rows.length + 1, rows)
  | [], q, rows, _, hq => by
    show goP [q] rows = _
    unfold goP
    rw [if_neg hq]
  | a :: r, q, rows, hb, hq => by
    by_cases c : a = 10
    · rw [c, spA_hit]
      cases hr : spA 10 [] r with
      | nil => exact absurd hr (spA_ne 10 r [])
      | cons m ls =>
        have e : wordsOf q = none := by
          unfold wordsOf
          have := hb []
          rw [List.append_nil] at this
          rw [this]
          rfl
        show goP (q :: m :: ls) rows = _
        unfold goP
        rw [e]
    · rw [spA_miss _ _ c]
      exact goP_bad r _ rows (hb.more a) (by simp)
theorem scan_go : ∀ (t : List Nat) (rows : Rows) (ws : List (List Nat)) (w : List Nat) (p : List Nat), spA 32 [] p = ws ++ [w] → ws.all okW = true → w.all okS = true →
    scan t rows ws w (!p.isEmpty) = goP (spA 10 p t) rows
  | [], rows, ws, w, p, h, h1, h2 => by
    show (if (!p.isEmpty) = true then rows.length + 1 else 0, rows) = goP [p] rows
    unfold goP
    cases p with
    | nil => rfl
    | cons a p => rfl
  | a :: r, rows, ws, w, p, h, h1, h2 => by
    have badw : a = 32 ∨ a = 10 → w = [] → a ≠ 10 → Bad (p ++ [a]) := fun c hw ne s => by
      have a32 : a = 32 := by omega
      rw [List.append_assoc, spA_app 32 p [] _ ws w h, hw, a32]
      show (ws ++ spA 32 [] (32 :: s)).all okW = false
      rw [spA_hit, List.all_append, List.all_cons]
      have : okW [] = false := rfl
      rw [this, Bool.false_and, Bool.and_false]
    unfold scan
    by_cases c : a = 32 ∨ a = 10
    · rw [if_pos c]
      by_cases hw : w = []
      · rw [if_pos hw]
        by_cases c10 : a = 10
        · rw [c10, spA_hit]
          cases hr : spA 10 [] r with
          | nil => exact absurd hr (spA_ne 10 r [])
          | cons m ls =>
            have e : wordsOf p = none := by
              unfold wordsOf
              rw [h, List.all_append, hw]
              have : [([] : List Nat)].all okW = false := rfl
              rw [this, Bool.and_false]
              rfl
            unfold goP
            rw [e]
        · rw [spA_miss _ _ c10]
          exact (goP_bad r _ rows (badw c hw c10) (by simp)).symm
      · rw [if_neg hw]
        have hwW : okW w = true := by
          unfold okW
          rw [h2]
          cases w with
          | nil => exact absurd rfl hw
          | cons x y => rfl
        by_cases c10 : a = 10
        · rw [if_pos c10, c10, spA_hit]
          cases hr : spA 10 [] r with
          | nil => exact absurd hr (spA_ne 10 r [])
          | cons m ls =>
            have e : wordsOf p = some (ws ++ [w]) := by
              unfold wordsOf
              rw [h, List.all_append, h1, List.all_cons, hwW]
              rfl
            have ih := scan_go r (rows ++ [ws ++ [w]]) [] [] [] rfl rfl rfl
            rw [hr] at ih
            unfold goP
            rw [e]
            exact ih
        · have a32 : a = 32 := by omega
          rw [if_neg c10, spA_miss _ _ c10]
          have ih := scan_go r rows (ws ++ [w]) [] (p ++ [a]) (by
            rw [spA_app 32 p [] _ ws w h, a32]
            show ws ++ spA 32 w [32] = _
            rw [spA_hit]
            simp [spA]) (by rw [List.all_append, h1, List.all_cons, hwW]; rfl) rfl
          rw [← ih]
          congr 1
          cases p <;> rfl
    · have n10 : a ≠ 10 := fun e => c (.inr e)
      have n32 : a ≠ 32 := fun e => c (.inl e)
      rw [if_neg c, spA_miss _ _ n10]
      by_cases ok : okS a = true
      · rw [if_pos ok]
        have ih := scan_go r rows ws (w ++ [a]) (p ++ [a]) (by
          rw [spA_app 32 p [] _ ws w h, spA_miss _ _ n32]
          rfl) h1 (by rw [List.all_append, h2, List.all_cons, ok]; rfl)
        rw [← ih]
        congr 1
        cases p <;> rfl
      · rw [if_neg ok]
        refine (goP_bad r _ rows (fun s => ?_) (by simp)).symm
        rw [List.append_assoc, spA_app 32 p [] _ ws w h]
        show (ws ++ spA 32 w (a :: s)).all okW = false
        rw [spA_miss _ _ n32]
        obtain ⟨t, r2, e⟩ := spA_head 32 s (w ++ [a])
        rw [e, List.all_append, List.all_cons]
        have : okW (w ++ [a] ++ t) = false := by
          unfold okW
          rw [List.all_append, List.all_append, List.all_cons]
          have : okS a = false := by simpa using ok
          rw [this]
          simp
        rw [this, Bool.false_and, Bool.and_false]
theorem scan_prog (t : List Nat) : scan t [] [] [] false = prog t := scan_go t [] [] [] [] rfl rfl rfl
/-- what the words of the rows weigh -/
def wsum (ws : List (List Nat)) : Nat := (ws.map fun w => w.length + 1).sum
def rsum (rows : Rows) : Nat := (rows.map fun ws => wsum ws + 1).sum
theorem wsum_snoc (ws : List (List Nat)) (w : List Nat) : wsum (ws ++ [w]) = wsum ws + w.length + 1 := by
  simp [wsum, Nat.add_assoc]
theorem rsum_snoc (rows : Rows) (ws : List (List Nat)) : rsum (rows ++ [ws]) = rsum rows + wsum ws + 1 := by
  simp [rsum, Nat.add_assoc]
theorem scan_sum : ∀ (t : List Nat) (rows : Rows) (ws : List (List Nat)) (w : List Nat) (st : Bool), rsum (scan t rows ws w st).2 ≤ rsum rows + 2 * (wsum ws + w.length + t.length)
  | [], rows, ws, w, st => by
    show rsum rows ≤ _
    omega
  | a :: r, rows, ws, w, st => by
    unfold scan
    by_cases c : a = 32 ∨ a = 10
    · rw [if_pos c]
      by_cases hw : w = []
      · rw [if_pos hw]
        show rsum rows ≤ _
        omega
      · rw [if_neg hw]
        by_cases c10 : a = 10
        · rw [if_pos c10]
          have ih := scan_sum r (rows ++ [ws ++ [w]]) [] [] false
          rw [rsum_snoc, wsum_snoc] at ih
          have e : wsum [] = 0 := rfl
          rw [e] at ih
          simp only [List.length_nil, List.length_cons] at ih ⊢
          omega
        · rw [if_neg c10]
          have ih := scan_sum r rows (ws ++ [w]) [] true
          rw [wsum_snoc] at ih
          simp only [List.length_nil, List.length_cons] at ih ⊢
          omega
    · rw [if_neg c]
      by_cases ok : okS a = true
      · rw [if_pos ok]
        have ih := scan_sum r rows ws (w ++ [a]) true
        rw [List.length_append, List.length_singleton] at ih
        simp only [List.length_cons] at ih ⊢
        omega
      · rw [if_neg ok]
        show rsum rows ≤ _
        omega
def okR (rows : Rows) : Prop := ∀ ws ∈ rows, ∀ w ∈ ws, ∀ c ∈ w, c < 128
theorem ok_lt {a : Nat} (h : okS a = true) : a < 128 := by
  unfold okS at h
  simp at h
  omega
theorem scan_okR : ∀ (t : List Nat) (rows : Rows) (ws : List (List Nat)) (w : List Nat) (st : Bool), okR rows → (∀ v ∈ ws, ∀ c ∈ v, c < 128) → (∀ c ∈ w, c < 128) → okR (scan t rows ws w st).2
  | [], rows, ws, w, st, h, _, _ => h
  | a :: r, rows, ws, w, st, h, h1, h2 => by
    have h3 : ∀ v ∈ ws ++ [w], ∀ c ∈ v, c < 128 := fun v hv => by
      rcases List.mem_append.mp hv with z | z
      · exact h1 v z
      · have : v = w := by simpa using z
        rw [this]
        exact h2
    unfold scan
    by_cases c : a = 32 ∨ a = 10
    · rw [if_pos c]
      by_cases hw : w = []
      · rw [if_pos hw]
        exact h
      · rw [if_neg hw]
        by_cases c10 : a = 10
        · rw [if_pos c10]
          refine scan_okR r _ [] [] false (fun v hv => ?_) (fun v hv => by simp at hv) (fun c hc => by simp at hc)
          rcases List.mem_append.mp hv with z | z
          · exact h v z
          · have : v = ws ++ [w] := by simpa using z
            rw [this]
            exact h3
        · rw [if_neg c10]
          exact scan_okR r rows _ [] true h h3 (fun c hc => by simp at hc)
    · rw [if_neg c]
      by_cases ok : okS a = true
      · rw [if_pos ok]
        refine scan_okR r rows ws _ true h h1 fun c hc => ?_
        rcases List.mem_append.mp hc with z | z
        · exact h2 c z
        · have : c = a := by simpa using z
          rw [this]
          exact ok_lt ok
      · rw [if_neg ok]
        exact h
theorem prog_sum (t : List Nat) : rsum (prog t).2 ≤ 2 * t.length := by
  rw [← scan_prog]
  have := scan_sum t [] [] [] false
  have e1 : rsum [] = 0 := rfl
  have e2 : wsum [] = 0 := rfl
  rw [e1, e2] at this
  simp at this
  omega
theorem prog_ok (t : List Nat) : okR (prog t).2 := by
  rw [← scan_prog]
  exact scan_okR t [] [] [] false (fun v hv => by simp at hv) (fun v hv => by simp at hv) (fun c hc => by simp at hc)
theorem spA_len (c : Nat) : ∀ (l acc : List Nat), (spA c acc l).length ≤ l.length + 1
  | [], acc => by simp [spA]
  | a :: r, acc => by
    by_cases h : a = c
    · rw [h, spA_hit]
      have := spA_len c r []
      simp only [List.length_cons]
      omega
    · rw [spA_miss _ _ h]
      have := spA_len c r (acc ++ [a])
      simp only [List.length_cons]
      omega
theorem spA_mem (c : Nat) : ∀ (l acc : List Nat), ∀ w ∈ spA c acc l, w.length ≤ acc.length + l.length
  | [], acc, w, h => by
    have : w = acc := by simpa [spA] using h
    rw [this]
    simp
  | a :: r, acc, w, h => by
    by_cases e : a = c
    · rw [e, spA_hit] at h
      rcases List.mem_cons.mp h with z | z
      · rw [z]
        omega
      · have := spA_mem c r [] w z
        simp only [List.length_nil, List.length_cons] at this ⊢
        omega
    · rw [spA_miss _ _ e] at h
      have := spA_mem c r (acc ++ [a]) w h
      simp only [List.length_append, List.length_singleton, List.length_cons, List.length_nil] at this ⊢
      omega
theorem goP_step {L : List (List Nat)} {i : Nat} {rows : Rows} (h : i + 1 < L.length) : goP (L.drop i) rows = match wordsOf (L.getD i []) with
    | none => (rows.length + 1, rows)
    | some ws => goP (L.drop (i + 1)) (rows ++ [ws]) := by
  rw [List.drop_eq_getElem_cons (show i < L.length by omega), List.drop_eq_getElem_cons h]
  have e : L.getD i [] = L[i]'(by omega) := by rw [List.getD_eq_getElem?_getD, List.getElem?_eq_getElem (by omega)]; rfl
  rw [e]
  rfl
theorem goP_last {L : List (List Nat)} {i : Nat} {rows : Rows} (h : i + 1 = L.length) : goP (L.drop i) rows = (if L.getD i [] = [] then 0 else rows.length + 1, rows) := by
  rw [List.drop_eq_getElem_cons (show i < L.length by omega), h, List.drop_length]
  have e : L.getD i [] = L[i]'(by omega) := by rw [List.getD_eq_getElem?_getD, List.getElem?_eq_getElem (by omega)]; rfl
  rw [e]
  rfl
theorem scan_nil (rows : Rows) (ws : List (List Nat)) (w : List Nat) (st : Bool) : scan [] rows ws w st = (if st = true then rows.length + 1 else 0, rows) := rfl
theorem scan_cons (a : Nat) (r : List Nat) (rows : Rows) (ws : List (List Nat)) (w : List Nat) (st : Bool) : scan (a :: r) rows ws w st = if a = 32 ∨ a = 10 then
      if w = [] then (rows.length + 1, rows)
      else if a = 10 then scan r (rows ++ [ws ++ [w]]) [] [] false else scan r rows (ws ++ [w]) [] true
    else if okS a = true then scan r rows ws (w ++ [a]) true else (rows.length + 1, rows) := rfl
theorem rows_sum (rows : Rows) : rows.length ≤ rsum rows := by
  induction rows with
  | nil => exact Nat.le_refl _
  | cons v rows ih =>
    unfold rsum at ih ⊢
    simp only [List.map_cons, List.sum_cons, List.length_cons]
    omega
theorem scan_fst : ∀ (t : List Nat) (rows : Rows) (ws : List (List Nat)) (w : List Nat) (st : Bool), (scan t rows ws w st).1 ≤ (scan t rows ws w st).2.length + 1
  | [], rows, ws, w, st => by
    rw [scan_nil]
    show (if st = true then rows.length + 1 else 0) ≤ rows.length + 1
    split <;> omega
  | a :: r, rows, ws, w, st => by
    rw [scan_cons]
    split
    · split
      · exact Nat.le_refl _
      · split
        · exact scan_fst r _ _ _ _
        · exact scan_fst r _ _ _ _
    · split
      · exact scan_fst r _ _ _ _
      · exact Nat.le_refl _
theorem prog_le (t : List Nat) : (prog t).1 ≤ 2 * t.length + 1 := by
  have h1 := prog_sum t
  have h2 := rows_sum (prog t).2
  have h3 : (prog t).1 ≤ (prog t).2.length + 1 := by
    rw [← scan_prog]
    exact scan_fst t [] [] [] false
  omega
end Lns

/-! # Own layer: texts by their signs (lists of numbers) -/
namespace L2
open PySem PySem.Spec PyProof.Rows TL
def mk (l : List Nat) : Str := ⟨l.toArray⟩
abbrev vS (l : List Nat) : V := .str (mk l)
theorem tlm (l : List Nat) : tl (mk l) = l := rfl
theorem mkt (x : Str) : mk (tl x) = x := mk_tl x
theorem mk_inj {a b : List Nat} (h : mk a = mk b) : a = b := by
  have := congrArg tl h
  exact this
theorem mk_len (l : List Nat) : (mk l).length = l.length := by rw [len_tl]; rfl
theorem mk_app (a b : List Nat) : mk a ++ mk b = mk (a ++ b) := ext_tl (by rw [tl_append]; rfl)
theorem mk_lit (s : String) : Str.ofString s = mk (s.toList.map Char.toNat) := ext_tl (tl_ofString s)
theorem str_if {a b : List Nat} {A B : Prop} (h1 : a = b → A) (h2 : a ≠ b → B) : if decide (V.str (mk a) = V.str (mk b)) = true then A else B :=
  dec_iff (fun h => h1 (mk_inj (V.str.inj h))) fun h => h2 fun e => h (by rw [e])
theorem strn_if {a b : List Nat} {A B : Prop} (h1 : a ≠ b → A) (h2 : a = b → B) : if (!decide (V.str (mk a) = V.str (mk b))) = true then A else B :=
  not_if (fun h => h1 fun e => h (by rw [e])) fun h => h2 (mk_inj (V.str.inj h))
theorem lt1 (a b : Nat) : (([a] : List Nat) < [b]) ↔ a < b := by
  rw [List.cons_lt_cons_iff]
  simp
/-- a for over a text -/
theorem for_sgn {l : List Nat} {g : TG} {tb : TS} {D : Ends} {σ : L2.St} {H : Hp} (Pv : Nat → L2.St → Hp → Prop) (h0 : Pv 0 σ H)
    (hs : ∀ i c σ H, l[i]? = some c → Pv i σ H → g (.str (mk [c])) σ H fun σ2 H2 => tb { D with nx := Pv (i + 1), ct := Pv (i + 1), bk := D.nx } σ2 H2) (hd : ∀ σ H, Pv l.length σ H → D.nx σ H) :
    ∃ W : Nat → Nat → L2.St → Hp → Prop, (∃ m, W 0 m σ H) ∧ ∀ i m σ H, W i m σ H →
      ((Its (mk l)).stop i H ∧ D.nx σ H) ∨ ((Its (mk l)).go i H ∧ ∃ N : L2.St → Hp → Prop, (∀ σ' H', N σ' H' → ∃ m', m' < m ∧ W (i + 1) m' σ' H') ∧ ∀ x H', (Its (mk l)).yld i H x H' → g x σ H' fun σ2 H2 => tb { D with nx := N, ct := N, bk := D.nx } σ2 H2) := by
  have hz : (mk l).cps.size = l.length := by show l.toArray.size = _; simp
  refine for_it walk_str Pv h0 (fun _ _ _ _ _ => trivial) (fun i x σ H H' hi p y => ?_) (fun σ H p => hd σ H (by rw [← hz]; exact p))
  obtain ⟨rfl, c, hc, rfl⟩ := y
  exact hs i c σ _ (by have : l.toArray[i]? = some c := hc; simpa using this) p
theorem split_spA (x y : Str) (c : Nat) (hy : tl y = [c]) (hc : c < 256) : Txt.split x y = (Lns.spA c [] (tl x)).map mk := by
  have key : ∀ (l acc : List Nat), spl [c] 0 acc l = Lns.spA c acc l := by
    intro l
    induction l with
    | nil => intro acc; rw [spl_nil]; rfl
    | cons a r ih =>
      intro acc
      by_cases h : a = c
      · rw [h, Lns.spA_hit, spl_hit (by simp [pre])]
        exact congrArg (acc :: ·) (ih [])
      · rw [Lns.spA_miss _ _ h, spl_miss (by simp [pre, h])]
        exact ih _
  have hk : y.cps.all (· < 256) = true := by
    rw [← Array.all_toList]
    have : y.cps.toList = [c] := hy
    rw [this]
    simp [hc]
  have e := split_spl x y (by rw [hy]; simp) (kind_ok hk)
  rw [hy, key] at e
  rw [← e, List.map_map]
  have : (mk ∘ tl) = id := funext fun z => mkt z
  rw [this, List.map_id]
/-- short and of plain signs -/
def Tx (n : Nat) (l : List Nat) : Prop := l.length ≤ n ∧ ∀ c ∈ l, c < 128
theorem Tx.more {n m : Nat} {l : List Nat} (h : Tx n l) (le : n ≤ m) : Tx m l := ⟨Nat.le_trans h.1 le, h.2⟩
theorem Tx.app {n m : Nat} {a b : List Nat} (h : Tx n a) (g : Tx m b) : Tx (n + m) (a ++ b) :=
  ⟨by rw [List.length_append]; exact Nat.add_le_add h.1 g.1, fun c hc => by rcases List.mem_append.mp hc with z | z; exact h.2 c z; exact g.2 c z⟩
theorem Tx.nil : Tx 0 [] := ⟨Nat.le_refl _, fun c h => by simp at h⟩
/-- a slice of a text -/
theorem cut_mk (l : List Nat) (lo hi : Option Int) : ∃ l', cutS (mk l) lo hi = mk l' ∧ l'.length ≤ l.length ∧ ∀ c ∈ l', c ∈ l := by
  refine ⟨(l.drop (HT.sIx (mk l).length 0 lo)).take (HT.sIx (mk l).length (mk l).length hi - HT.sIx (mk l).length 0 lo), rfl, ?_, fun c hc => List.mem_of_mem_drop (List.mem_of_mem_take hc)⟩
  rw [List.length_take, List.length_drop]
  omega
theorem Tx.cut {n : Nat} {l l' : List Nat} (h : Tx n l) (hl : l'.length ≤ l.length) (hm : ∀ c ∈ l', c ∈ l) : Tx n l' := ⟨Nat.le_trans hl h.1, fun c hc => h.2 c (hm c hc)⟩

/-! ### rows of words as data -/
def dS (l : List Nat) : PyData := .str (mk l)
def dRow (ws : List (List Nat)) : PyData := .list (ws.map dS)
def dRows (rows : List (List (List Nat))) : PyData := .list (rows.map dRow)
theorem dpa_words {K : PySem.W.Frag} {H : Hp} : ∀ ws : List (List Nat), DpAll K H (ws.map vS) (ws.map dS)
  | [] => .nil
  | w :: ws => .cons (.str _) (dpa_words ws)
/-- at p: the list of these rows -/
def RowsAt (H : Hp) (p : Addr) (rows : List (List (List Nat))) : Prop :=
  ∃ rs : List Addr, H p = some (.lst (rs.map V.ref)) ∧ rs.length = rows.length ∧ ∀ (k : Nat) (r : Addr) (ws : List (List Nat)), rs[k]? = some r → rows[k]? = some ws → H r = some (.lst (ws.map vS))
theorem dpa_rows {K : PySem.W.Frag} {H : Hp} : ∀ (rs : List Addr) (rows : List (List (List Nat))), rs.length = rows.length → (∀ (k : Nat) (r : Addr) (ws : List (List Nat)), rs[k]? = some r → rows[k]? = some ws → H r = some (.lst (ws.map vS))) → DpAll K H (rs.map V.ref) (rows.map dRow)
  | [], [], _, _ => .nil
  | r :: rs, ws :: rows, hl, h => .cons (.lst (SqL.of (h 0 r ws rfl rfl)) (dpa_words ws)) (dpa_rows rs rows (by simpa using hl) fun k r' ws' a b => h (k + 1) r' ws' a b)
  | [], _ :: _, hl, _ => by simp at hl
  | _ :: _, [], hl, _ => by simp at hl
theorem dp_rows {K : PySem.W.Frag} {H : Hp} {p : Addr} {rows : List (List (List Nat))} (h : RowsAt H p rows) : Dp K H (.ref p) (dRows rows) := by
  obtain ⟨rs, h1, h2, h3⟩ := h
  exact .lst (SqL.of h1) (dpa_rows rs rows h2 h3)
theorem RowsAt.fr {H H' : Hp} {p : Addr} {rows : List (List (List Nat))} (h : RowsAt H p rows) (e : Fr [] H H') : RowsAt H' p rows := by
  obtain ⟨rs, h1, h2, h3⟩ := h
  exact ⟨rs, e _ _ h1 (by simp), h2, fun k r ws a b => e _ _ (h3 k r ws a b) (by simp)⟩
/-- all words of plain signs -/
def AscR (rows : List (List (List Nat))) : Prop := ∀ ws ∈ rows, ∀ w ∈ ws, ∀ c ∈ w, c < 128
theorem strOk_mk {l : List Nat} (h : ∀ c ∈ l, c < 128) : PyData.strOk (mk l) = true := by
  unfold PyData.strOk
  rw [← Array.all_toList, List.all_eq_true]
  intro c hc
  have := h c hc
  exact decide_eq_true (by omega)
theorem row_lay : ∀ ws : List (List Nat), (∀ w ∈ ws, ∀ c ∈ w, c < 128) → PyData.canLayAll0 (ws.map dS) = true
  | [], _ => by simp [PyData.canLayAll0]
  | w :: ws, h => by
    have h1 := strOk_mk (h w List.mem_cons_self)
    have h2 := row_lay ws fun v hv => h v (List.mem_cons_of_mem _ hv)
    simp [PyData.canLayAll0, dS, PyData.canLay0, h1]
    exact h2
theorem rows_lay : ∀ rows : List (List (List Nat)), AscR rows → PyData.canLayAll0 (rows.map dRow) = true
  | [], _ => by simp [PyData.canLayAll0]
  | ws :: rows, h => by
    have h1 := row_lay ws (h ws List.mem_cons_self)
    have h2 := rows_lay rows fun v hv => h v (List.mem_cons_of_mem _ hv)
    simp only [List.map_cons, PyData.canLayAll0, dRow, PyData.canLay0, h1, h2]
    rfl
theorem row_depth : ∀ ws : List (List Nat), PyData.depthAll (ws.map dS) ≤ 1
  | [] => by simp [PyData.depthAll]
  | w :: ws => by
    have := row_depth ws
    simp only [List.map_cons, PyData.depthAll, dS, PyData.depth]
    omega
theorem rows_depth : ∀ rows : List (List (List Nat)), PyData.depthAll (rows.map dRow) ≤ 2
  | [] => by simp [PyData.depthAll]
  | ws :: rows => by
    have h1 := rows_depth rows
    have h2 := row_depth ws
    simp only [List.map_cons, PyData.depthAll, dRow, PyData.depth]
    omega
theorem rows_shaped {rows : List (List (List Nat))} (h : AscR rows) : SeqAt.shaped (dRows rows) = true :=
  shaped_of (by simp only [dRows, PyData.canLay0]; exact rows_lay rows h) (by have := rows_depth rows; simp only [dRows, PyData.depth]; omega)
theorem row_show : ∀ ws : List (List Nat), PyData.showableAll (ws.map dS) = true
  | [] => by simp [PyData.showableAll]
  | w :: ws => by simp [PyData.showableAll, dS, PyData.showable]; exact row_show ws
theorem rows_show : ∀ rows : List (List (List Nat)), PyData.showableAll (rows.map dRow) = true
  | [] => by simp [PyData.showableAll]
  | ws :: rows => by
    have h1 := row_show ws
    have h2 := rows_show rows
    simp only [List.map_cons, PyData.showableAll, dRow, PyData.showable, h1, h2]
    rfl
theorem rows_showable (rows : List (List (List Nat))) : (dRows rows).showable = true := by simp only [dRows, PyData.showable]; exact rows_show rows
/-- what the words weigh -/
def cost (rows : List (List (List Nat))) : Nat := (rows.map fun ws => (ws.map fun w => w.length + 1).sum + 1).sum
theorem row_weight : ∀ ws : List (List Nat), PyData.weightAll (ws.map dS) = (ws.map fun w => w.length + 1).sum
  | [] => rfl
  | w :: ws => by
    have e : (mk w).cps.size = w.length := by show w.toArray.size = _; simp
    simp only [List.map_cons, PyData.weightAll, dS, PyData.weight, List.sum_cons, e]
    have := row_weight ws
    omega
theorem rows_weight : ∀ rows : List (List (List Nat)), PyData.weightAll (rows.map dRow) = cost rows
  | [] => rfl
  | ws :: rows => by
    have h1 := row_weight ws
    have h2 := rows_weight rows
    unfold cost at h2 ⊢
    simp only [List.map_cons, PyData.weightAll, dRow, PyData.weight, List.sum_cons, h1, h2]
theorem row_short : ∀ ws : List (List Nat), (∀ w ∈ ws, ∀ c ∈ w, c < 128) → PyData.leavesShortAll 8 (ws.map dS) = true
  | [], _ => by simp [PyData.leavesShortAll]
  | w :: ws, h => by
    have h1 : (PyData.leavesShort 8 (dS w)) = true := by
      simp only [dS, PyData.leavesShort, List.all_eq_true, decide_eq_true_eq]
      intro c hc
      have := h w List.mem_cons_self c hc
      exact Nat.lt_of_lt_of_le this (by decide)
    have h2 := row_short ws fun v hv => h v (List.mem_cons_of_mem _ hv)
    simp only [List.map_cons, PyData.leavesShortAll, h1, h2]
    rfl
theorem rows_short : ∀ rows : List (List (List Nat)), AscR rows → PyData.leavesShortAll 8 (rows.map dRow) = true
  | [], _ => by simp [PyData.leavesShortAll]
  | ws :: rows, h => by
    have h1 := row_short ws (h ws List.mem_cons_self)
    have h2 := rows_short rows fun v hv => h v (List.mem_cons_of_mem _ hv)
    simp only [List.map_cons, PyData.leavesShortAll, dRow, PyData.leavesShort, h1, h2]
    rfl
theorem rows_shown {rows : List (List (List Nat))} (h : AscR rows) : (dRows rows).shown.length ≤ 10 * cost rows + 8 := by
  have := PyData.shown_le 8 (Nat.le_refl _) (dRows rows) (by simp only [dRows, PyData.leavesShort]; exact rows_short rows h)
  have e : (dRows rows).weight = cost rows := by simp only [dRows, PyData.weight]; exact rows_weight rows
  rw [e] at this
  exact this
/-! ### plain signs stay plain when a text is shown -/
def Asc (x : Str) : Prop := ∀ c ∈ tl x, c < 128
theorem asc_char : ∀ c, c < 128 → (∀ d ∈ Builtin.Str.reprChar 39 c, d < 128) ∧ ∀ d ∈ Builtin.Str.reprChar 34 c, d < 128 := by decide +kernel
theorem asc_fold (q : Nat) (hq : q = 39 ∨ q = 34) : ∀ (l : List Nat) (acc : Array Nat), (∀ c ∈ l, c < 128) → (∀ d ∈ acc.toList, d < 128) → ∀ d ∈ (l.foldl (fun out c => out ++ (Builtin.Str.reprChar q c).toArray) acc).toList, d < 128
  | [], acc, _, h => h
  | c :: l, acc, hl, h => by
    refine asc_fold q hq l _ (fun c hc => hl c (List.mem_cons_of_mem _ hc)) fun d hd => ?_
    rw [Array.toList_append] at hd
    rcases List.mem_append.mp hd with z | z
    · exact h d z
    · have hc := asc_char c (hl c List.mem_cons_self)
      have z' : d ∈ Builtin.Str.reprChar q c := by simpa using z
      rcases hq with rfl | rfl
      · exact hc.1 d z'
      · exact hc.2 d z'
theorem asc_repr {x : Str} (h : Asc x) : Asc (reprText x) := by
  have hq : reprQuote x = 39 ∨ reprQuote x = 34 := by
    unfold reprQuote
    split
    · exact .inr rfl
    · exact .inl rfl
  have q128 : reprQuote x < 128 := by omega
  intro d hd
  have hd' : d ∈ ((x.cps.foldl (fun out c => out ++ (Builtin.Str.reprChar (reprQuote x) c).toArray) #[reprQuote x]).push (reprQuote x)).toList := hd
  rw [Array.toList_push, ← Array.foldl_toList] at hd'
  rcases List.mem_append.mp hd' with z | z
  · exact asc_fold _ hq x.cps.toList _ h (fun d hd => by
      have : d = reprQuote x := by simpa using hd
      rw [this]
      exact q128) d z
  · have : d = reprQuote x := by simpa using z
    rw [this]
    exact q128
theorem asc_app {x y : Str} (h : Asc x) (g : Asc y) : Asc (x ++ y) := fun c hc => by
  rw [tl_append] at hc
  rcases List.mem_append.mp hc with z | z
  · exact h c z
  · exact g c z
theorem asc_from : ∀ (ts : List Str) (k : Nat) (acc : Str), (∀ t ∈ ts, Asc t) → Asc acc → Asc (textFrom k acc ts)
  | [], k, acc, _, h => h
  | t :: ts, k, acc, ht, h => by
    unfold textFrom
    refine asc_from ts _ _ (fun u hu => ht u (List.mem_cons_of_mem _ hu)) (asc_app (asc_app h ?_) (ht t List.mem_cons_self))
    split
    · show ∀ c ∈ tl (Str.ofString ", "), c < 128
      rw [tl_ofString]
      decide
    · show ∀ c ∈ tl (Str.ofString ""), c < 128
      rw [tl_ofString]
      decide
theorem asc_list {ts : List Str} (h : ∀ t ∈ ts, Asc t) : Asc (listText ts) := by
  unfold listText
  refine asc_app (asc_from ts 0 _ h ?_) ?_
  · show ∀ c ∈ tl (Str.ofString "["), c < 128
    rw [tl_ofString]
    decide
  · show ∀ c ∈ tl (Str.ofString "]"), c < 128
    rw [tl_ofString]
    decide
theorem asc_row : ∀ ws : List (List Nat), (∀ w ∈ ws, ∀ c ∈ w, c < 128) → ∀ t ∈ PyData.shownAll (ws.map dS), Asc t
  | [], _, t, ht => by simp [PyData.shownAll] at ht
  | w :: ws, h, t, ht => by
    simp only [List.map_cons, PyData.shownAll, List.mem_cons] at ht
    rcases ht with rfl | ht
    · simp only [dS, PyData.shown]
      exact asc_repr (h w List.mem_cons_self)
    · exact asc_row ws (fun v hv => h v (List.mem_cons_of_mem _ hv)) t ht
theorem asc_rows : ∀ rows : List (List (List Nat)), AscR rows → ∀ t ∈ PyData.shownAll (rows.map dRow), Asc t
  | [], _, t, ht => by simp [PyData.shownAll] at ht
  | ws :: rows, h, t, ht => by
    simp only [List.map_cons, PyData.shownAll, List.mem_cons] at ht
    rcases ht with rfl | ht
    · simp only [dRow, PyData.shown]
      exact asc_list (asc_row ws (h ws List.mem_cons_self))
    · exact asc_rows rows (fun v hv => h v (List.mem_cons_of_mem _ hv)) t ht
theorem rows_asc {rows : List (List (List Nat))} (h : AscR rows) : Asc (dRows rows).shown := by
  simp only [dRows, PyData.shown]
  exact asc_list (asc_rows rows h)
/-! ### tests of texts -/
theorem lit_if {a b : List Nat} {s : String} {A B : Prop} (hb : s.toList.map Char.toNat = b) (h1 : a = b → A) (h2 : a ≠ b → B) : if decide (V.str (mk a) = V.str (Str.ofString s)) = true then A else B := by
  have e : Str.ofString s = mk b := by rw [mk_lit, hb]
  rw [e]
  exact str_if h1 h2
theorem litn_if {a b : List Nat} {s : String} {A B : Prop} (hb : s.toList.map Char.toNat = b) (h1 : a ≠ b → A) (h2 : a = b → B) : if (!decide (V.str (mk a) = V.str (Str.ofString s))) = true then A else B := by
  have e : Str.ofString s = mk b := by rw [mk_lit, hb]
  rw [e]
  exact strn_if h1 h2
theorem le_a {c b : Nat} {s : String} (hs : s.toList.map Char.toNat = [b]) : (!decide ((mk [c]).cps.toList < (Str.ofString s).cps.toList)) = decide (b ≤ c) := by
  have e : (Str.ofString s).cps.toList = [b] := by rw [← hs]; exact tl_ofString s
  have e2 : (mk [c]).cps.toList = [c] := rfl
  rw [e, e2]
  by_cases h : b ≤ c
  · rw [decide_eq_true h, decide_eq_false (fun z => by have := (lt1 c b).mp z; omega)]
    rfl
  · rw [decide_eq_false h, decide_eq_true ((lt1 c b).mpr (by omega))]
    rfl
theorem le_b {c b : Nat} {s : String} (hs : s.toList.map Char.toNat = [b]) : (!decide ((Str.ofString s).cps.toList < (mk [c]).cps.toList)) = decide (c ≤ b) := by
  have e : (Str.ofString s).cps.toList = [b] := by rw [← hs]; exact tl_ofString s
  have e2 : (mk [c]).cps.toList = [c] := rfl
  rw [e, e2]
  by_cases h : c ≤ b
  · rw [decide_eq_true h, decide_eq_false (fun z => by have := (lt1 b c).mp z; omega)]
    rfl
  · rw [decide_eq_false h, decide_eq_true ((lt1 b c).mpr (by omega))]
    rfl
/-- '!' <= sign <= '~' -/
theorem sign_if {ta : TE} {σ : L2.St} {H : Hp} {c : Nat} {Q : Bool → Hp → Prop} (ha : ∀ R : VK, R (.str (mk [c])) H → ta σ H R) (h : Q (Lns.okS c) H) :
    tTest (tChain (fun x y H Q => ∃ i j, x = .str i ∧ y = .str j ∧ Q (.bl (!decide (j.cps.toList < i.cps.toList))) H) (fun x y H Q => ∃ i j, x = .str i ∧ y = .str j ∧ Q (.bl (!decide (j.cps.toList < i.cps.toList))) H)
      (tC (.str (Str.ofString "!"))) ta (tC (.str (Str.ofString "~")))) σ H Q := by
  refine ha _ ⟨_, _, rfl, rfl, _, rfl, ?_⟩
  rw [le_a (b := 33) (by decide)]
  by_cases h1 : 33 ≤ c
  · refine iteY (decide_eq_true h1) ⟨_, _, rfl, rfl, _, rfl, ?_⟩
    rw [le_b (b := 126) (by decide)]
    have e : Lns.okS c = decide (c ≤ 126) := by
      unfold Lns.okS
      rw [decide_eq_true h1]
      rfl
    rw [← e]
    exact h
  · refine iteN (decide_eq_false h1) ⟨_, rfl, ?_⟩
    have e : Lns.okS c = false := by
      unfold Lns.okS
      rw [decide_eq_false h1]
      rfl
    rw [← e]
    exact h
theorem at_lastm {α : Type} {xs : List α} {v : α} (h : xs[xs.length - 1]? = some v) : atI xs (-1) = some v := by
  have hl : 0 < xs.length := by
    have := (List.getElem?_eq_some_iff.mp h).1
    omega
  have e : xs.dropLast ++ [v] = xs := by
    have ne : xs ≠ [] := by
      intro z
      rw [z] at hl
      simp at hl
    have := List.dropLast_concat_getLast ne
    rw [List.getLast_eq_getElem] at this
    have g := (List.getElem?_eq_some_iff.mp h).2
    rw [g] at this
    exact this
  rw [← e]
  exact atI_last _ _
theorem lit1_eq {c b : Nat} {s : String} (hs : s.toList.map Char.toNat = [b]) : decide (V.str (mk [c]) = V.str (Str.ofString s)) = decide (c = b) := by
  have e : Str.ofString s = mk [b] := by rw [mk_lit, hs]
  rw [e]
  by_cases h : c = b
  · rw [decide_eq_true h, h]
    exact decide_eq_true rfl
  · rw [decide_eq_false h]
    exact decide_eq_false fun z => h (by have := mk_inj (V.str.inj z); simpa using this)
theorem lit1_ne {c b : Nat} {s : String} (hs : s.toList.map Char.toNat = [b]) : (!decide (V.str (mk [c]) = V.str (Str.ofString s))) = decide (c ≠ b) := by
  rw [lit1_eq hs]
  by_cases h : c = b <;> simp [h]
/-- short texts of plain signs -/
def TxS (n : Nat) (y : Str) : Prop := y.length ≤ n ∧ Asc y
theorem TxS.more {n m : Nat} {y : Str} (h : TxS n y) (le : n ≤ m) : TxS m y := ⟨Nat.le_trans h.1 le, h.2⟩
theorem str_app_len (x y : Str) : (x ++ y).length = x.length + y.length := by
  rw [len_tl, len_tl, len_tl, tl_append, List.length_append]
theorem TxS.app {n m : Nat} {x y : Str} (h : TxS n x) (g : TxS m y) : TxS (n + m) (x ++ y) :=
  ⟨by rw [str_app_len]; exact Nat.add_le_add h.1 g.1, asc_app h.2 g.2⟩
theorem TxS.cut {n : Nat} {x : Str} (h : TxS n x) (lo hi : Option Int) : TxS n (cutS x lo hi) := by
  refine ⟨Nat.le_trans (cutS_length x lo hi) h.1, fun c hc => ?_⟩
  have e : tl (cutS x lo hi) = (x.cps.toList.drop (HT.sIx x.length 0 lo)).take (HT.sIx x.length x.length hi - HT.sIx x.length 0 lo) := rfl
  rw [e] at hc
  exact h.2 c (List.mem_of_mem_drop (List.mem_of_mem_take hc))
theorem TxS.lit {s : String} {n : Nat} (h1 : (s.toList.map Char.toNat).length ≤ n) (h2 : ∀ c ∈ s.toList.map Char.toNat, c < 128) : TxS n (Str.ofString s) :=
  ⟨by rw [len_tl, tl_ofString]; exact h1, fun c hc => by rw [tl_ofString] at hc; exact h2 c hc⟩
theorem TxS.tx {n : Nat} {y : Str} (h : TxS n y) : Tx n (tl y) := ⟨by rw [← len_tl]; exact h.1, h.2⟩
theorem line_le {n : Nat} (h : n ≤ 16000000) : n ≤ sizeLine := Nat.le_trans h (by decide)
/-- t1 or t2, both answers known -/
theorem tOr_p {t1 t2 : TT} {σ : L2.St} {H : Hp} {Q : Bool → Hp → Prop} {p q : Prop} [Decidable p] [Decidable q] (h1 : ∀ R : Bool → Hp → Prop, R (decide p) H → t1 σ H R) (h2 : ∀ R : Bool → Hp → Prop, R (decide q) H → t2 σ H R) (h : Q (decide (p ∨ q)) H) : tOr t1 t2 σ H Q := by
  refine h1 _ ?_
  by_cases hp : p
  · refine iteY (decide_eq_true hp) ?_
    rw [decide_eq_true (Or.inl hp)] at h
    exact h
  · refine iteN (decide_eq_false hp) (h2 _ ?_)
    have e : decide (p ∨ q) = decide q := by simp [hp]
    rw [← e]
    exact h
/-- t1 and t2, where only the second one's answer matters -/
theorem tAnd_any {t1 t2 : TT} {σ : L2.St} {H : Hp} {Q : Bool → Hp → Prop} {p : Prop} (h1 : ∀ R : Bool → Hp → Prop, (∀ c, R c H) → t1 σ H R) (h2 : ∀ R : Bool → Hp → Prop, (p → R true H) → R false H → t2 σ H R) (hT : p → Q true H) (hF : Q false H) : tAnd t1 t2 σ H Q := by
  refine h1 _ fun c => ?_
  cases c with
  | true => exact iteT (h2 _ hT hF)
  | false => exact iteF hF
theorem dec_R {p : Prop} [Decidable p] {R : Bool → Hp → Prop} {H : Hp} (h1 : p → R true H) (h2 : R false H) : R (decide p) H := by
  by_cases h : p
  · rw [decide_eq_true h]
    exact h1 h
  · rw [decide_eq_false h]
    exact h2
/-- t1 or t2, both answers known, the second one asked only behind the first -/
theorem tOr_p2 {t1 t2 : TT} {σ : L2.St} {H : Hp} {Q : Bool → Hp → Prop} {p q : Prop} [Decidable p] [Decidable q] (h1 : ∀ R : Bool → Hp → Prop, R (decide p) H → t1 σ H R) (h2 : ¬ p → ∀ R : Bool → Hp → Prop, R (decide q) H → t2 σ H R) (h : Q (decide (p ∨ q)) H) : tOr t1 t2 σ H Q := by
  refine h1 _ ?_
  by_cases hp : p
  · refine iteY (decide_eq_true hp) ?_
    rw [decide_eq_true (Or.inl hp)] at h
    exact h
  · refine iteN (decide_eq_false hp) (h2 hp _ ?_)
    have e : decide (p ∨ q) = decide q := by simp [hp]
    rw [← e]
    exact h
/-- t1 and t2, both answers known -/
theorem tAnd_p {t1 t2 : TT} {σ : L2.St} {H : Hp} {Q : Bool → Hp → Prop} {p q : Prop} [Decidable p] [Decidable q] (h1 : ∀ R : Bool → Hp → Prop, R (decide p) H → t1 σ H R) (h2 : p → ∀ R : Bool → Hp → Prop, R (decide q) H → t2 σ H R) (h : Q (decide (p ∧ q)) H) : tAnd t1 t2 σ H Q := by
  refine h1 _ ?_
  by_cases hp : p
  · refine iteY (decide_eq_true hp) (h2 hp _ ?_)
    have e : decide (p ∧ q) = decide q := by simp [hp]
    rw [← e]
    exact h
  · refine iteN (decide_eq_false hp) ?_
    have e : decide (p ∧ q) = false := by simp [hp]
    rw [← e]
    exact h
theorem lit_eq {a b : List Nat} {s : String} (hb : s.toList.map Char.toNat = b) : decide (V.str (mk a) = V.str (Str.ofString s)) = decide (a = b) := by
  have e : Str.ofString s = mk b := by rw [mk_lit, hb]
  rw [e]
  by_cases h : a = b
  · rw [decide_eq_true h, h]
    exact decide_eq_true rfl
  · rw [decide_eq_false h]
    exact decide_eq_false fun z => h (mk_inj (V.str.inj z))
theorem int_eq {a b : Int} : decide (V.int a = V.int b) = decide (a = b) := by
  by_cases h : a = b
  · rw [decide_eq_true h, h]
    exact decide_eq_true rfl
  · rw [decide_eq_false h]
    exact decide_eq_false fun z => h (V.int.inj z)
end L2

/-! # Fractions: the lowest terms by taking rests, and how long that takes. Plain Lean -/
namespace Frc
/-- (F k, F (k + 1)) of Fibonacci's numbers -/
def fibP : Nat → Nat × Nat
  | 0 => (0, 1)
  | k + 1 => ((fibP k).2, (fibP k).1 + (fibP k).2)
def fib (k : Nat) : Nat := (fibP k).1
theorem fib_step (k : Nat) : fib (k + 2) = fib k + fib (k + 1) := rfl
/-- by a fold, for large numbers -/
def fibL : Nat → Nat → Nat → Nat
  | 0, a, _ => a
  | k + 1, a, b => fibL k b (a + b)
theorem fibL_eq : ∀ (k m : Nat), fibL k (fib m) (fib (m + 1)) = fib (m + k)
  | 0, m => rfl
  | k + 1, m => by
    show fibL k (fib (m + 1)) (fib m + fib (m + 1)) = _
    rw [← fib_step, fibL_eq k (m + 1)]
    congr 1
    omega
theorem fib_large : 10 ^ 400 < fib 2000 := by
  have := fibL_eq 2000 0
  rw [Nat.zero_add] at this
  rw [← this]
  show 10 ^ 400 < fibL 2000 0 1
  decide +kernel
/-- where the rests stand behind k steps: one and two, from top and bottom -/
structure At (t b k one two : Nat) : Prop where
  gcd : Nat.gcd one two = Nat.gcd t b
  pos : 0 < one ∨ k = 0
  big : k = 0 → two = b
  less : 0 < k → two < one
  fb : 0 < k → Frc.fib k * one + Frc.fib (k - 1) * two ≤ b
theorem At.zero (t b : Nat) : At t b 0 t b := ⟨rfl, .inr rfl, fun _ => rfl, fun h => absurd h (by omega), fun h => absurd h (by omega)⟩
theorem At.step {t b k one two : Nat} (h : At t b k one two) (h2 : 0 < two) : At t b (k + 1) two (one % two) := by
  have lt := Nat.mod_lt one h2
  refine ⟨?_, .inl h2, fun z => by omega, fun _ => lt, fun _ => ?_⟩
  · rw [Nat.gcd_comm, ← Nat.gcd_rec, Nat.gcd_comm]
    exact h.gcd
  · by_cases k0 : k = 0
    · have e := h.big k0
      rw [k0, e]
      show 1 * b + 0 * (one % b) ≤ b
      omega
    · have f := h.fb (by omega)
      have l := h.less (by omega)
      have q : two + one % two ≤ one := by
        have e := Nat.div_add_mod one two
        have p : 1 ≤ one / two := (Nat.le_div_iff_mul_le h2).mpr (by omega)
        have m : two * 1 ≤ two * (one / two) := Nat.mul_le_mul_left _ p
        omega
      obtain ⟨j, rfl⟩ : ∃ j, k = j + 1 := ⟨k - 1, by omega⟩
      show Frc.fib (j + 1 + 1) * two + Frc.fib (j + 1) * (one % two) ≤ b
      have s : Frc.fib (j + 1 + 1) = Frc.fib j + Frc.fib (j + 1) := fib_step j
      rw [s, Nat.add_mul]
      have f' : Frc.fib (j + 1) * one + Frc.fib j * two ≤ b := f
      have m : Frc.fib (j + 1) * (two + one % two) ≤ Frc.fib (j + 1) * one := Nat.mul_le_mul_left _ q
      rw [Nat.mul_add] at m
      omega
theorem At.late {t b one two : Nat} (h : At t b 2000 one two) (hb : b < 10 ^ 400) : False := by
  have f := h.fb (by omega)
  have p : 0 < one := by
    rcases h.pos with z | z
    · exact z
    · omega
  have l := fib_large
  have m : fib 2000 * 1 ≤ fib 2000 * one := Nat.mul_le_mul_left _ p
  omega
theorem At.done {t b k one : Nat} (h : At t b k one 0) : one = Nat.gcd t b := by
  have := h.gcd
  rw [Nat.gcd_zero_right] at this
  exact this
/-- top / bottom in lowest terms (bottom above 0) -/
def low (t b : Int) : Int × Int := (t / (Nat.gcd t.natAbs b.natAbs : Nat), b / (Nat.gcd t.natAbs b.natAbs : Nat))
theorem gcd_pos {t b : Int} (h : b ≠ 0) : 0 < Nat.gcd t.natAbs b.natAbs := Nat.gcd_pos_of_pos_right _ (by omega)
theorem low_neg (t b : Int) : low (-t) (-b) = ((-t) / (Nat.gcd t.natAbs b.natAbs : Nat), (-b) / (Nat.gcd t.natAbs b.natAbs : Nat)) := by
  unfold low
  rw [Int.natAbs_neg, Int.natAbs_neg]
/-- the lowest terms are the terms themselves, if only 1 divides both -/
theorem low_eq {t b : Int} (hb : 0 < b) : low t b = (t, b) ↔ Nat.gcd t.natAbs b.natAbs = 1 := by
  have g := gcd_pos (t := t) (b := b) (by omega)
  constructor
  · intro h
    have h2 : b / (Nat.gcd t.natAbs b.natAbs : Nat) = b := congrArg Prod.snd h
    refine Classical.byContradiction fun ne => ?_
    have g2 : 2 ≤ Nat.gcd t.natAbs b.natAbs := by omega
    have : b / (Nat.gcd t.natAbs b.natAbs : Nat) < b := Int.ediv_lt_of_lt_mul (by omega) (by
      have : (2 : Int) ≤ ((Nat.gcd t.natAbs b.natAbs : Nat) : Int) := by omega
      have m : b * 2 ≤ b * ((Nat.gcd t.natAbs b.natAbs : Nat) : Int) := Int.mul_le_mul_of_nonneg_left this (by omega)
      omega)
    omega
  · intro h
    unfold low
    rw [h]
    simp

/-! ### words of digits -/
def isD (c : Nat) : Bool := decide (48 ≤ c) && decide (c ≤ 57)
def val (cs : List Nat) : Nat := cs.foldl (fun acc c => acc * 10 + (c - 48)) 0
/-- the number that a word of digits tells, -1 if it tells none -/
def dig (l : List Nat) : Int := if l = [] ∨ 300 < l.length ∨ (l.head? = some 48 ∧ 1 < l.length) then -1 else if l.all isD = true then (val l : Int) else -1
theorem val_snoc (cs : List Nat) (c : Nat) : val (cs ++ [c]) = val cs * 10 + (c - 48) := by
  unfold val
  rw [List.foldl_append]
  rfl
theorem val_lt : ∀ (n : Nat) (cs : List Nat), cs.length = n → cs.all isD = true → val cs < 10 ^ n
  | 0, cs, h, _ => by
    have := List.eq_nil_of_length_eq_zero h
    rw [this]
    decide
  | n + 1, cs, h, hd => by
    have ne : cs ≠ [] := by
      intro z
      rw [z] at h
      simp at h
    rw [← List.dropLast_concat_getLast ne] at hd ⊢
    rw [List.all_append] at hd
    rw [Bool.and_eq_true] at hd
    have ih := val_lt n cs.dropLast (by simp [h]) hd.1
    rw [val_snoc]
    have hc : isD (cs.getLast ne) = true := by simpa using hd.2
    unfold isD at hc
    simp at hc
    rw [Nat.pow_succ]
    omega
theorem dig_lt (l : List Nat) : dig l < 10 ^ 300 := by
  unfold dig
  split
  · exact Int.lt_of_lt_of_le (show (-1 : Int) < 0 by decide) (Int.pow_nonneg (by decide))
  · split
    · rename_i h1 h2
      have a := val_lt l.length l rfl h2
      have b : l.length ≤ 300 := by omega
      have c : 10 ^ l.length ≤ 10 ^ 300 := Nat.pow_le_pow_right (by decide) b
      have d : val l < 10 ^ 300 := by omega
      exact_mod_cast d
    · exact Int.lt_of_lt_of_le (show (-1 : Int) < 0 by decide) (Int.pow_nonneg (by decide))
theorem dig_ge (l : List Nat) : -1 ≤ dig l := by
  unfold dig
  split
  · omega
  · split <;> omega
theorem val_pos : ∀ (cs : List Nat) (c : Nat), 48 < c → 0 < val (c :: cs) := by
  have key : ∀ (cs : List Nat) (a : Nat), 0 < a → 0 < cs.foldl (fun acc c => acc * 10 + (c - 48)) a := by
    intro cs
    induction cs with
    | nil => intro a h; exact h
    | cons c cs ih => intro a h; exact ih _ (by show 0 < a * 10 + (c - 48); omega)
  intro cs c h
  unfold val
  exact key cs _ (by show 0 < 0 * 10 + (c - 48); omega)
/-- only the word 0 tells 0 -/
theorem dig_zero {l : List Nat} : dig l = 0 ↔ l = [48] := by
  constructor
  · intro h
    unfold dig at h
    split at h
    · omega
    · rename_i h1
      split at h
      · rename_i h2
        cases l with
        | nil => exact absurd (.inl rfl) h1
        | cons c cs =>
          by_cases c48 : c = 48
          · subst c48
            cases cs with
            | nil => rfl
            | cons d ds => exact absurd (.inr (.inr ⟨rfl, by simp⟩)) h1
          · have hc : isD c = true := by
              rw [List.all_cons, Bool.and_eq_true] at h2
              exact h2.1
            unfold isD at hc
            simp at hc
            have := val_pos cs c (by omega)
            omega
      · omega
  · intro h
    rw [h]
    decide
end Frc

/-! # Own layer: repr of any data; exact slices; numbers as texts -/
namespace L2
open PySem PySem.Spec PyProof.Rows TL
section
variable {X : Cx}
/-- repr(x), x any data -/
def rReprX (K : PySem.W.Frag) : List V → Hp → VK → Prop := fun xs H Q => ∃ (x : V) (d : PyData), xs = [x] ∧ Dp K H x d ∧ SeqAt.shaped d = true ∧ d.showable = true ∧ d.shown.length ≤ sizeLine ∧ Q (.str d.shown) H
theorem cr_reprX (hgu : X.A.guards = some []) (hu : X.A.units + 66 < cLine) : CallR X (.builtin "repr") (rReprX X.K) := by
  intro pins s σ H xs us Q I r h
  obtain ⟨x, d, rfl, hd, sd, hs, hz, q⟩ := h
  cases hd with
  | non =>
    match us, r with
    | [u], .cons (rx : u = Value.none) .nil =>
      subst rx
      exact PySem.P.repr_of_none ⟨.str (PyData.shown .none), H, I.tok _, ⟨s.toks, rfl⟩, q⟩
  | bl b =>
    match us, r with
    | [u], .cons (rx : u = Value.bool b) .nil =>
      subst rx
      refine PySem.P.repr_of_bool ⟨.str (PyData.shown (.bool b)), H, I.tok _, ⟨s.toks, ?_⟩, q⟩
      cases b <;> rfl
  | int i =>
    match us, r with
    | [u], .cons (rx : ∃ t, u = Value.int i t) .nil =>
      obtain ⟨t, rfl⟩ := rx
      exact PySem.P.repr_of_int (of_decide_eq_true hs) ⟨.str (PyData.shown (.int i)), H, I.tok _, ⟨s.toks, rfl⟩, q⟩
  | str y =>
    match us, r with
    | [u], .cons (rx : ∃ t, u = Value.str y t) .nil =>
      obtain ⟨t, rfl⟩ := rx
      exact PySem.P.repr_of_str ⟨.str (PyData.shown (.str y)), H, I.tok _, ⟨s.toks, rfl⟩, q⟩ hz
  | @lst a ys ds h1 h2 => exact cr_reprD hgu hu pins s σ H _ us Q I r ⟨a, _, rfl, .lst h1 h2, sd, hs, hz, q⟩
  | @tup a ys ds h1 h2 => exact cr_reprD hgu hu pins s σ H _ us Q I r ⟨a, _, rfl, .tup h1 h2, sd, hs, hz, q⟩
end
/-- _law_same(left, right): the same data -/
def spSameX (K : PySem.W.Frag) : Sp := fun vs H Q _ => ∃ (x y : V) (d : PyData), vs = [x, y] ∧ Dp K H x d ∧ Dp K H y d ∧ SeqAt.shaped d = true ∧ d.showable = true ∧ d.shown.length ≤ sizeLine ∧ Q (.bl true) H
theorem cut_take (l : List Nat) (k : Nat) : cutS (mk l) none (some (k : Int)) = mk (l.take k) := by
  have e1 : HT.sIx (mk l).length 0 none = 0 := rfl
  unfold cutS
  rw [e1, HT.sIx_nat, mk_len]
  have e : (mk l).cps.toList = l := rfl
  rw [e, List.drop_zero, Nat.sub_zero]
  show mk (l.take (min k l.length)) = _
  by_cases h : k ≤ l.length
  · rw [Nat.min_eq_left h]
  · rw [Nat.min_eq_right (by omega), List.take_of_length_le (Nat.le_refl _), List.take_of_length_le (by omega)]
theorem cut_dropS (l : List Nat) (k : Nat) : cutS (mk l) (some (k : Int)) none = mk (l.drop k) := by
  have e1 : HT.sIx (mk l).length (mk l).length none = (mk l).length := rfl
  unfold cutS
  rw [e1, HT.sIx_nat, mk_len]
  have e : (mk l).cps.toList = l := rfl
  rw [e]
  show mk ((l.drop (min k l.length)).take (l.length - min k l.length)) = _
  rw [List.take_of_length_le (by rw [List.length_drop]; omega)]
  by_cases h : k ≤ l.length
  · rw [Nat.min_eq_left h]
  · rw [Nat.min_eq_right (by omega), List.drop_of_length_le (Nat.le_refl _), List.drop_of_length_le (by omega)]
/-- the text of a number -/
def numT (i : Int) : List Nat := tl (Str.ofString (toString i))
theorem mk_num (i : Int) : Str.ofString (toString i) = mk (numT i) := (mkt _).symm
theorem numT_nat (n : Nat) : numT (n : Int) = numL n := tl_num n
theorem numT_neg (n : Nat) : numT (-((n + 1 : Nat) : Int)) = 45 :: numL (n + 1) := by
  unfold numT
  have e : toString (-((n + 1 : Nat) : Int)) = "-" ++ toString (((n + 1 : Nat) : Nat)) := rfl
  have e2 : toString (((n + 1 : Nat) : Int)) = toString ((n + 1 : Nat)) := rfl
  rw [tl_ofString, e, String.toList_append, List.map_append]
  have := tl_num (n + 1)
  rw [tl_ofString, e2] at this
  rw [this]
  rfl
theorem numT_asc (i : Int) : ∀ c ∈ numT i, c < 128 := by
  have key : ∀ n : Nat, ∀ c ∈ numL n, c < 128 := fun n c hc => by
    have := numL_digits n c hc
    omega
  cases i with
  | ofNat n => exact fun c hc => key n c (by rw [← numT_nat]; exact hc)
  | negSucc n =>
    intro c hc
    have e : (Int.negSucc n) = -((n + 1 : Nat) : Int) := rfl
    rw [e, numT_neg] at hc
    rcases List.mem_cons.mp hc with z | z
    · omega
    · exact key _ c z
theorem numT_len {i : Int} {k : Nat} (hk : 0 < k) (h : i.natAbs < 10 ^ k) : (numT i).length ≤ k + 1 := by
  cases i with
  | ofNat n =>
    have e : numT (Int.ofNat n) = numL n := numT_nat n
    rw [e]
    have := numL_len hk (n := n) h
    omega
  | negSucc n =>
    have e : (Int.negSucc n) = -((n + 1 : Nat) : Int) := rfl
    rw [e, numT_neg, List.length_cons]
    have := numL_len hk (n := n + 1) (by simpa using h)
    omega
theorem log_1920 {i : Int} (h : i.natAbs < 10 ^ 570) : i.natAbs.log2 < 1920 := by
  by_cases c : i.natAbs = 0
  · rw [c]
    decide
  · rw [Nat.log2_lt c]
    exact Nat.lt_trans h (by decide +kernel)
theorem int_shown {i : Int} {k : Nat} (hk : 0 < k) (h : i.natAbs < 10 ^ k) : (PyData.shown (.int i)).length ≤ k + 1 := by
  show (Str.ofString (toString i)).length ≤ _
  rw [len_tl]
  exact numT_len hk h
/-! ### int(text) of digits -/
theorem int_dig {l : List Nat} (h : l.all Frc.isD = true) (h1 : l ≠ []) (h2 : l.length ≤ 640) : PySem.intText? (mk l) = some ((Frc.val l : Nat) : Int) := by
  have hd : NumText.AllDigits (mk l).cps.toList := fun c hc => by
    have := List.all_eq_true.mp h c hc
    unfold Frc.isD at this
    simpa using this
  have := PySem.intText_digits hd h1 (by rw [mk_len]; omega)
  exact this
mutual
/-- data stay as long as what is tracked stays -/
theorem dp_fr {K : PySem.W.Frag} {H H' : Hp} (e : Fr [] H H') : ∀ (d : PyData) (v : V), Dp K H v d → Dp K H' v d
  | .none, _, h => by cases h; exact .non
  | .bool b, _, h => by cases h; exact .bl b
  | .int i, _, h => by cases h; exact .int i
  | .str x, _, h => by cases h; exact .str x
  | .list ds, _, h => by
    cases h with
    | lst h1 h2 => exact .lst (e.l h1) (dpa_fr e ds _ h2)
  | .tuple ds, _, h => by
    cases h with
    | tup h1 h2 => exact .tup (e.t h1) (dpa_fr e ds _ h2)
  | .dict _, _, h => by cases h
theorem dpa_fr {K : PySem.W.Frag} {H H' : Hp} (e : Fr [] H H') : ∀ (ds : List PyData) (vs : List V), DpAll K H vs ds → DpAll K H' vs ds
  | [], _, h => by cases h; exact .nil
  | d :: ds, _, h => by
    cases h with
    | cons h1 h2 => exact .cons (dp_fr e d _ h1) (dpa_fr e ds _ h2)
end
end L2

/-! # Own layer: x in xs for ints -/
namespace L2
open PySem PySem.Spec PyProof.Rows
theorem flat_ints (l : List Int) : (l.map V.int).all flatV = true := by
  induction l with
  | nil => rfl
  | cons x l ih => rw [List.map_cons, List.all_cons, ih]; rfl
theorem flat_nats (l : List Nat) : (l.map fun (k : Nat) => V.int (k : Int)).all flatV = true := by
  induction l with
  | nil => rfl
  | cons x l ih => rw [List.map_cons, List.all_cons, ih]; rfl
theorem inV_ints (x : Int) (l : List Int) : inV (V.int x) (l.map V.int) = decide (x ∈ l) := by
  induction l with
  | nil => rfl
  | cons y l ih =>
    show ((y == x) || inV (V.int x) (l.map V.int)) = _
    rw [ih]
    by_cases c : y = x
    · subst c; simp
    · by_cases d : x ∈ l
      · simp [d]
      · have : ¬ x = y := fun e => c e.symm
        simp [c, d, this]
theorem inV_nats (x : Nat) (l : List Nat) : inV (V.int (x : Int)) (l.map fun (k : Nat) => V.int (k : Int)) = decide (x ∈ l) := by
  induction l with
  | nil => rfl
  | cons y l ih =>
    show ((((y : Nat) : Int) == (x : Int)) || inV (V.int (x : Int)) (l.map fun (k : Nat) => V.int (k : Int))) = _
    rw [ih]
    by_cases c : y = x
    · subst c; simp
    · have c' : ¬ ((y : Int) = (x : Int)) := by omega
      by_cases d : x ∈ l
      · simp [d]
      · have : ¬ x = y := fun e => c e.symm
        simp [c', d, this]
theorem inV_pair (x a b : Int) : inV (V.int x) [V.int a, V.int b] = decide (x = a ∨ x = b) := by
  show ((a == x) || ((b == x) || false)) = _
  by_cases c : a = x
  · subst c; simp
  · have c1 : ¬ x = a := fun e => c e.symm
    by_cases d : b = x
    · subst d; simp
    · have d1 : ¬ x = b := fun e => d e.symm
      simp [c, d, c1, d1]
end L2
namespace L2
open PySem PySem.Spec PyProof.Rows
/-- list(x), by a reading that names its written part -/
def rListOf (K : PySem.W.Frag) : List V → Hp → VK → Prop := fun xs H Q => ∃ p ys, xs = [V.ref p] ∧ (SqL K H p ys ∨ SqT K H p ys) ∧ ∀ (l : Addr), H l = none → Q (V.ref l) (upd H l (HO.lst ys))
theorem call_list_ofK {X : Cx} : CallR X (.type "list") (rListOf X.K) := call_list_of
end L2

/-! # Own layer: data that can be compared and shown: depth and shown length -/
namespace L2
open PySem PySem.Spec PyProof.Rows TL
structure OkD (e L : Nat) (d : PyData) : Prop where
  lay : d.canLay0 = true
  dep : d.depth ≤ e
  show_ : d.showable = true
  len : d.shown.length ≤ L
theorem OkD.more {e e' L L' : Nat} {d : PyData} (h : OkD e L d) (he : e ≤ e') (hl : L ≤ L') : OkD e' L' d := ⟨h.lay, Nat.le_trans h.dep he, h.show_, Nat.le_trans h.len hl⟩
theorem OkD.int {i : Int} {k : Nat} (hk : 0 < k) (hk2 : k ≤ 570) (h : i.natAbs < 10 ^ k) : OkD 0 (k + 1) (.int i) := by
  refine ⟨by simp [PyData.canLay0], by simp [PyData.depth], ?_, int_shown hk h⟩
  simp only [PyData.showable, decide_eq_true_eq]
  exact log_1920 (Nat.lt_of_lt_of_le h (Nat.pow_le_pow_right (by decide) hk2))
theorem OkD.bool (b : Bool) : OkD 0 5 (.bool b) := by
  refine ⟨by simp [PyData.canLay0], by simp [PyData.depth], rfl, ?_⟩
  cases b <;> decide
theorem OkD.none : OkD 0 4 .none := ⟨by simp [PyData.canLay0], by simp [PyData.depth], rfl, by decide⟩
theorem OkD.str {y : Str} {n : Nat} (h : TxS n y) : OkD 0 (10 * n + 2) (.str y) := by
  have hr := StrLaws.reprText_len y (fun c hc => Nat.lt_of_lt_of_le (h.2 c hc) (by decide))
  have h1 := h.1
  have ho : PyData.strOk y = true := strOk_mk (l := tl y) h.2
  exact ⟨by simp [PyData.canLay0, ho], by simp [PyData.depth], rfl, by rw [PyData.shown]; omega⟩
theorem layAll_of : ∀ ds : List PyData, (∀ d ∈ ds, d.canLay0 = true) → PyData.canLayAll0 ds = true
  | [], _ => by simp [PyData.canLayAll0]
  | d :: ds, h => by simp [PyData.canLayAll0, h d List.mem_cons_self, layAll_of ds fun x hx => h x (List.mem_cons_of_mem _ hx)]
theorem depAll_of (e : Nat) : ∀ ds : List PyData, (∀ d ∈ ds, d.depth ≤ e) → PyData.depthAll ds ≤ e
  | [], _ => by simp [PyData.depthAll]
  | d :: ds, h => by
    have h1 := h d List.mem_cons_self
    have h2 := depAll_of e ds fun x hx => h x (List.mem_cons_of_mem _ hx)
    simp only [PyData.depthAll]
    omega
theorem showAll_of : ∀ ds : List PyData, (∀ d ∈ ds, d.showable = true) → PyData.showableAll ds = true
  | [], _ => by simp [PyData.showableAll]
  | d :: ds, h => by simp [PyData.showableAll, h d List.mem_cons_self, showAll_of ds fun x hx => h x (List.mem_cons_of_mem _ hx)]
theorem shownAll_len (L : Nat) : ∀ ds : List PyData, (∀ d ∈ ds, d.shown.length ≤ L) → ((PyData.shownAll ds).map (·.length)).sum ≤ ds.length * L ∧ (PyData.shownAll ds).length = ds.length
  | [], _ => by simp [PyData.shownAll]
  | d :: ds, h => by
    have h1 := h d List.mem_cons_self
    have h2 := shownAll_len L ds fun x hx => h x (List.mem_cons_of_mem _ hx)
    simp only [PyData.shownAll, List.map_cons, List.sum_cons, List.length_cons, h2.2, Nat.succ_mul]
    exact ⟨by have := h2.1; omega, trivial⟩
theorem OkD.list {e L n : Nat} {ds : List PyData} (h : ∀ d ∈ ds, OkD e L d) (hn : ds.length ≤ n) : OkD (e + 1) (n * (L + 2) + 3) (.list ds) := by
  refine ⟨?_, ?_, ?_, ?_⟩
  · simp only [PyData.canLay0]
    exact layAll_of ds fun d hd => (h d hd).lay
  · have := depAll_of e ds fun d hd => (h d hd).dep
    simp only [PyData.depth]
    omega
  · simp only [PyData.showable]
    exact showAll_of ds fun d hd => (h d hd).show_
  · have h1 := shownAll_len L ds fun d hd => (h d hd).len
    have h2 := listText_len_le (PyData.shownAll ds)
    rw [PyData.shown]
    have h3 := Nat.mul_le_mul_right (L + 2) hn
    rw [Nat.mul_add] at h3
    have h4 := h1.1
    have h5 := h1.2
    omega
theorem OkD.tup {e L n : Nat} {ds : List PyData} (h : ∀ d ∈ ds, OkD e L d) (hn : ds.length ≤ n) : OkD (e + 1) (n * (L + 2) + 4) (.tuple ds) := by
  refine ⟨?_, ?_, ?_, ?_⟩
  · simp only [PyData.canLay0]
    exact layAll_of ds fun d hd => (h d hd).lay
  · have := depAll_of e ds fun d hd => (h d hd).dep
    simp only [PyData.depth]
    omega
  · simp only [PyData.showable]
    exact showAll_of ds fun d hd => (h d hd).show_
  · have h1 := shownAll_len L ds fun d hd => (h d hd).len
    have h2 := tupleText_len_le (PyData.shownAll ds)
    rw [PyData.shown]
    have h3 := Nat.mul_le_mul_right (L + 2) hn
    rw [Nat.mul_add] at h3
    have h4 := h1.1
    have h5 := h1.2
    omega
theorem OkD.shaped {e L : Nat} {d : PyData} (h : OkD e L d) (he : e ≤ 64 := by decide) : SeqAt.shaped d = true := shaped_of h.lay (Nat.le_trans h.dep he)
theorem OkD.line {e L : Nat} {d : PyData} (h : OkD e L d) (hL : L ≤ 16000000 := by decide) : d.shown.length ≤ sizeLine := line_le (Nat.le_trans h.len hL)
theorem OkD.refl {e L : Nat} {d : PyData} (h : OkD e L d) : PyData.eqv d d = true := SeqAt.eqv_refl d h.lay
theorem OkD.ints {k n : Nat} {xs : List Int} (hk : 0 < k) (hk2 : k ≤ 570) (h : ∀ x ∈ xs, x.natAbs < 10 ^ k) (hn : xs.length ≤ n) : OkD 1 (n * (k + 3) + 3) (dInts xs) := by
  refine OkD.list (e := 0) (L := k + 1) (fun d hd => ?_) (by rw [List.length_map]; exact hn)
  obtain ⟨x, hx, rfl⟩ := List.mem_map.mp hd
  exact OkD.int hk hk2 (h x hx)
def dIss (rows : List (List Int)) : PyData := .list (rows.map dInts)
theorem OkD.rows {k n m : Nat} {rows : List (List Int)} (hk : 0 < k) (hk2 : k ≤ 570) (h : ∀ r ∈ rows, r.length ≤ n ∧ ∀ x ∈ r, x.natAbs < 10 ^ k) (hm : rows.length ≤ m) : OkD 2 (m * (n * (k + 3) + 3 + 2) + 3) (dIss rows) := by
  refine OkD.list (e := 1) (fun d hd => ?_) (by rw [List.length_map]; exact hm)
  obtain ⟨r, hr, rfl⟩ := List.mem_map.mp hd
  exact OkD.ints hk hk2 (h r hr).2 (h r hr).1
theorem dpa_rows_ints {K : PySem.W.Frag} {H : Hp} : ∀ (rs : List Addr) (rows : List (List Int)), rs.length = rows.length → (∀ (k : Nat) (r : Addr) (row : List Int), rs[k]? = some r → rows[k]? = some row → SqL K H r (row.map V.int)) → DpAll K H (rs.map V.ref) (rows.map dInts)
  | [], [], _, _ => .nil
  | r :: rs, row :: rows, hl, h => .cons (dp_ints (h 0 r row rfl rfl)) (dpa_rows_ints rs rows (by simpa using hl) fun k r' row' a b => h (k + 1) r' row' a b)
  | [], _ :: _, hl, _ => by simp at hl
  | _ :: _, [], hl, _ => by simp at hl
end L2

/-! # Networks: what is carried, rounds of fractional arcs, rounding. Plain Lean -/
namespace Cir

abbrev Arc := Int × Int
def Good (n : Int) (p : Arc) : Prop := (0 ≤ p.1 ∧ p.1 < n) ∧ (0 ≤ p.2 ∧ p.2 < n) ∧ p.1 ≠ p.2
instance (n : Int) (p : Arc) : Decidable (Good n p) := by unfold Good; infer_instance
def ind (a v : Int) : Int := if a = v then 1 else 0
def dlt (p : Arc) (v : Int) : Int := ind p.2 v - ind p.1 v
def net : List Arc → List Int → Int → Int
  | p :: as, x :: xs, v => x * dlt p v + net as xs v
  | _, _, _ => 0
def arcOf (arcs : List Arc) (k : Nat) : Arc := arcs.getD k (0, 0)
def part (xs : List Int) (k : Nat) : Int := xs.getD k 0

theorem net_snoc : ∀ (as : List Arc) (xs : List Int) (p : Arc) (x v : Int), as.length = xs.length → net (as ++ [p]) (xs ++ [x]) v = net as xs v + x * dlt p v
  | [], [], p, x, v, _ => by simp [net]
  | q :: as, y :: xs, p, x, v, h => by
    have ih := net_snoc as xs p x v (by simpa using h)
    simp only [List.cons_append, net, ih]
    omega
  | [], _ :: _, _, _, _, h => by simp at h
  | _ :: _, [], _, _, _, h => by simp at h
theorem net_set : ∀ (as : List Arc) (xs : List Int) (k : Nat) (y v : Int), as.length = xs.length → k < xs.length → net as (xs.set k y) v = net as xs v + (y - part xs k) * dlt (arcOf as k) v
  | [], [], k, y, v, _, h => by simp at h
  | p :: as, x :: xs, 0, y, v, _, _ => by
    have e1 : part (x :: xs) 0 = x := rfl
    have e2 : arcOf (p :: as) 0 = p := rfl
    rw [List.set_cons_zero, e1, e2]
    simp only [net, Int.sub_mul]
    omega
  | p :: as, x :: xs, k + 1, y, v, hl, h => by
    have ih := net_set as xs k y v (by simpa using hl) (by simpa using h)
    have e1 : part (x :: xs) (k + 1) = part xs k := rfl
    have e2 : arcOf (p :: as) (k + 1) = arcOf as k := rfl
    rw [List.set_cons_succ, e1, e2]
    simp only [net, ih]
    omega
  | [], _ :: _, _, _, _, h, _ => by simp at h
  | _ :: _, [], _, _, _, h, _ => by simp at h
theorem part_get {xs : List Int} {k : Nat} {x : Int} (h : xs[k]? = some x) : part xs k = x := by
  unfold part
  rw [List.getD_eq_getElem?_getD, h]
  rfl
theorem arc_get {xs : List Arc} {k : Nat} {x : Arc} (h : xs[k]? = some x) : arcOf xs k = x := by
  unfold arcOf
  rw [List.getD_eq_getElem?_getD, h]
  rfl
theorem get_part {xs : List Int} {k : Nat} (h : k < xs.length) : xs[k]? = some (part xs k) := by
  rw [List.getElem?_eq_getElem h, part_get (List.getElem?_eq_getElem h)]
theorem get_arc {xs : List Arc} {k : Nat} (h : k < xs.length) : xs[k]? = some (arcOf xs k) := by
  rw [List.getElem?_eq_getElem h, arc_get (List.getElem?_eq_getElem h)]
theorem part_set_same {xs : List Int} {k : Nat} {y : Int} (h : k < xs.length) : part (xs.set k y) k = y := part_get (by rw [List.getElem?_set_self h])
theorem part_set_ne {xs : List Int} {k j : Nat} {y : Int} (h : k ≠ j) : part (xs.set k y) j = part xs j := by
  unfold part
  rw [List.getD_eq_getElem?_getD, List.getD_eq_getElem?_getD, List.getElem?_set_ne h]

/-! ### what enters each node -/
def spareL (n : Nat) (as : List Arc) (xs : List Int) : List Int := (List.range n).map fun (v : Nat) => net as xs (v : Int)
theorem spareL_len (n : Nat) (as : List Arc) (xs : List Int) : (spareL n as xs).length = n := by simp [spareL]
theorem spareL_get {n : Nat} {as : List Arc} {xs : List Int} {i : Int} (h0 : 0 ≤ i) (h : i < n) : (spareL n as xs)[i.toNat]? = some (net as xs i) := by
  unfold spareL
  rw [List.getElem?_map, List.getElem?_range (by omega)]
  simp only [Option.map_some]
  rw [Int.toNat_of_nonneg h0]
theorem spareL_zero (n : Nat) : spareL n [] [] = List.replicate n 0 := by
  apply List.ext_getElem?
  intro i
  unfold spareL
  by_cases h : i < n
  · rw [List.getElem?_map, List.getElem?_range h, List.getElem?_replicate, if_pos h]
    rfl
  · rw [List.getElem?_eq_none (by simp; omega), List.getElem?_eq_none (by simp; omega)]
theorem spare_step {n : Nat} {as : List Arc} {xs : List Int} {p : Arc} {x : Int} (hl : as.length = xs.length) (hg : Good n p) :
    ((spareL n as xs).set p.1.toNat (net as xs p.1 - x)).set p.2.toNat (net as xs p.2 + x) = spareL n (as ++ [p]) (xs ++ [x]) := by
  obtain ⟨⟨h1, h2⟩, ⟨h3, h4⟩, h5⟩ := hg
  apply List.ext_getElem?
  intro i
  by_cases hi : i < n
  · have e : (spareL n (as ++ [p]) (xs ++ [x]))[i]? = some (net as xs i + x * dlt p i) := by
      have := spareL_get (n := n) (as := as ++ [p]) (xs := xs ++ [x]) (i := (i : Int)) (by omega) (by omega)
      rw [Int.toNat_natCast] at this
      rw [this, net_snoc _ _ _ _ _ hl]
    have e0 : (spareL n as xs)[i]? = some (net as xs i) := by
      have := spareL_get (n := n) (as := as) (xs := xs) (i := (i : Int)) (by omega) (by omega)
      rwa [Int.toNat_natCast] at this
    rw [e]
    by_cases c2 : p.2.toNat = i
    · have c3 : (i : Int) = p.2 := by omega
      rw [c2, List.getElem?_set_self (by rw [List.length_set, spareL_len]; omega), c3]
      have e1 : dlt p p.2 = 1 := by
        unfold dlt ind
        rw [if_pos rfl, if_neg h5]
        rfl
      rw [e1, Int.mul_one]
    · rw [List.getElem?_set_ne c2]
      have c3 : p.2 ≠ i := by omega
      by_cases c1 : p.1.toNat = i
      · have c5 : (i : Int) = p.1 := by omega
        rw [c1, List.getElem?_set_self (by rw [spareL_len]; omega), c5]
        have e1 : dlt p p.1 = -1 := by
          unfold dlt ind
          rw [if_pos rfl, if_neg (Ne.symm h5)]
          rfl
        rw [e1]
        congr 1
        omega
      · have c5 : p.1 ≠ i := by omega
        rw [List.getElem?_set_ne c1, e0]
        simp [dlt, ind, if_neg c3, if_neg c5]
  · rw [List.getElem?_eq_none (by simp [spareL_len]; omega), List.getElem?_eq_none (by rw [spareL_len]; omega)]

/-! ### the arcs that touch a node -/
def touch (p : Arc) (v : Int) : Bool := decide (p.1 = v) || decide (p.2 = v)
def nearI (arcs : List Arc) (i : Nat) (v : Int) : List Nat := (List.range i).filter fun k => touch (arcOf arcs k) v
def nearOf (arcs : List Arc) (v : Int) : List Nat := nearI arcs arcs.length v
theorem nearI_succ (arcs : List Arc) (i : Nat) (v : Int) : nearI arcs (i + 1) v = nearI arcs i v ++ (if touch (arcOf arcs i) v then [i] else []) := by
  unfold nearI
  rw [List.range_succ, List.filter_append]
  congr 1
  by_cases h : touch (arcOf arcs i) v = true
  · rw [List.filter_cons, if_pos h, if_pos h]; rfl
  · rw [List.filter_cons, if_neg h, if_neg h]; rfl
theorem mem_near {arcs : List Arc} {v : Int} {k : Nat} : k ∈ nearOf arcs v ↔ k < arcs.length ∧ touch (arcOf arcs k) v = true := by
  unfold nearOf nearI
  rw [List.mem_filter, List.mem_range]
theorem nearI_len (arcs : List Arc) (i : Nat) (v : Int) : (nearI arcs i v).length ≤ i := by
  unfold nearI
  exact Nat.le_trans (List.length_filter_le _ _) (by simp)

/-! ### a round of fractional arcs -/
def frac (p : List Int) (d : Int) (k : Nat) : Bool := decide (part p k % d ≠ 0)
def other (row : List Nat) (p : List Int) (d : Int) (came : Nat) : Nat := (row.find? fun k => decide (k ≠ came) && frac p d k).getD came
def stepN (arcs : List Arc) (arc : Nat) (node : Int) : Int × Int := if (arcOf arcs arc).1 = node then ((arcOf arcs arc).2, 1) else ((arcOf arcs arc).1, -1)
def fround (arcs : List Arc) (p : List Int) (d : Int) : Nat → List Int → List (Nat × Int) → Int → Nat → List (Nat × Int)
  | 0, _, _, _, _ => []
  | f + 1, vs, path, node, arc =>
    if (stepN arcs arc node).1 ∈ vs then (path ++ [(arc, (stepN arcs arc node).2)]).drop (vs.idxOf (stepN arcs arc node).1)
    else fround arcs p d f (vs ++ [(stepN arcs arc node).1]) (path ++ [(arc, (stepN arcs arc node).2)]) (stepN arcs arc node).1 (other (nearOf arcs (stepN arcs arc node).1) p d arc)
def roundOf (n : Nat) (arcs : List Arc) (p : List Int) (d : Int) (start : Nat) : List (Nat × Int) := fround arcs p d (n + 1) [(arcOf arcs start).1] [] (arcOf arcs start).1 start

/-- the arc a, passed in the way w, leads from u to v -/
def Ste (arcs : List Arc) (a : Nat) (w u v : Int) : Prop := (w = 1 ∧ (arcOf arcs a).1 = u ∧ (arcOf arcs a).2 = v) ∨ (w = -1 ∧ (arcOf arcs a).2 = u ∧ (arcOf arcs a).1 = v)
def Wk (arcs : List Arc) : List Int → List (Nat × Int) → Prop
  | [_], [] => True
  | u :: v :: us, q :: path => Ste arcs q.1 q.2 u v ∧ Wk arcs (v :: us) path
  | _, _ => False
theorem Wk.snoc {arcs : List Arc} : ∀ {us : List Int} {path : List (Nat × Int)} {a : Nat} {w u v : Int}, Wk arcs us path → us.getLast? = some u → Ste arcs a w u v → Wk arcs (us ++ [v]) (path ++ [(a, w)])
  | [x], [], a, w, u, v, _, hu, hs => by
    simp at hu
    subst hu
    exact ⟨hs, trivial⟩
  | x :: y :: us, q :: path, a, w, u, v, h, hu, hs => by
    obtain ⟨h1, h2⟩ := h
    refine ⟨h1, ?_⟩
    exact Wk.snoc (us := y :: us) h2 (by rw [List.getLast?_cons_cons] at hu; exact hu) hs
  | [], _, _, _, _, _, h, _, _ => by simp [Wk] at h
  | [x], _ :: _, _, _, _, _, h, _, _ => by simp [Wk] at h
  | _ :: _ :: _, [], _, _, _, _, h, _, _ => by simp [Wk] at h
theorem Wk.len {arcs : List Arc} : ∀ {us : List Int} {path : List (Nat × Int)}, Wk arcs us path → us.length = path.length + 1
  | [_], [], _ => rfl
  | u :: v :: us, q :: path, h => by
    have := Wk.len (us := v :: us) h.2
    simp only [List.length_cons] at this ⊢
    omega
  | [], _, h => by simp [Wk] at h
  | [_], _ :: _, h => by simp [Wk] at h
  | _ :: _ :: _, [], h => by simp [Wk] at h
theorem Wk.drop {arcs : List Arc} : ∀ {us : List Int} {path : List (Nat × Int)} (i : Nat), Wk arcs us path → i ≤ path.length → Wk arcs (us.drop i) (path.drop i)
  | us, path, 0, h, _ => by simpa using h
  | u :: v :: us, q :: path, i + 1, h, hi => by
    have := Wk.drop (us := v :: us) i h.2 (by simpa using hi)
    simpa using this
  | [], _, _ + 1, h, _ => by simp [Wk] at h
  | [_], [], _ + 1, _, hi => by simp at hi
  | [_], _ :: _, _ + 1, h, _ => by simp [Wk] at h
  | _ :: _ :: _, [], _ + 1, h, _ => by simp [Wk] at h
theorem Wk.get {arcs : List Arc} : ∀ {us : List Int} {path : List (Nat × Int)} {i : Nat} {q : Nat × Int}, Wk arcs us path → path[i]? = some q → ∃ u v, us[i]? = some u ∧ us[i + 1]? = some v ∧ Ste arcs q.1 q.2 u v
  | u :: v :: us, q :: path, 0, q', h, hq => by
    simp at hq
    subst hq
    exact ⟨u, v, rfl, rfl, h.1⟩
  | u :: v :: us, q :: path, i + 1, q', h, hq => by
    obtain ⟨a, b, h1, h2, h3⟩ := Wk.get (us := v :: us) (i := i) (q := q') h.2 (by simpa using hq)
    exact ⟨a, b, by simpa using h1, by simpa using h2, h3⟩
  | [], _, _, _, h, _ => by simp [Wk] at h
  | [_], [], _, _, _, hq => by simp at hq
  | [_], _ :: _, _, _, h, _ => by simp [Wk] at h
  | _ :: _ :: _, [], _, _, h, _ => by simp [Wk] at h
def fsum (arcs : List Arc) : List (Nat × Int) → Int → Int
  | [], _ => 0
  | q :: r, v => q.2 * dlt (arcOf arcs q.1) v + fsum arcs r v
theorem Ste.sum {arcs : List Arc} {a : Nat} {w u v : Int} (h : Ste arcs a w u v) (x : Int) : w * dlt (arcOf arcs a) x = ind v x - ind u x := by
  unfold dlt
  rcases h with ⟨rfl, h1, h2⟩ | ⟨rfl, h1, h2⟩
  · rw [h1, h2]; omega
  · rw [h1, h2]; omega
theorem Wk.sum {arcs : List Arc} : ∀ {u : Int} {us : List Int} {path : List (Nat × Int)} {l : Int}, Wk arcs (u :: us) path → (u :: us).getLast? = some l → ∀ x, fsum arcs path x = ind l x - ind u x
  | u, [], [], l, _, hl, x => by
    simp at hl
    subst hl
    simp [fsum]
  | u, v :: us, q :: path, l, h, hl, x => by
    have ih := Wk.sum (u := v) (us := us) h.2 (by rw [List.getLast?_cons_cons] at hl; exact hl) x
    simp only [fsum, ih, Ste.sum h.1 x]
    omega
  | _, [], _ :: _, _, h, _, _ => by simp [Wk] at h
  | _, _ :: _, [], _, h, _, _ => by simp [Wk] at h

/-! ### a round is found -/
theorem nodup_le : ∀ (n : Nat) (l : List Int), l.Nodup → (∀ v ∈ l, 0 ≤ v ∧ v < n) → l.length ≤ n
  | 0, [], _, _ => Nat.le_refl _
  | 0, v :: l, _, h => by
    have := h v List.mem_cons_self
    omega
  | n + 1, l, nd, h => by
    have ih := nodup_le n (l.erase (n : Int)) (nd.erase _) fun v hv => by
      have h1 := h v (List.mem_of_mem_erase hv)
      have h2 : v ≠ n := (nd.mem_erase_iff.mp hv).1
      omega
    have := List.length_erase (a := (n : Int)) (l := l)
    split at this <;> omega
theorem touch_dlt {n : Int} {p : Arc} {v : Int} (hg : Good n p) (h : touch p v = true) : dlt p v = 1 ∨ dlt p v = -1 := by
  unfold touch at h
  unfold dlt ind
  have h5 := hg.2.2
  by_cases c1 : p.1 = v
  · have c2 : p.2 ≠ v := fun e => h5 (c1.trans e.symm)
    rw [if_pos c1, if_neg c2]; omega
  · have c2 : p.2 = v := by simpa [c1] using h
    rw [if_neg c1, if_pos c2]; omega
theorem untouch_dlt {p : Arc} {v : Int} (h : touch p v = false) : dlt p v = 0 := by
  unfold touch at h
  simp only [Bool.or_eq_false_iff, decide_eq_false_iff_not] at h
  unfold dlt ind
  rw [if_neg h.1, if_neg h.2]; rfl
/-- all but the arc a are whole or away from v: the rest is a's -/
theorem net_mod (d v : Int) : ∀ (as : List Arc) (xs : List Int) (a : Nat), as.length = xs.length → a < xs.length →
    (∀ k, k < xs.length → k ≠ a → dlt (arcOf as k) v = 0 ∨ part xs k % d = 0) → ∃ c, net as xs v = c * d + part xs a * dlt (arcOf as a) v
  | [], [], a, _, h, _ => by simp at h
  | p :: as, x :: xs, 0, hl, _, h => by
    have e1 : part (x :: xs) 0 = x := rfl
    have e2 : arcOf (p :: as) 0 = p := rfl
    have all : ∀ (as : List Arc) (xs : List Int), as.length = xs.length → (∀ k, k < xs.length → dlt (arcOf as k) v = 0 ∨ part xs k % d = 0) → ∃ c, net as xs v = c * d := by
      intro as
      induction as with
      | nil =>
        intro xs hl _
        cases xs with
        | nil => exact ⟨0, by simp [net]⟩
        | cons _ _ => simp at hl
      | cons q as ih =>
        intro xs hl h
        cases xs with
        | nil => simp at hl
        | cons y xs =>
          obtain ⟨c, hc⟩ := ih xs (by simpa using hl) fun k hk => h (k + 1) (by simpa using hk)
          rcases h 0 (by simp) with z | z
          · have z' : dlt q v = 0 := z
            exact ⟨c, by simp only [net, z', hc]; omega⟩
          · have z' : y % d = 0 := z
            obtain ⟨e, he⟩ := Int.dvd_of_emod_eq_zero z'
            refine ⟨c + e * dlt q v, ?_⟩
            simp only [net, hc, he, Int.add_mul]
            rw [Int.mul_assoc, Int.mul_comm d, Int.add_comm]
    obtain ⟨c, hc⟩ := all as xs (by simpa using hl) fun k hk => h (k + 1) (by simpa using hk) (by omega)
    refine ⟨c, ?_⟩
    rw [e1, e2]
    simp only [net, hc]
    omega
  | p :: as, x :: xs, a + 1, hl, ha, h => by
    obtain ⟨c, hc⟩ := net_mod d v as xs a (by simpa using hl) (by simpa using ha) fun k hk hne => h (k + 1) (by simpa using hk) (by omega)
    have e1 : part (x :: xs) (a + 1) = part xs a := rfl
    have e2 : arcOf (p :: as) (a + 1) = arcOf as a := rfl
    rw [e1, e2]
    rcases h 0 (by simp) (by omega) with z | z
    · have z' : dlt p v = 0 := z
      exact ⟨c, by simp only [net, z', hc]; omega⟩
    · have z' : x % d = 0 := z
      obtain ⟨e, he⟩ := Int.dvd_of_emod_eq_zero z'
      refine ⟨c + e * dlt p v, ?_⟩
      simp only [net, hc, he, Int.add_mul]
      rw [Int.mul_assoc d, Int.mul_comm d]
      omega
  | [], _ :: _, _, h, _, _ => by simp at h
  | _ :: _, [], _, h, _, _ => by simp at h
theorem bal_other {n : Int} {arcs : List Arc} {p : List Int} {d v : Int} {a : Nat} (hl : arcs.length = p.length) (hg : ∀ k, k < arcs.length → Good n (arcOf arcs k)) (hb : net arcs p v % d = 0)
    (ha : a < arcs.length) (hf : frac p d a = true) (ht : touch (arcOf arcs a) v = true) : ∃ k, k ∈ nearOf arcs v ∧ k ≠ a ∧ frac p d k = true := by
  refine Classical.byContradiction fun no => ?_
  have h : ∀ k, k < p.length → k ≠ a → dlt (arcOf arcs k) v = 0 ∨ part p k % d = 0 := fun k hk hne => by
    by_cases c : touch (arcOf arcs k) v = true
    · right
      refine Classical.byContradiction fun z => no ⟨k, mem_near.mpr ⟨by omega, c⟩, hne, ?_⟩
      unfold frac
      exact decide_eq_true z
    · left
      exact untouch_dlt (by simpa using c)
  obtain ⟨c, hc⟩ := net_mod d v arcs p a hl (by omega) h
  have hf' : part p a % d ≠ 0 := of_decide_eq_true hf
  rw [hc, Int.add_comm, Int.add_mul_emod_self_right] at hb
  rcases touch_dlt (hg a ha) ht with z | z
  · rw [z, Int.mul_one] at hb
    exact hf' hb
  · rw [z, Int.mul_neg, Int.mul_one] at hb
    exact hf' (Int.emod_eq_zero_of_dvd ((Int.dvd_neg).mp (Int.dvd_of_emod_eq_zero hb)))
theorem other_ok {row : List Nat} {p : List Int} {d : Int} {came : Nat} (h : ∃ k, k ∈ row ∧ k ≠ came ∧ frac p d k = true) :
    other row p d came ∈ row ∧ other row p d came ≠ came ∧ frac p d (other row p d came) = true := by
  unfold other
  cases e : row.find? fun k => decide (k ≠ came) && frac p d k with
  | none =>
    obtain ⟨k, h1, h2, h3⟩ := h
    have := List.find?_eq_none.mp e k h1
    simp [h2, h3] at this
  | some k =>
    have h1 := List.find?_some e
    have h2 := List.mem_of_find?_eq_some e
    simp only [Bool.and_eq_true, decide_eq_true_eq] at h1
    exact ⟨h2, h1.1, h1.2⟩

structure St0 (n : Nat) (arcs : List Arc) (p : List Int) (d : Int) (vs : List Int) (path : List (Nat × Int)) (node : Int) (arc : Nat) : Prop where
  wk : Wk arcs vs path
  nd : vs.Nodup
  last : vs.getLast? = some node
  rng : ∀ v ∈ vs, 0 ≤ v ∧ v < n
  ar : arc < arcs.length ∧ frac p d arc = true ∧ touch (arcOf arcs arc) node = true
  old : ∀ q ∈ path, q.1 < arcs.length ∧ frac p d q.1 = true ∧ (q.2 = 1 ∨ q.2 = -1)
  cons : ∀ i q q', path[i]? = some q → path[i + 1]? = some q' → q.1 ≠ q'.1
  lastne : ∀ q, path.getLast? = some q → q.1 ≠ arc
structure Rnd (arcs : List Arc) (p : List Int) (d : Int) (found : List (Nat × Int)) : Prop where
  ne : found ≠ []
  ok : ∀ q ∈ found, q.1 < arcs.length ∧ frac p d q.1 = true ∧ (q.2 = 1 ∨ q.2 = -1)
  nd : (found.map (·.1)).Nodup
  bal : ∀ v, fsum arcs found v = 0
theorem stepN_ste {arcs : List Arc} {arc : Nat} {node : Int} (h : touch (arcOf arcs arc) node = true) : Ste arcs arc (stepN arcs arc node).2 node (stepN arcs arc node).1 ∧ ((stepN arcs arc node).2 = 1 ∨ (stepN arcs arc node).2 = -1) := by
  unfold touch at h
  unfold stepN
  by_cases c : (arcOf arcs arc).1 = node
  · rw [if_pos c]
    exact ⟨.inl ⟨rfl, c, rfl⟩, .inl rfl⟩
  · rw [if_neg c]
    exact ⟨.inr ⟨rfl, by simpa [c] using h, rfl⟩, .inr rfl⟩
theorem Ste.far {n : Int} {arcs : List Arc} {a : Nat} {w u v : Int} (hg : Good n (arcOf arcs a)) (h : Ste arcs a w u v) : (0 ≤ v ∧ v < n) ∧ touch (arcOf arcs a) v = true := by
  unfold touch
  rcases h with ⟨_, h1, h2⟩ | ⟨_, h1, h2⟩
  · refine ⟨by rw [← h2]; exact hg.2.1, ?_⟩
    simp [h2]
  · refine ⟨by rw [← h2]; exact hg.1, ?_⟩
    simp [h2]
theorem getElem?_snoc_last {α : Type} {l : List α} {x y : α} {i : Nat} (h : (l ++ [x])[i]? = some y) : (i < l.length ∧ l[i]? = some y) ∨ (i = l.length ∧ y = x) := by
  by_cases c : i < l.length
  · rw [List.getElem?_append_left c] at h
    exact .inl ⟨c, h⟩
  · rw [List.getElem?_append_right (by omega)] at h
    have : i - l.length = 0 := by
      by_cases z : i - l.length = 0
      · exact z
      · rw [List.getElem?_eq_none (by simp; omega)] at h
        cases h
    rw [this] at h
    exact .inr ⟨by omega, by simpa using h.symm⟩
theorem cons_snoc {n : Nat} {arcs : List Arc} {p : List Int} {d : Int} {vs : List Int} {path : List (Nat × Int)} {node : Int} {arc : Nat} {w : Int} (S : St0 n arcs p d vs path node arc) :
    ∀ i q q', (path ++ [(arc, w)])[i]? = some q → (path ++ [(arc, w)])[i + 1]? = some q' → q.1 ≠ q'.1 := by
  intro i q q' h1 h2
  rcases getElem?_snoc_last h2 with ⟨c2, h2⟩ | ⟨c2, rfl⟩
  · rcases getElem?_snoc_last h1 with ⟨c1, h1⟩ | ⟨c1, _⟩
    · exact S.cons i q q' h1 h2
    · omega
  · rcases getElem?_snoc_last h1 with ⟨c1, h1⟩ | ⟨c1, _⟩
    · refine S.lastne q ?_
      rw [List.getLast?_eq_getElem?, ← h1]
      congr 1
      omega
    · omega
theorem rnd_of {n : Nat} {arcs : List Arc} {p : List Int} {d : Int} {vs : List Int} {path : List (Nat × Int)} {node : Int} {arc : Nat} (hg : ∀ k, k < arcs.length → Good n (arcOf arcs k)) (S : St0 n arcs p d vs path node arc)
    (hin : (stepN arcs arc node).1 ∈ vs) : Rnd arcs p d ((path ++ [(arc, (stepN arcs arc node).2)]).drop (vs.idxOf (stepN arcs arc node).1)) := by
  obtain ⟨hs, hw⟩ := stepN_ste S.ar.2.2
  have wk2 := S.wk.snoc S.last hs
  revert hin hs hw wk2
  generalize (stepN arcs arc node).1 = v
  generalize (stepN arcs arc node).2 = w
  intro hin hs hw wk2
  have hlen := S.wk.len
  have hi : vs.idxOf v < vs.length := List.idxOf_lt_length_of_mem hin
  have hget : vs[vs.idxOf v]? = some v := by rw [List.getElem?_eq_getElem hi, List.getElem_idxOf hi]
  have cs := cons_snoc (w := w) S
  revert hi hget
  generalize vs.idxOf v = i0
  intro hi hget
  have wk3 := wk2.drop i0 (by simp; omega)
  have old2 : ∀ q ∈ path ++ [(arc, w)], q.1 < arcs.length ∧ frac p d q.1 = true ∧ (q.2 = 1 ∨ q.2 = -1) := fun q hq => by
    rcases List.mem_append.mp hq with hq | hq
    · exact S.old q hq
    · rw [List.mem_singleton] at hq
      subst hq
      exact ⟨S.ar.1, S.ar.2.1, hw⟩
  refine ⟨fun e => ?_, fun q hq => old2 q (List.mem_of_mem_drop hq), ?_, fun x => ?_⟩
  · have := congrArg List.length e
    simp at this
    omega
  · rw [List.nodup_iff_pairwise_ne, List.pairwise_iff_getElem]
    intro i j hi2 hj2 hij e
    rw [List.length_map, List.length_drop, List.length_append] at hi2 hj2
    simp only [List.length_cons, List.length_nil] at hi2 hj2
    have gi : ((path ++ [(arc, w)]).drop i0)[i]? = some (((path ++ [(arc, w)]).drop i0)[i]'(by simp; omega)) := List.getElem?_eq_getElem _
    have gj : ((path ++ [(arc, w)]).drop i0)[j]? = some (((path ++ [(arc, w)]).drop i0)[j]'(by simp; omega)) := List.getElem?_eq_getElem _
    obtain ⟨u, v', g1, g2, g3⟩ := wk3.get gi
    obtain ⟨u2, v2, f1, f2, f3⟩ := wk3.get gj
    rw [List.getElem_map, List.getElem_map] at e
    rw [List.getElem?_drop] at g1 g2 f1 f2 gi gj
    have inj : ∀ {a b : Nat} {z : Int}, a < vs.length → b < vs.length → (vs ++ [v])[a]? = some z → (vs ++ [v])[b]? = some z → a = b := fun {a b z} ha hb h1 h2 => by
      rw [List.getElem?_append_left ha] at h1
      rw [List.getElem?_append_left hb] at h2
      obtain ⟨ha', e1⟩ := List.getElem?_eq_some_iff.mp h1
      obtain ⟨hb', e2⟩ := List.getElem?_eq_some_iff.mp h2
      exact (List.getElem_inj S.nd).mp (e1.trans e2.symm)
    have nxt : j ≠ i + 1 := fun z => by
      subst z
      exact cs (i0 + i) _ _ gi (by rw [show i0 + i + 1 = i0 + (i + 1) from by omega]; exact gj) e
    rw [e] at g3
    have two : u = u2 ∨ v' = u2 := by
      rcases g3 with ⟨_, a1, a2⟩ | ⟨_, a1, a2⟩ <;> rcases f3 with ⟨_, b1, b2⟩ | ⟨_, b1, b2⟩
      · exact .inl (a1.symm.trans b1)
      · exact .inr (a2.symm.trans b1)
      · exact .inr (a2.symm.trans b1)
      · exact .inl (a1.symm.trans b1)
    rcases two with z | z
    · rw [z] at g1
      have := inj (by omega) (by omega) g1 f1
      omega
    · rw [z] at g2
      have := inj (by omega) (by omega) g2 f1
      omega
  · have e1 : (vs ++ [v]).drop i0 = v :: (vs ++ [v]).drop (i0 + 1) := by
      have h0 : (vs ++ [v])[i0]? = some v := by rw [List.getElem?_append_left hi]; exact hget
      obtain ⟨h1, h2⟩ := List.getElem?_eq_some_iff.mp h0
      rw [List.drop_eq_getElem_cons h1, h2]
    rw [e1] at wk3
    have := wk3.sum (l := v) (by
      rw [← e1, List.getLast?_drop, if_neg (by simp; omega)]
      simp) x
    rw [this]
    omega
theorem fround_ok {n : Nat} {arcs : List Arc} {p : List Int} {d : Int} (hl : arcs.length = p.length) (hg : ∀ k, k < arcs.length → Good n (arcOf arcs k)) (hb : ∀ v, net arcs p v % d = 0) :
    ∀ (f : Nat) (vs : List Int) (path : List (Nat × Int)) (node : Int) (arc : Nat), St0 n arcs p d vs path node arc → n + 1 ≤ f + vs.length → Rnd arcs p d (fround arcs p d f vs path node arc)
  | 0, vs, path, node, arc, S, hf => by
    have := nodup_le n vs S.nd S.rng
    omega
  | f + 1, vs, path, node, arc, S, hf => by
    unfold fround
    by_cases hin : (stepN arcs arc node).1 ∈ vs
    · rw [if_pos hin]
      exact rnd_of hg S hin
    · rw [if_neg hin]
      obtain ⟨hs, hw⟩ := stepN_ste S.ar.2.2
      have wk2 := S.wk.snoc S.last hs
      have far := hs.far (hg arc S.ar.1)
      have oth := other_ok (bal_other (v := (stepN arcs arc node).1) hl hg (hb _) S.ar.1 S.ar.2.1 far.2)
      have mem := mem_near.mp oth.1
      have cs := cons_snoc (w := (stepN arcs arc node).2) S
      refine fround_ok hl hg hb f _ _ _ _ ⟨wk2, ?_, by simp, fun v hv => ?_, ⟨mem.1, oth.2.2, mem.2⟩, fun q hq => ?_, cs, fun q hq => ?_⟩ (by simp; omega)
      · rw [List.nodup_append]
        refine ⟨S.nd, by simp, fun a ha b hb2 => ?_⟩
        rw [List.mem_singleton] at hb2
        subst hb2
        rintro rfl
        exact hin ha
      · rcases List.mem_append.mp hv with hv | hv
        · exact S.rng v hv
        · rw [List.mem_singleton] at hv
          subst hv
          exact far.1
      · rcases List.mem_append.mp hq with hq | hq
        · exact S.old q hq
        · rw [List.mem_singleton] at hq
          subst hq
          exact ⟨S.ar.1, S.ar.2.1, hw⟩
      · rw [List.getLast?_append] at hq
        simp at hq
        subst hq
        exact Ne.symm oth.2.1
theorem roundOf_ok {n : Nat} {arcs : List Arc} {p : List Int} {d : Int} {k : Nat} (hl : arcs.length = p.length) (hg : ∀ k, k < arcs.length → Good n (arcOf arcs k)) (hb : ∀ v, net arcs p v % d = 0) (hk : k < arcs.length) (hf : frac p d k = true) :
    Rnd arcs p d (roundOf n arcs p d k) := by
  unfold roundOf
  have g := hg k hk
  refine fround_ok hl hg hb _ _ _ _ _ ⟨trivial, by simp, rfl, fun v hv => ?_, ⟨hk, hf, by simp [touch]⟩, fun q hq => by simp at hq, fun i q q' h => by simp at h, fun q h => by simp at h⟩ (by simp)
  rw [List.mem_singleton] at hv
  subst hv
  exact g.1

/-! ### a round is carried -/
def dist (p : List Int) (d : Int) (q : Nat × Int) : Int := (q.2 * -(part p q.1)) % d
def stepOf (p : List Int) (d : Int) (found : List (Nat × Int)) : Int := found.foldl (fun s q => if dist p d q < s then dist p d q else s) d
def applyR (p : List Int) (s : Int) (found : List (Nat × Int)) : List Int := found.foldl (fun p q => p.set q.1 (part p q.1 + q.2 * s)) p
theorem applyR_len (s : Int) : ∀ (f : List (Nat × Int)) (p : List Int), (applyR p s f).length = p.length
  | [], _ => rfl
  | q :: f, p => by
    show (applyR (p.set q.1 (part p q.1 + q.2 * s)) s f).length = p.length
    rw [applyR_len s f, List.length_set]
theorem applyR_net (arcs : List Arc) (s v : Int) : ∀ (f : List (Nat × Int)) (p : List Int), arcs.length = p.length → (∀ q ∈ f, q.1 < arcs.length) → net arcs (applyR p s f) v = net arcs p v + s * fsum arcs f v
  | [], p, _, _ => by simp [applyR, fsum]
  | q :: f, p, hl, h => by
    show net arcs (applyR (p.set q.1 (part p q.1 + q.2 * s)) s f) v = _
    have h0 := h q List.mem_cons_self
    rw [applyR_net arcs s v f _ (by rw [List.length_set]; exact hl) fun q' hq => h q' (List.mem_cons_of_mem _ hq), net_set _ _ _ _ _ hl (by omega)]
    simp only [fsum]
    have e : part p q.1 + q.2 * s - part p q.1 = s * q.2 := by rw [Int.mul_comm s]; omega
    rw [e, Int.mul_add, Int.mul_assoc]
    omega
theorem applyR_out (s : Int) : ∀ (f : List (Nat × Int)) (p : List Int) (k : Nat), k ∉ f.map (·.1) → part (applyR p s f) k = part p k
  | [], _, _, _ => rfl
  | q :: f, p, k, h => by
    show part (applyR (p.set q.1 (part p q.1 + q.2 * s)) s f) k = part p k
    simp only [List.map_cons, List.mem_cons, not_or] at h
    rw [applyR_out s f _ k h.2, part_set_ne (Ne.symm h.1)]
theorem applyR_in (s : Int) : ∀ (f : List (Nat × Int)) (p : List Int), (f.map (·.1)).Nodup → (∀ q ∈ f, q.1 < p.length) → ∀ q ∈ f, part (applyR p s f) q.1 = part p q.1 + q.2 * s
  | [], _, _, _, q, h => by simp at h
  | q' :: f, p, nd, hl, q, hq => by
    show part (applyR (p.set q'.1 (part p q'.1 + q'.2 * s)) s f) q.1 = _
    rw [List.map_cons, List.nodup_cons] at nd
    have h0 := hl q' List.mem_cons_self
    rcases List.mem_cons.mp hq with rfl | hq
    · rw [applyR_out s f _ _ nd.1, part_set_same h0]
    · have ne : q'.1 ≠ q.1 := fun e => nd.1 (by rw [e]; exact List.mem_map_of_mem hq)
      rw [applyR_in s f _ nd.2 (fun q2 h2 => by rw [List.length_set]; exact hl q2 (List.mem_cons_of_mem _ h2)) q hq, part_set_ne ne]
theorem fold_min (g : Nat × Int → Int) : ∀ (f : List (Nat × Int)) (s : Int), (∀ q ∈ f, f.foldl (fun s q => if g q < s then g q else s) s ≤ g q) ∧ f.foldl (fun s q => if g q < s then g q else s) s ≤ s ∧
    (f.foldl (fun s q => if g q < s then g q else s) s = s ∨ ∃ q ∈ f, f.foldl (fun s q => if g q < s then g q else s) s = g q)
  | [], s => ⟨fun q h => by simp at h, Int.le_refl _, .inl rfl⟩
  | q :: f, s => by
    by_cases c : g q < s
    · obtain ⟨h1, h2, h3⟩ := fold_min g f (g q)
      simp only [List.foldl_cons, if_pos c]
      refine ⟨fun q' hq => ?_, by omega, ?_⟩
      · rcases List.mem_cons.mp hq with rfl | hq
        · exact h2
        · exact h1 q' hq
      · rcases h3 with h3 | ⟨q', hq, h3⟩
        · exact .inr ⟨q, List.mem_cons_self, h3⟩
        · exact .inr ⟨q', List.mem_cons_of_mem _ hq, h3⟩
    · obtain ⟨h1, h2, h3⟩ := fold_min g f s
      simp only [List.foldl_cons, if_neg c]
      refine ⟨fun q' hq => ?_, h2, ?_⟩
      · rcases List.mem_cons.mp hq with rfl | hq
        · omega
        · exact h1 q' hq
      · rcases h3 with h3 | ⟨q', hq, h3⟩
        · exact .inl h3
        · exact .inr ⟨q', List.mem_cons_of_mem _ hq, h3⟩
theorem dist_frac {p : List Int} {d : Int} {q : Nat × Int} (hd : 0 < d) (hf : frac p d q.1 = true) (hw : q.2 = 1 ∨ q.2 = -1) : 0 < dist p d q ∧ dist p d q < d ∧ (part p q.1 + q.2 * dist p d q) % d = 0 := by
  have hf' : part p q.1 % d ≠ 0 := of_decide_eq_true hf
  have h1 := Int.emod_nonneg (q.2 * -(part p q.1)) (b := d) (by omega)
  have h2 := Int.emod_lt_of_pos (q.2 * -(part p q.1)) hd
  unfold dist
  have e := Int.emod_add_mul_ediv (q.2 * -(part p q.1)) d
  revert e h1 h2
  generalize (q.2 * -(part p q.1)) % d = r
  generalize (q.2 * -(part p q.1)) / d = c
  intro h1 h2 e
  rcases hw with hw | hw
  · rw [hw] at e ⊢
    have e2 : part p q.1 + 1 * r = d * -c := by rw [Int.mul_neg]; omega
    refine ⟨?_, h2, ?_⟩
    · rcases Int.lt_or_eq_of_le h1 with z | z
      · exact z
      · exfalso
        apply hf'
        have : part p q.1 = d * -c := by omega
        rw [this]
        exact Int.mul_emod_right _ _
    · rw [e2]
      exact Int.mul_emod_right _ _
  · rw [hw] at e ⊢
    have e2 : part p q.1 + -1 * r = d * c := by omega
    refine ⟨?_, h2, ?_⟩
    · rcases Int.lt_or_eq_of_le h1 with z | z
      · exact z
      · exfalso
        apply hf'
        have : part p q.1 = d * c := by omega
        rw [this]
        exact Int.mul_emod_right _ _
    · rw [e2]
      exact Int.mul_emod_right _ _

def turn (n : Nat) (arcs : List Arc) (d : Int) (p : List Int) (k : Nat) : List Int := applyR p (stepOf p d (roundOf n arcs p d k)) (roundOf n arcs p d k)
def fracs (m : Nat) (p : List Int) (d : Int) : Nat := ((List.range m).filter (frac p d)).length
theorem filter_lt {P Q : Nat → Bool} : ∀ (l : List Nat), (∀ k ∈ l, P k = true → Q k = true) → (∃ k ∈ l, Q k = true ∧ P k = false) → (l.filter P).length < (l.filter Q).length
  | [], _, h => by simp at h
  | a :: l, h1, h2 => by
    have le : ∀ (l : List Nat), (∀ k ∈ l, P k = true → Q k = true) → (l.filter P).length ≤ (l.filter Q).length := by
      intro l
      induction l with
      | nil => intro _; exact Nat.le_refl _
      | cons b l ih =>
        intro h
        have ih := ih fun k hk => h k (List.mem_cons_of_mem _ hk)
        have hb := h b List.mem_cons_self
        rw [List.filter_cons, List.filter_cons]
        by_cases c : P b = true
        · rw [if_pos c, if_pos (hb c)]; simp; exact ih
        · rw [if_neg c]
          split
          · simp; omega
          · exact ih
    have h0 := h1 a List.mem_cons_self
    have ht : ∀ k ∈ l, P k = true → Q k = true := fun k hk => h1 k (List.mem_cons_of_mem _ hk)
    rw [List.filter_cons, List.filter_cons]
    obtain ⟨k, hk, hq, hp⟩ := h2
    rcases List.mem_cons.mp hk with rfl | hk
    · rw [if_neg (by rw [hp]; decide), if_pos hq]
      have := le l ht
      simp
      omega
    · have ih := filter_lt l ht ⟨k, hk, hq, hp⟩
      by_cases c : P a = true
      · rw [if_pos c, if_pos (h0 c)]; simp; exact ih
      · rw [if_neg c]
        split
        · simp; omega
        · exact ih

/-- what stays true of the parts -/
structure Inv (arcs : List Arc) (am : List Int) (d : Int) (p : List Int) : Prop where
  len : p.length = arcs.length
  bal : ∀ v, net arcs p v = 0
  lo : ∀ k, k < arcs.length → part am k / d * d ≤ part p k
  hi : ∀ k, k < arcs.length → part p k ≤ -(-(part am k) / d) * d
theorem up_le {d x r h : Int} (hd : 0 < d) (hx : x % d ≠ 0) (h1 : x ≤ h * d) (hr : r ≤ (1 * -x) % d) : x + 1 * r ≤ h * d := by
  have e1 := Int.emod_add_mul_ediv (1 * -x) d
  have e2 := Int.emod_lt_of_pos (1 * -x) hd
  have e3 := Int.emod_nonneg (1 * -x) (b := d) (by omega)
  revert hr e1 e2 e3
  generalize (1 * -x) % d = t
  generalize (1 * -x) / d = c
  intro hr e1 e2 e3
  have ne : x ≠ h * d := fun e => hx (by rw [e]; exact Int.mul_emod_left _ _)
  have lt : x < h * d := by omega
  have e4 : x + t = -c * d := by
    rw [Int.neg_mul, Int.mul_comm c d]
    omega
  have le : -c ≤ h := by
    refine Classical.byContradiction fun z => ?_
    have z1 : h + 1 ≤ -c := by omega
    have z2 : (h + 1) * d ≤ -c * d := Int.mul_le_mul_of_nonneg_right z1 (by omega)
    rw [Int.add_mul] at z2
    omega
  have := Int.mul_le_mul_of_nonneg_right le (show 0 ≤ d by omega)
  omega
theorem down_le {d x r h : Int} (hd : 0 < d) (hx : x % d ≠ 0) (h1 : h * d ≤ x) (hr : r ≤ (-1 * -x) % d) : h * d ≤ x + -1 * r := by
  have := up_le (d := d) (x := -x) (r := r) (h := -h) hd (fun e => hx (Int.emod_eq_zero_of_dvd (Int.dvd_neg.mp (Int.dvd_of_emod_eq_zero e)))) (by rw [Int.neg_mul]; omega)
    (by rw [show (1 : Int) * - -x = -1 * -x by omega]; exact hr)
  rw [Int.neg_mul] at this
  omega
theorem turn_ok {n : Nat} {arcs : List Arc} {am : List Int} {d : Int} {p : List Int} {k : Nat} (hd : 0 < d) (hg : ∀ k, k < arcs.length → Good n (arcOf arcs k)) (I : Inv arcs am d p) (hk : k < arcs.length) (hf : frac p d k = true) :
    Inv arcs am d (turn n arcs d p k) ∧ (∀ j, j < arcs.length → frac (turn n arcs d p k) d j = true → frac p d j = true) ∧ fracs arcs.length (turn n arcs d p k) d < fracs arcs.length p d := by
  have R := roundOf_ok (n := n) (p := p) (d := d) (k := k) I.len.symm hg (fun v => by rw [I.bal v]; exact Int.zero_emod _) hk hf
  unfold turn
  revert R
  generalize roundOf n arcs p d k = f
  intro R
  have hlen : ∀ q ∈ f, q.1 < p.length := fun q hq => by rw [I.len]; exact (R.ok q hq).1
  obtain ⟨m1, m2, m3⟩ := fold_min (dist p d) f d
  have step_le : ∀ q ∈ f, stepOf p d f ≤ dist p d q := m1
  obtain ⟨q0, hq0, e0⟩ : ∃ q ∈ f, stepOf p d f = dist p d q := by
    rcases m3 with m3 | m3
    · exfalso
      cases hf' : f with
      | nil => exact R.ne hf'
      | cons q r =>
        have hq : q ∈ f := by rw [hf']; exact List.mem_cons_self
        have a := step_le q hq
        have b := (dist_frac hd (R.ok q hq).2.1 (R.ok q hq).2.2).2.1
        have c : stepOf p d f = d := m3
        omega
    · exact m3
  have d0 := dist_frac hd (R.ok q0 hq0).2.1 (R.ok q0 hq0).2.2
  have inn := applyR_in (stepOf p d f) f p R.nd hlen
  have out := applyR_out (stepOf p d f) f p
  have key : ∀ j, j < arcs.length → (part (applyR p (stepOf p d f) f) j = part p j) ∨ ∃ q ∈ f, q.1 = j ∧ part (applyR p (stepOf p d f) f) j = part p j + q.2 * stepOf p d f := fun j _ => by
    by_cases c : j ∈ f.map (·.1)
    · obtain ⟨q, hq, e⟩ := List.mem_map.mp c
      exact .inr ⟨q, hq, e, by rw [← e]; exact inn q hq⟩
    · exact .inl (out j c)
  have stays : ∀ j, j < arcs.length → frac (applyR p (stepOf p d f) f) d j = true → frac p d j = true := fun j hj h => by
    rcases key j hj with e | ⟨q, hq, e, _⟩
    · unfold frac at h ⊢
      rw [e] at h
      exact h
    · rw [← e]
      exact (R.ok q hq).2.1
  refine ⟨⟨by rw [applyR_len]; exact I.len, fun v => ?_, fun j hj => ?_, fun j hj => ?_⟩, stays, ?_⟩
  · rw [applyR_net arcs _ v f p I.len.symm fun q hq => (R.ok q hq).1, R.bal v, I.bal v]
    omega
  · rcases key j hj with e | ⟨q, hq, e, e2⟩
    · rw [e]
      exact I.lo j hj
    · have fr : part p j % d ≠ 0 := by rw [← e]; exact of_decide_eq_true (R.ok q hq).2.1
      have le := step_le q hq
      have lo := I.lo j hj
      rw [e2]
      unfold dist at le
      rcases (R.ok q hq).2.2 with w | w
      · have s0 : 0 < stepOf p d f := by rw [e0]; exact d0.1
        rw [w]
        omega
      · rw [w, e] at le
        rw [w]
        exact down_le hd fr lo le
  · rcases key j hj with e | ⟨q, hq, e, e2⟩
    · rw [e]
      exact I.hi j hj
    · have fr : part p j % d ≠ 0 := by rw [← e]; exact of_decide_eq_true (R.ok q hq).2.1
      have le := step_le q hq
      have hi := I.hi j hj
      rw [e2]
      unfold dist at le
      rcases (R.ok q hq).2.2 with w | w
      · rw [w, e] at le
        rw [w]
        exact up_le hd fr hi le
      · have s0 : 0 < stepOf p d f := by rw [e0]; exact d0.1
        rw [w]
        omega
  · refine filter_lt _ (fun j hj h => stays j (List.mem_range.mp hj) h) ⟨q0.1, List.mem_range.mpr (R.ok q0 hq0).1, (R.ok q0 hq0).2.1, ?_⟩
    unfold frac
    rw [inn q0 hq0, e0]
    exact decide_eq_false (fun z => z d0.2.2)

/-! ### rounding -/
def inner (n : Nat) (arcs : List Arc) (d : Int) : Nat → List Int → Nat → List Int
  | 0, p, _ => p
  | f + 1, p, k => if frac p d k then inner n arcs d f (turn n arcs d p k) k else p
theorem inner_ok {n : Nat} {arcs : List Arc} {am : List Int} {d : Int} (hd : 0 < d) (hg : ∀ k, k < arcs.length → Good n (arcOf arcs k)) {k : Nat} (hk : k < arcs.length) :
    ∀ (f : Nat) (p : List Int), Inv arcs am d p → fracs arcs.length p d ≤ f → Inv arcs am d (inner n arcs d f p k) ∧ (∀ j, j < arcs.length → frac (inner n arcs d f p k) d j = true → frac p d j = true) ∧ frac (inner n arcs d f p k) d k = false
  | 0, p, I, h => by
    refine ⟨I, fun j _ h => h, ?_⟩
    show frac p d k = false
    unfold fracs at h
    have e := List.eq_nil_of_length_eq_zero (Nat.le_zero.mp h)
    rw [List.filter_eq_nil_iff] at e
    have := e k (List.mem_range.mpr hk)
    simpa using this
  | f + 1, p, I, h => by
    unfold inner
    by_cases c : frac p d k = true
    · rw [if_pos c]
      obtain ⟨I2, h2, h3⟩ := turn_ok hd hg I hk c
      obtain ⟨I3, h4, h5⟩ := inner_ok hd hg hk f _ I2 (by omega)
      exact ⟨I3, fun j hj z => h2 j hj (h4 j hj z), h5⟩
    · rw [if_neg c]
      exact ⟨I, fun j _ h => h, by simpa using c⟩
def outer (n : Nat) (arcs : List Arc) (d : Int) (am : List Int) (i : Nat) : List Int := (List.range i).foldl (fun p k => inner n arcs d (arcs.length + 1) p k) am
theorem outer_succ (n : Nat) (arcs : List Arc) (d : Int) (am : List Int) (i : Nat) : outer n arcs d am (i + 1) = inner n arcs d (arcs.length + 1) (outer n arcs d am i) i := by
  unfold outer
  rw [List.range_succ, List.foldl_append]
  rfl
theorem fracs_le (m : Nat) (p : List Int) (d : Int) : fracs m p d ≤ m := by
  unfold fracs
  exact Nat.le_trans (List.length_filter_le _ _) (by simp)
theorem inv0 {arcs : List Arc} {am : List Int} {d : Int} (hd : 0 < d) (hl : arcs.length = am.length) (hb : ∀ v, net arcs am v = 0) : Inv arcs am d am := by
  refine ⟨hl.symm, hb, fun k _ => Int.ediv_mul_le _ (by omega), fun k _ => ?_⟩
  have := Int.ediv_mul_le (-(part am k)) (b := d) (by omega)
  rw [Int.neg_mul]
  omega
theorem outer_ok {n : Nat} {arcs : List Arc} {am : List Int} {d : Int} (hd : 0 < d) (hg : ∀ k, k < arcs.length → Good n (arcOf arcs k)) (hl : arcs.length = am.length) (hb : ∀ v, net arcs am v = 0) :
    ∀ i, i ≤ arcs.length → Inv arcs am d (outer n arcs d am i) ∧ ∀ j, j < i → frac (outer n arcs d am i) d j = false
  | 0, _ => ⟨inv0 hd hl hb, fun j h => by omega⟩
  | i + 1, hi => by
    obtain ⟨I, h⟩ := outer_ok hd hg hl hb i (by omega)
    rw [outer_succ]
    obtain ⟨I2, h2, h3⟩ := inner_ok hd hg (k := i) (by omega) (arcs.length + 1) _ I (Nat.le_trans (fracs_le _ _ _) (by omega))
    refine ⟨I2, fun j hj => ?_⟩
    by_cases c : j = i
    · rw [c]; exact h3
    · have := h j (by omega)
      cases z : frac (inner n arcs d (arcs.length + 1) (outer n arcs d am i) i) d j with
      | false => rfl
      | true => rw [h2 j (by omega) z] at this; exact this
def roundedF (n : Nat) (arcs : List Arc) (am : List Int) (d : Int) : List Int := (outer n arcs d am arcs.length).map (· / d)
theorem net_scale (d v : Int) : ∀ (as : List Arc) (xs : List Int), (∀ k, k < xs.length → part xs k % d = 0) → d * net as (xs.map (· / d)) v = net as xs v
  | [], _, _ => by simp [net]
  | _ :: _, [], _ => by simp [net]
  | p :: as, x :: xs, h => by
    have ih := net_scale d v as xs fun k hk => h (k + 1) (by simpa using hk)
    have h0 : x % d = 0 := h 0 (by simp)
    have e : d * (x / d) = x := Int.mul_ediv_cancel' (Int.dvd_of_emod_eq_zero h0)
    simp only [List.map_cons, net, Int.mul_add, ih, ← Int.mul_assoc, e]
theorem rounded_ok {n : Nat} {arcs : List Arc} {am : List Int} {d : Int} (hd : 0 < d) (hg : ∀ k, k < arcs.length → Good n (arcOf arcs k)) (hl : arcs.length = am.length) (hb : ∀ v, net arcs am v = 0) :
    (roundedF n arcs am d).length = arcs.length ∧ (∀ k, k < arcs.length → part am k - d < part (roundedF n arcs am d) k * d ∧ part (roundedF n arcs am d) k * d < part am k + d) ∧ ∀ v, net arcs (roundedF n arcs am d) v = 0 := by
  obtain ⟨I, h⟩ := outer_ok hd hg hl hb arcs.length (Nat.le_refl _)
  unfold roundedF
  revert I h
  generalize outer n arcs d am arcs.length = p
  intro I h
  have whole : ∀ k, k < arcs.length → part p k % d = 0 := fun k hk => by
    have := of_decide_eq_false (h k hk)
    exact Classical.byContradiction this
  refine ⟨by rw [List.length_map, I.len], fun k hk => ?_, fun v => ?_⟩
  · have e : part (p.map (· / d)) k = part p k / d := by
      refine part_get ?_
      rw [List.getElem?_map, get_part (by rw [I.len]; exact hk)]
      rfl
    rw [e, Int.ediv_mul_cancel (Int.dvd_of_emod_eq_zero (whole k hk))]
    have lo := I.lo k hk
    have hi := I.hi k hk
    have a := Int.lt_ediv_add_one_mul_self (part am k) hd
    have b := Int.lt_ediv_add_one_mul_self (-(part am k)) hd
    rw [Int.add_mul] at a b
    rw [Int.neg_mul] at hi
    omega
  · have := net_scale d v arcs p fun k hk => whole k (by rw [I.len] at hk; exact hk)
    rw [I.bal v] at this
    rcases Int.mul_eq_zero.mp this with z | z
    · omega
    · exact z

/-! ### networks that are drawn -/
structure NetOk (n : Nat) (d : Int) (c : Nat) (as : List Arc) (xs : List Int) : Prop where
  len : as.length = xs.length
  good : ∀ k, k < as.length → Good n (arcOf as k)
  few : as.length ≤ c
  some : 0 < c → 0 < as.length
  size : ∀ k, k < xs.length → -(2 * d * c) ≤ part xs k ∧ part xs k ≤ 2 * d * c
theorem NetOk.zero (n : Nat) (d : Int) : NetOk n d 0 [] [] := ⟨rfl, fun k h => by simp at h, by simp, fun h => absurd h (by omega), fun k h => by simp at h⟩
theorem NetOk.more {n c : Nat} {d : Int} {as : List Arc} {xs : List Int} (h : NetOk n d c as xs) (hc : 0 < c ) (hd : 0 < d) {c' : Nat} (le : c ≤ c') : NetOk n d c' as xs := by
  refine ⟨h.len, h.good, Nat.le_trans h.few le, fun _ => h.some hc, fun k hk => ?_⟩
  have := h.size k hk
  have m : 2 * d * (c : Int) ≤ 2 * d * (c' : Int) := Int.mul_le_mul_of_nonneg_left (by omega) (by omega)
  omega
theorem arcOf_snoc_lt {as : List Arc} {e : Arc} {k : Nat} (h : k < as.length) : arcOf (as ++ [e]) k = arcOf as k := by
  refine arc_get ?_
  rw [List.getElem?_append_left h, get_arc h]
theorem arcOf_snoc {as : List Arc} {e : Arc} : arcOf (as ++ [e]) as.length = e := by
  refine arc_get ?_
  rw [List.getElem?_append_right (Nat.le_refl _), Nat.sub_self]
  rfl
theorem part_snoc_lt {xs : List Int} {x : Int} {k : Nat} (h : k < xs.length) : part (xs ++ [x]) k = part xs k := by
  refine part_get ?_
  rw [List.getElem?_append_left h, get_part h]
theorem part_snoc {xs : List Int} {x : Int} : part (xs ++ [x]) xs.length = x := by
  refine part_get ?_
  rw [List.getElem?_append_right (Nat.le_refl _), Nat.sub_self]
  rfl
/-- an arc's amount grows -/
theorem NetOk.old {n c : Nat} {d pt : Int} {as : List Arc} {xs : List Int} (h : NetOk n d c as xs) (hd : 0 < d) (h1 : -(2 * d) ≤ pt) (h2 : pt ≤ 2 * d) {k : Nat} (hk : k < as.length) :
    NetOk n d (c + 1) as (xs.set k (part xs k + pt)) ∧ ∀ v, net as (xs.set k (part xs k + pt)) v = net as xs v + pt * dlt (arcOf as k) v := by
  have e : 2 * d * ((c + 1 : Nat) : Int) = 2 * d * c + 2 * d := by
    rw [Int.natCast_add, Int.mul_add]
    omega
  have p : 0 ≤ 2 * d * (c : Int) := Int.mul_nonneg (by omega) (by omega)
  refine ⟨⟨by rw [List.length_set]; exact h.len, h.good, by have := h.few; omega, fun _ => by omega, fun j hj => ?_⟩, fun v => ?_⟩
  · rw [List.length_set] at hj
    rw [e]
    have a := h.size j hj
    by_cases c : k = j
    · rw [c, part_set_same hj]
      omega
    · rw [part_set_ne c]
      omega
  · rw [net_set as xs k _ v h.len (by rw [← h.len]; exact hk)]
    have : part xs k + pt - part xs k = pt := by omega
    rw [this]
/-- a new arc with this amount -/
theorem NetOk.new {n c : Nat} {d pt : Int} {as : List Arc} {xs : List Int} {e : Arc} (h : NetOk n d c as xs) (hd : 0 < d) (h1 : -(2 * d) ≤ pt) (h2 : pt ≤ 2 * d) (hg : Good n e) :
    NetOk n d (c + 1) (as ++ [e]) (xs ++ [pt]) ∧ ∀ v, net (as ++ [e]) (xs ++ [pt]) v = net as xs v + pt * dlt e v := by
  have ee : 2 * d * ((c + 1 : Nat) : Int) = 2 * d * c + 2 * d := by
    rw [Int.natCast_add, Int.mul_add]
    omega
  have p : 0 ≤ 2 * d * (c : Int) := Int.mul_nonneg (by omega) (by omega)
  refine ⟨⟨by simp [h.len], fun k hk => ?_, by have := h.few; simp; omega, fun _ => by simp, fun j hj => ?_⟩, fun v => net_snoc as xs e pt v h.len⟩
  · by_cases c : k < as.length
    · rw [arcOf_snoc_lt c]
      exact h.good k c
    · have e : k = as.length := by
        rw [List.length_append, List.length_singleton] at hk
        omega
      rw [e, arcOf_snoc]
      exact hg
  · rw [ee]
    by_cases c : j < xs.length
    · rw [part_snoc_lt c]
      have := h.size j c
      omega
    · have e : j = xs.length := by
        rw [List.length_append, List.length_singleton] at hj
        omega
      rw [e, part_snoc]
      omega
/-- the nodes in a drawn order -/
structure Ord (n : Nat) (os : List Int) : Prop where
  len : os.length = n
  nd : os.Nodup
  in_ : ∀ v ∈ os, 0 ≤ v ∧ v < n
theorem Ord.base (n : Nat) : Ord n ((List.range n).map fun (i : Nat) => (i : Int)) := by
  refine ⟨by simp, ?_, fun v hv => ?_⟩
  · exact List.Pairwise.map _ (fun a b h e => h (by have e2 : (a : Int) = (b : Int) := e; omega)) (List.nodup_iff_pairwise_ne.mp List.nodup_range)
  · obtain ⟨i, hi, rfl⟩ := List.mem_map.mp hv
    have := List.mem_range.mp hi
    omega
theorem Ord.swap {n : Nat} {os : List Int} (h : Ord n os) {i j : Nat} (hi : i < n) (hj : j < n) : Ord n ((os.set i (part os j)).set j (part os i)) := by
  have li : i < os.length := by rw [h.len]; exact hi
  have lj : j < os.length := by rw [h.len]; exact hj
  have e1 : part os i = os[i] := part_get (List.getElem?_eq_getElem li)
  have e2 : part os j = os[j] := part_get (List.getElem?_eq_getElem lj)
  have p : ((os.set i os[j]).set j os[i]).Perm os := List.set_set_perm li lj
  rw [e1, e2]
  exact ⟨by rw [List.length_set, List.length_set]; exact h.len, p.nodup_iff.mpr h.nd, fun v hv => h.in_ v (p.mem_iff.mp hv)⟩
theorem Ord.ne {n : Nat} {os : List Int} (h : Ord n os) {i j : Nat} (hi : i < n) (hj : j < n) (ne : i ≠ j) : part os i ≠ part os j := by
  intro e
  have li : i < os.length := by rw [h.len]; exact hi
  have lj : j < os.length := by rw [h.len]; exact hj
  have e1 : part os i = os[i] := part_get (List.getElem?_eq_getElem li)
  have e2 : part os j = os[j] := part_get (List.getElem?_eq_getElem lj)
  rw [e1, e2] at e
  exact ne ((List.getElem_inj h.nd).mp e)
theorem Ord.at {n : Nat} {os : List Int} (h : Ord n os) {i : Nat} (hi : i < n) : 0 ≤ part os i ∧ part os i < n := by
  have li : i < os.length := by rw [h.len]; exact hi
  exact h.in_ _ (List.mem_of_getElem? (get_part li))
theorem whole_part {d p : Int} (hd : 0 < d) (h1 : -d ≤ p) (h2 : p ≤ 2 * d) : -d ≤ d * (p / d) ∧ d * (p / d) ≤ 2 * d := by
  have a := Int.mul_ediv_self_le (x := p) (k := d) (by omega)
  have b := Int.lt_mul_ediv_self_add (x := p) (k := d) hd
  have c : -1 ≤ p / d := Int.le_ediv_of_mul_le hd (by omega)
  have e := Int.mul_le_mul_of_nonneg_left c (show 0 ≤ d by omega)
  omega
end Cir

/-! # Exchanges: rounds along which the rest of two circulations can be moved. Plain Lean -/
namespace Cir

def leadsB (arcs : List Arc) (r : List Int) (a : Nat) (v : Int) : Bool := (decide (0 < part r a) && decide ((arcOf arcs a).1 = v)) || (decide (part r a < 0) && decide ((arcOf arcs a).2 = v))
def sgn (x : Int) : Int := if x < 0 then -1 else 1
def nextA (arcs : List Arc) (r : List Int) (v : Int) : Nat := ((nearOf arcs v).find? fun k => leadsB arcs r k v).getD 0
def beyond (arcs : List Arc) (a : Nat) (v : Int) : Int := (arcOf arcs a).1 + (arcOf arcs a).2 - v
def dround (arcs : List Arc) (r : List Int) : Nat → List Int → List (Nat × Int) → Int → List (Nat × Int)
  | 0, _, _, _ => []
  | f + 1, vs, path, node =>
    if beyond arcs (nextA arcs r node) node ∈ vs then (path ++ [(nextA arcs r node, sgn (part r (nextA arcs r node)))]).drop (vs.idxOf (beyond arcs (nextA arcs r node) node))
    else dround arcs r f (vs ++ [beyond arcs (nextA arcs r node) node]) (path ++ [(nextA arcs r node, sgn (part r (nextA arcs r node)))]) (beyond arcs (nextA arcs r node) node)
def startOf (arcs : List Arc) (r : List Int) (k : Nat) : Int := if part r k < 0 then (arcOf arcs k).2 else (arcOf arcs k).1
def droundOf (n : Nat) (arcs : List Arc) (r : List Int) (k : Nat) : List (Nat × Int) := dround arcs r (n + 1) [startOf arcs r k] [] (startOf arcs r k)

theorem leads_ste {arcs : List Arc} {r : List Int} {a : Nat} {v : Int} (h : leadsB arcs r a v = true) : Ste arcs a (sgn (part r a)) v (beyond arcs a v) ∧ (sgn (part r a) = 1 ∨ sgn (part r a) = -1) := by
  unfold leadsB at h
  simp only [Bool.or_eq_true, Bool.and_eq_true, decide_eq_true_eq] at h
  unfold sgn beyond
  rcases h with ⟨h1, h2⟩ | ⟨h1, h2⟩
  · rw [if_neg (by omega)]
    exact ⟨.inl ⟨rfl, h2, by omega⟩, .inl rfl⟩
  · rw [if_pos h1]
    exact ⟨.inr ⟨rfl, h2, by omega⟩, .inr rfl⟩
theorem leads_uniq {arcs : List Arc} {r : List Int} {a : Nat} {u v : Int} (h : leadsB arcs r a u = true) (g : leadsB arcs r a v = true) : u = v := by
  unfold leadsB at h g
  simp only [Bool.or_eq_true, Bool.and_eq_true, decide_eq_true_eq] at h g
  omega
theorem leads_near {arcs : List Arc} {r : List Int} {a : Nat} {v : Int} (ha : a < arcs.length) (h : leadsB arcs r a v = true) : a ∈ nearOf arcs v := by
  refine mem_near.mpr ⟨ha, ?_⟩
  unfold leadsB at h
  unfold touch
  simp only [Bool.or_eq_true, Bool.and_eq_true, decide_eq_true_eq] at h ⊢
  omega
theorem nextA_ok {arcs : List Arc} {r : List Int} {v : Int} (h : ∃ a, a < arcs.length ∧ leadsB arcs r a v = true) : nextA arcs r v < arcs.length ∧ leadsB arcs r (nextA arcs r v) v = true ∧ ((nearOf arcs v).find? fun k => leadsB arcs r k v) = some (nextA arcs r v) := by
  unfold nextA
  cases e : (nearOf arcs v).find? fun k => leadsB arcs r k v with
  | none =>
    obtain ⟨a, h1, h2⟩ := h
    have := List.find?_eq_none.mp e a (leads_near h1 h2)
    exact absurd h2 this
  | some k =>
    have q : leadsB arcs r k v = true := List.find?_some (p := fun k => leadsB arcs r k v) e
    exact ⟨(mem_near.mp (List.mem_of_find?_eq_some e)).1, q, rfl⟩
theorem net_pos (v : Int) : ∀ (as : List Arc) (r : List Int), (∀ k, k < r.length → 0 ≤ part r k * dlt (arcOf as k) v) → as.length = r.length → 0 ≤ net as r v ∧ ∀ k, k < r.length → part r k * dlt (arcOf as k) v ≤ net as r v
  | [], [], _, _ => ⟨Int.le_refl _, fun k h => by simp at h⟩
  | p :: as, x :: r, h, hl => by
    obtain ⟨h1, h2⟩ := net_pos v as r (fun k hk => h (k + 1) (by simpa using hk)) (by simpa using hl)
    have h0 : 0 ≤ x * dlt p v := h 0 (by simp)
    refine ⟨?_, fun k hk => ?_⟩
    · simp only [net]; omega
    · cases k with
      | zero =>
        show x * dlt p v ≤ x * dlt p v + net as r v
        omega
      | succ k =>
        have := h2 k (by simpa using hk)
        show part r k * dlt (arcOf as k) v ≤ x * dlt p v + net as r v
        omega
  | [], _ :: _, _, h => by simp at h
  | _ :: _, [], _, h => by simp at h
/-- what enters a node goes on -/
theorem goes_on {n : Int} {arcs : List Arc} {r : List Int} {v : Int} {a : Nat} (hl : arcs.length = r.length) (hg : ∀ k, k < arcs.length → Good n (arcOf arcs k)) (hb : net arcs r v = 0) (ha : a < arcs.length) (hin : 0 < part r a * dlt (arcOf arcs a) v) :
    ∃ k, k < arcs.length ∧ leadsB arcs r k v = true := by
  refine Classical.byContradiction fun no => ?_
  have h : ∀ k, k < r.length → 0 ≤ part r k * dlt (arcOf arcs k) v := fun k hk => by
    have g := (hg k (by omega)).2.2
    refine Classical.byContradiction fun z => no ⟨k, by omega, ?_⟩
    unfold leadsB
    unfold dlt ind at z
    simp only [Bool.or_eq_true, Bool.and_eq_true, decide_eq_true_eq]
    by_cases c1 : (arcOf arcs k).1 = v
    · have c2 : (arcOf arcs k).2 ≠ v := fun e => g (c1.trans e.symm)
      rw [if_neg c2, if_pos c1] at z
      omega
    · by_cases c2 : (arcOf arcs k).2 = v
      · rw [if_pos c2, if_neg c1] at z
        omega
      · rw [if_neg c2, if_neg c1] at z
        simp at z
  have := (net_pos v arcs r h hl).2 a (by omega)
  omega
theorem leads_in {n : Int} {arcs : List Arc} {r : List Int} {a : Nat} {u : Int} (hg : Good n (arcOf arcs a)) (h : leadsB arcs r a u = true) : 0 < part r a * dlt (arcOf arcs a) (beyond arcs a u) := by
  unfold leadsB at h
  unfold dlt ind beyond
  simp only [Bool.or_eq_true, Bool.and_eq_true, decide_eq_true_eq] at h
  have g := hg.2.2
  rcases h with ⟨h1, h2⟩ | ⟨h1, h2⟩
  · rw [if_pos (by omega), if_neg (by omega)]
    omega
  · rw [if_neg (by omega), if_pos (by omega)]
    omega
structure Ds (n : Nat) (arcs : List Arc) (r : List Int) (vs : List Int) (path : List (Nat × Int)) (node : Int) : Prop where
  wk : Wk arcs vs path
  nd : vs.Nodup
  last : vs.getLast? = some node
  rng : ∀ v ∈ vs, 0 ≤ v ∧ v < n
  on : ∃ k, k < arcs.length ∧ leadsB arcs r k node = true
  old : ∀ (i : Nat) (q : Nat × Int) (u : Int), path[i]? = some q → vs[i]? = some u → q.1 < arcs.length ∧ leadsB arcs r q.1 u = true ∧ q.2 = sgn (part r q.1)
/-- a round of arcs that lead on -/
structure Rd (arcs : List Arc) (r : List Int) (found : List (Nat × Int)) : Prop where
  cyc : ∃ (v : Int) (us : List Int), Wk arcs (us ++ [v]) found ∧ us.Nodup ∧ us.head? = some v ∧ ∀ (i : Nat) (q : Nat × Int) (u : Int), found[i]? = some q → us[i]? = some u → leadsB arcs r q.1 u = true
  ok : ∀ q ∈ found, q.1 < arcs.length ∧ part r q.1 ≠ 0 ∧ q.2 = sgn (part r q.1)
  ne : found ≠ []
theorem rd_of {n : Nat} {arcs : List Arc} {r : List Int} {vs : List Int} {path : List (Nat × Int)} {node v : Int} {a : Nat} (S : Ds n arcs r vs path node) (ha : a < arcs.length) (hl : leadsB arcs r a node = true) (hv : v = beyond arcs a node) (hin : v ∈ vs) :
    Rd arcs r ((path ++ [(a, sgn (part r a))]).drop (vs.idxOf v)) := by
  obtain ⟨hs, hw⟩ := leads_ste hl
  rw [← hv] at hs
  have wk2 := S.wk.snoc S.last hs
  have hlen := S.wk.len
  have hi : vs.idxOf v < vs.length := List.idxOf_lt_length_of_mem hin
  have hget : vs[vs.idxOf v]? = some v := by rw [List.getElem?_eq_getElem hi, List.getElem_idxOf hi]
  revert hi hget
  generalize vs.idxOf v = i0
  intro hi hget
  have wk3 := wk2.drop i0 (by simp; omega)
  rw [List.drop_append_of_le_length (by omega)] at wk3
  have nz : ∀ {q : Nat × Int} {u : Int}, leadsB arcs r q.1 u = true → part r q.1 ≠ 0 := fun {q u} h e => by
    unfold leadsB at h
    simp [e] at h
  have all : ∀ (i : Nat) (q : Nat × Int), (path ++ [(a, sgn (part r a))])[i]? = some q → ∃ u, vs[i]? = some u ∧ q.1 < arcs.length ∧ leadsB arcs r q.1 u = true ∧ q.2 = sgn (part r q.1) := fun i q h => by
    rcases getElem?_snoc_last h with ⟨c, h⟩ | ⟨c, rfl⟩
    · have hu : vs[i]? = some (vs[i]'(by omega)) := List.getElem?_eq_getElem _
      exact ⟨_, hu, S.old i q _ h hu⟩
    · refine ⟨node, ?_, ha, hl, rfl⟩
      rw [← S.last, List.getLast?_eq_getElem?]
      congr 1
      omega
  refine ⟨⟨v, vs.drop i0, wk3, S.nd.sublist (List.drop_sublist _ _), ?_, fun i q u h1 h2 => ?_⟩, fun q hq => ?_, fun e => ?_⟩
  · rw [List.head?_drop]
    exact hget
  · rw [List.getElem?_drop] at h1 h2
    obtain ⟨u', hu, _, h3, _⟩ := all _ q h1
    rw [hu] at h2
    rw [← Option.some.inj h2]
    exact h3
  · obtain ⟨i, h⟩ := List.mem_iff_getElem?.mp (List.mem_of_mem_drop hq)
    obtain ⟨u, _, h1, h2, h3⟩ := all i q h
    exact ⟨h1, nz h2, h3⟩
  · have := congrArg List.length e
    simp at this
    omega
theorem ds_step {n : Nat} {arcs : List Arc} {r : List Int} {vs : List Int} {path : List (Nat × Int)} {node v : Int} {a : Nat} (hlr : arcs.length = r.length) (hg : ∀ k, k < arcs.length → Good n (arcOf arcs k)) (hb : ∀ v, net arcs r v = 0) (S : Ds n arcs r vs path node) (ha : a < arcs.length) (hl : leadsB arcs r a node = true) (hv : v = beyond arcs a node) (hin : v ∉ vs) :
    Ds n arcs r (vs ++ [v]) (path ++ [(a, sgn (part r a))]) v := by
  obtain ⟨hs, hw⟩ := leads_ste hl
  have inn := leads_in (hg a ha) hl
  rw [← hv] at hs inn
  have wk2 := S.wk.snoc S.last hs
  have hlen := S.wk.len
  have far := hs.far (hg a ha)
  refine ⟨wk2, ?_, by simp, fun u hu => ?_, goes_on hlr hg (hb v) ha inn, fun i q u h1 h2 => ?_⟩
  · rw [List.nodup_append]
    refine ⟨S.nd, by simp, fun x hx y hy => ?_⟩
    rw [List.mem_singleton] at hy
    subst hy
    rintro rfl
    exact hin hx
  · rcases List.mem_append.mp hu with hu | hu
    · exact S.rng u hu
    · rw [List.mem_singleton] at hu
      subst hu
      exact far.1
  · rcases getElem?_snoc_last h1 with ⟨c, h1⟩ | ⟨c, rfl⟩
    · rw [List.getElem?_append_left (by omega)] at h2
      exact S.old i q u h1 h2
    · rw [List.getElem?_append_left (by omega)] at h2
      have e : u = node := by
        have := S.last
        rw [List.getLast?_eq_getElem?, show vs.length - 1 = i by omega, h2] at this
        exact Option.some.inj this
      rw [e]
      exact ⟨ha, hl, rfl⟩
theorem dround_ok {n : Nat} {arcs : List Arc} {r : List Int} (hlr : arcs.length = r.length) (hg : ∀ k, k < arcs.length → Good n (arcOf arcs k)) (hb : ∀ v, net arcs r v = 0) :
    ∀ (f : Nat) (vs : List Int) (path : List (Nat × Int)) (node : Int), Ds n arcs r vs path node → n + 1 ≤ f + vs.length → Rd arcs r (dround arcs r f vs path node)
  | 0, vs, path, node, S, hf => by
    have := nodup_le n vs S.nd S.rng
    omega
  | f + 1, vs, path, node, S, hf => by
    unfold dround
    obtain ⟨a1, a2, _⟩ := nextA_ok S.on
    by_cases hin : beyond arcs (nextA arcs r node) node ∈ vs
    · rw [if_pos hin]
      exact rd_of S a1 a2 rfl hin
    · rw [if_neg hin]
      exact dround_ok hlr hg hb f _ _ _ (ds_step hlr hg hb S a1 a2 rfl hin) (by simp; omega)
theorem start_leads {arcs : List Arc} {r : List Int} {k : Nat} (h : part r k ≠ 0) : leadsB arcs r k (startOf arcs r k) = true := by
  unfold leadsB startOf
  by_cases c : part r k < 0
  · rw [if_pos c]; simp [c]
  · rw [if_neg c]
    have : 0 < part r k := by omega
    simp [this]
theorem ds0 {n : Nat} {arcs : List Arc} {r : List Int} {k : Nat} (hg : ∀ k, k < arcs.length → Good n (arcOf arcs k)) (hk : k < arcs.length) (h : part r k ≠ 0) : Ds n arcs r [startOf arcs r k] [] (startOf arcs r k) := by
  refine ⟨trivial, by simp, rfl, fun v hv => ?_, ⟨k, hk, start_leads h⟩, fun i q u h => by simp at h⟩
  rw [List.mem_singleton] at hv
  subst hv
  unfold startOf
  have g := hg k hk
  split
  · exact g.2.1
  · exact g.1
theorem droundOf_ok {n : Nat} {arcs : List Arc} {r : List Int} {k : Nat} (hlr : arcs.length = r.length) (hg : ∀ k, k < arcs.length → Good n (arcOf arcs k)) (hb : ∀ v, net arcs r v = 0) (hk : k < arcs.length) (h : part r k ≠ 0) :
    Rd arcs r (droundOf n arcs r k) := dround_ok hlr hg hb _ _ _ _ (ds0 hg hk h) (by simp)
theorem Rd.nd {arcs : List Arc} {r : List Int} {found : List (Nat × Int)} (R : Rd arcs r found) : (found.map (·.1)).Nodup := by
  obtain ⟨v, us, wk, nd, hd, ld⟩ := R.cyc
  have hlen := wk.len
  rw [List.length_append, List.length_singleton] at hlen
  rw [List.nodup_iff_pairwise_ne, List.pairwise_iff_getElem]
  intro i j hi hj hij e
  rw [List.length_map] at hi hj
  rw [List.getElem_map, List.getElem_map] at e
  have gi : found[i]? = some found[i] := List.getElem?_eq_getElem hi
  have gj : found[j]? = some found[j] := List.getElem?_eq_getElem hj
  have ui : us[i]? = some (us[i]'(by omega)) := List.getElem?_eq_getElem _
  have uj : us[j]? = some (us[j]'(by omega)) := List.getElem?_eq_getElem _
  have li := ld i _ _ gi ui
  have lj := ld j _ _ gj uj
  rw [e] at li
  have := leads_uniq li lj
  have := (List.getElem_inj nd).mp this
  omega
theorem Rd.bal {arcs : List Arc} {r : List Int} {found : List (Nat × Int)} (R : Rd arcs r found) (x : Int) : fsum arcs found x = 0 := by
  obtain ⟨v, us, wk, nd, hd, ld⟩ := R.cyc
  cases us with
  | nil => simp at hd
  | cons u us =>
    simp at hd
    subst hd
    have := Wk.sum (u := u) (us := us ++ [u]) (l := u) wk (by rw [List.getLast?_cons]; simp) x
    omega

/-! ### the exchange -/
def minL (l : List Int) : Int := l.min?.getD 0
theorem minL_eq {l : List Int} {m : Int} (h : m ∈ l) (hl : ∀ x ∈ l, m ≤ x) : minL l = m := by
  unfold minL
  rw [(List.min?_eq_some_iff).mpr ⟨h, hl⟩]
  rfl
theorem minL_mem {l : List Int} (h : l ≠ []) : minL l ∈ l ∧ ∀ x ∈ l, minL l ≤ x := by
  unfold minL
  cases e : l.min? with
  | none => exact absurd (List.min?_eq_none_iff.mp e) h
  | some m => exact (List.min?_eq_some_iff).mp e
def absI (x : Int) : Int := if x < 0 then -x else x
def exStep (r : List Int) (found : List (Nat × Int)) : Int := minL (found.map fun q => absI (part r q.1))
/-- one is carried over to two by a round toward the goal -/
structure Turn (arcs : List Arc) (goal one two : List Int) (found : List (Nat × Int)) (s : Int) : Prop where
  cyc : ∃ (v : Int) (us : List Int), Wk arcs (us ++ [v]) found ∧ us.Nodup ∧ us.head? = some v
  ok : ∀ q ∈ found, q.1 < arcs.length ∧ (q.2 = 1 ∨ q.2 = -1)
  nd : (found.map (·.1)).Nodup
  sp : 0 < s
  two : two = applyR one s found
  len : one.length = arcs.length
  near : ∀ q ∈ found, (q.2 = 1 → part one q.1 + s ≤ part goal q.1) ∧ (q.2 = -1 → part goal q.1 ≤ part one q.1 - s)
  hit : ∃ q ∈ found, part one q.1 + q.2 * s = part goal q.1
theorem turn_of {arcs : List Arc} {goal one r : List Int} {found : List (Nat × Int)} (R : Rd arcs r found) (hl : one.length = arcs.length) (hr : ∀ k, k < arcs.length → part r k = part goal k - part one k) :
    Turn arcs goal one (applyR one (exStep r found) found) found (exStep r found) := by
  obtain ⟨v, us, wk, nd, hd, ld⟩ := R.cyc
  have ne : (found.map fun q => absI (part r q.1)) ≠ [] := fun e => R.ne (List.map_eq_nil_iff.mp e)
  obtain ⟨m1, m2⟩ := minL_mem ne
  obtain ⟨q0, hq0, e0⟩ := List.mem_map.mp m1
  have m2' : ∀ q ∈ found, exStep r found ≤ absI (part r q.1) := fun q hq => m2 _ (List.mem_map.mpr ⟨q, hq, rfl⟩)
  have e0' : exStep r found = absI (part r q0.1) := e0.symm
  have o0 := R.ok q0 hq0
  refine ⟨⟨v, us, wk, nd, hd⟩, fun q hq => ⟨(R.ok q hq).1, ?_⟩, R.nd, ?_, rfl, hl, fun q hq => ?_, q0, hq0, ?_⟩
  · rw [(R.ok q hq).2.2]
    unfold sgn
    split
    · exact .inr rfl
    · exact .inl rfl
  · rw [e0']
    have := o0.2.1
    unfold absI
    split <;> omega
  · have o := R.ok q hq
    have a := m2' q hq
    have b := hr q.1 o.1
    have c := o.2.2
    unfold sgn at c
    unfold absI at a
    refine ⟨fun e => ?_, fun e => ?_⟩
    · split at c
      · omega
      · split at a <;> omega
    · split at c
      · split at a <;> omega
      · omega
  · have b := hr q0.1 o0.1
    rw [e0', o0.2.2]
    unfold sgn absI
    by_cases c : part r q0.1 < 0
    · rw [if_pos c, if_pos c]; omega
    · rw [if_neg c, if_neg c]; omega
section
variable {arcs : List Arc} {goal one two : List Int} {found : List (Nat × Int)} {s : Int}
theorem Turn.inn (T : Turn arcs goal one two found s) : ∀ q ∈ found, part two q.1 = part one q.1 + q.2 * s := by
  rw [T.two]
  exact applyR_in s found one T.nd fun q hq => by rw [T.len]; exact (T.ok q hq).1
theorem Turn.out (T : Turn arcs goal one two found s) {k : Nat} (h : k ∉ found.map (·.1)) : part two k = part one k := by
  rw [T.two]
  exact applyR_out s found one k h
theorem Turn.len2 (T : Turn arcs goal one two found s) : two.length = arcs.length := by rw [T.two, applyR_len, T.len]
theorem Turn.chg (T : Turn arcs goal one two found s) (k : Nat) : part one k ≠ part two k ↔ k ∈ found.map (·.1) := by
  constructor
  · intro h
    refine Classical.byContradiction fun no => h (T.out no).symm
  · intro h e
    obtain ⟨q, hq, rfl⟩ := List.mem_map.mp h
    have i := T.inn q hq
    have s0 := T.sp
    rcases (T.ok q hq).2 with w | w <;> rw [w] at i <;> omega
def changedL (arcs : List Arc) (one two : List Int) (m : Nat) : List Nat := (List.range m).filter fun k => decide (part one k ≠ part two k)
theorem changedL_succ (arcs : List Arc) (one two : List Int) (m : Nat) : changedL arcs one two (m + 1) = changedL arcs one two m ++ (if part one m ≠ part two m then [m] else []) := by
  unfold changedL
  rw [List.range_succ, List.filter_append]
  congr 1
  by_cases h : part one m ≠ part two m
  · rw [if_pos h, List.filter_cons, if_pos (decide_eq_true h)]; rfl
  · rw [if_neg h, List.filter_cons, if_neg (by simpa using h)]; rfl
theorem Turn.perm (T : Turn arcs goal one two found s) : (changedL arcs one two arcs.length).Perm (found.map (·.1)) := by
  refine (List.perm_ext_iff_of_nodup (List.Pairwise.filter _ List.nodup_range) T.nd).mpr fun k => ?_
  rw [List.mem_filter, List.mem_range, decide_eq_true_eq, T.chg k]
  refine ⟨fun h => h.2, fun h => ⟨?_, h⟩⟩
  obtain ⟨q, hq, rfl⟩ := List.mem_map.mp h
  exact (T.ok q hq).1
theorem Turn.size (T : Turn arcs goal one two found s) {k : Nat} (h : k ∈ changedL arcs one two arcs.length) : absI (part two k - part one k) = s := by
  obtain ⟨q, hq, rfl⟩ := List.mem_map.mp (T.perm.mem_iff.mp h)
  have i := T.inn q hq
  have s0 := T.sp
  unfold absI
  rcases (T.ok q hq).2 with w | w
  · rw [w] at i
    rw [if_neg (by omega)]
    omega
  · rw [w] at i
    rw [if_pos (by omega)]
    omega
end
/-- how many ends of the arcs are at v -/
def cnt (arcs : List Arc) : List Nat → Int → Int
  | [], _ => 0
  | k :: ks, v => ind (arcOf arcs k).1 v + ind (arcOf arcs k).2 v + cnt arcs ks v
theorem cnt_perm (arcs : List Arc) (v : Int) {l m : List Nat} (h : l.Perm m) : cnt arcs l v = cnt arcs m v := by
  induction h with
  | nil => rfl
  | cons x _ ih => simp only [cnt, ih]
  | swap x y l => simp only [cnt]; omega
  | trans _ _ a b => exact a.trans b
theorem cnt_snoc (arcs : List Arc) (k : Nat) (v : Int) : ∀ ks : List Nat, cnt arcs (ks ++ [k]) v = cnt arcs ks v + (ind (arcOf arcs k).1 v + ind (arcOf arcs k).2 v)
  | [] => by simp [cnt]
  | j :: ks => by simp only [List.cons_append, cnt, cnt_snoc arcs k v ks]; omega
def inds : List Int → Int → Int
  | [], _ => 0
  | u :: us, v => ind u v + inds us v
theorem inds_snoc (w v : Int) : ∀ us : List Int, inds (us ++ [w]) v = inds us v + ind w v
  | [] => by simp [inds]
  | u :: us => by simp only [List.cons_append, inds, inds_snoc w v us]; omega
theorem inds_nd (v : Int) : ∀ us : List Int, us.Nodup → inds us v = if v ∈ us then 1 else 0
  | [], _ => rfl
  | u :: us, h => by
    rw [List.nodup_cons] at h
    rw [inds, inds_nd v us h.2]
    unfold ind
    by_cases c : u = v
    · subst c
      rw [if_pos rfl, if_neg h.1, if_pos List.mem_cons_self]
      rfl
    · rw [if_neg c]
      by_cases d : v ∈ us
      · rw [if_pos d, if_pos (List.mem_cons_of_mem _ d)]; rfl
      · rw [if_neg d, if_neg]
        · rfl
        · intro h
          rcases List.mem_cons.mp h with h | h
          · exact c h.symm
          · exact d h
theorem wk_cnt {arcs : List Arc} (v : Int) : ∀ {us : List Int} {path : List (Nat × Int)} {a b : Int}, Wk arcs us path → us.head? = some a → us.getLast? = some b → cnt arcs (path.map (·.1)) v = 2 * inds us v - ind a v - ind b v
  | [x], [], a, b, _, ha, hb => by
    simp at ha hb
    subst ha hb
    simp [cnt, inds]
    omega
  | x :: y :: us, q :: path, a, b, h, ha, hb => by
    obtain ⟨h1, h2⟩ := h
    have ih := wk_cnt v (us := y :: us) h2 rfl (by rw [List.getLast?_cons_cons] at hb; exact hb)
    simp at ha
    subst ha
    have e : ind (arcOf arcs q.1).1 v + ind (arcOf arcs q.1).2 v = ind x v + ind y v := by
      rcases h1 with ⟨_, a1, a2⟩ | ⟨_, a1, a2⟩ <;> rw [a1, a2]
      omega
    simp only [List.map_cons, cnt, ih, inds]
    omega
  | [], _, _, _, h, _, _ => by simp [Wk] at h
  | [_], _ :: _, _, _, h, _, _ => by simp [Wk] at h
  | _ :: _ :: _, [], _, _, h, _, _ => by simp [Wk] at h
theorem Turn.two_ends {arcs : List Arc} {goal one two : List Int} {found : List (Nat × Int)} {s : Int} (T : Turn arcs goal one two found s) (v : Int) : cnt arcs (changedL arcs one two arcs.length) v = 0 ∨ cnt arcs (changedL arcs one two arcs.length) v = 2 := by
  rw [cnt_perm arcs v T.perm]
  obtain ⟨w, us, wk, nd, hd⟩ := T.cyc
  cases us with
  | nil => simp at hd
  | cons u us =>
    simp at hd
    subst hd
    have := wk_cnt v (us := u :: us ++ [u]) (a := u) (b := u) wk rfl (List.getLast?_concat (l := u :: us))
    rw [this, inds_snoc, inds_nd v _ nd]
    by_cases c : v ∈ u :: us
    · rw [if_pos c]; omega
    · rw [if_neg c]; omega
def cntL (n : Nat) (arcs : List Arc) (ks : List Nat) : List Int := (List.range n).map fun (v : Nat) => cnt arcs ks (v : Int)
theorem cntL_len (n : Nat) (arcs : List Arc) (ks : List Nat) : (cntL n arcs ks).length = n := by simp [cntL]
theorem cntL_get {n : Nat} {arcs : List Arc} {ks : List Nat} {i : Int} (h0 : 0 ≤ i) (h : i < n) : (cntL n arcs ks)[i.toNat]? = some (cnt arcs ks i) := by
  unfold cntL
  rw [List.getElem?_map, List.getElem?_range (by omega)]
  simp only [Option.map_some]
  rw [Int.toNat_of_nonneg h0]
theorem cntL_zero (n : Nat) (arcs : List Arc) : cntL n arcs [] = (List.range n).map fun _ => (0 : Int) := rfl
theorem cnt_step {n : Nat} {arcs : List Arc} {ks : List Nat} {k : Nat} (hg : Good n (arcOf arcs k)) :
    ((cntL n arcs ks).set (arcOf arcs k).1.toNat (cnt arcs ks (arcOf arcs k).1 + 1)).set (arcOf arcs k).2.toNat (cnt arcs ks (arcOf arcs k).2 + 1) = cntL n arcs (ks ++ [k]) := by
  revert hg
  generalize hp : arcOf arcs k = p
  rintro ⟨⟨h1, h2⟩, ⟨h3, h4⟩, h5⟩
  apply List.ext_getElem?
  intro i
  by_cases hi : i < n
  · have e : (cntL n arcs (ks ++ [k]))[i]? = some (cnt arcs ks i + (ind p.1 i + ind p.2 i)) := by
      have := cntL_get (n := n) (arcs := arcs) (ks := ks ++ [k]) (i := (i : Int)) (by omega) (by omega)
      rw [Int.toNat_natCast] at this
      rw [this, cnt_snoc, hp]
    have e0 : (cntL n arcs ks)[i]? = some (cnt arcs ks i) := by
      have := cntL_get (n := n) (arcs := arcs) (ks := ks) (i := (i : Int)) (by omega) (by omega)
      rwa [Int.toNat_natCast] at this
    rw [e]
    unfold ind
    by_cases c2 : p.2.toNat = i
    · have c3 : (i : Int) = p.2 := by omega
      rw [c2, List.getElem?_set_self (by rw [List.length_set, cntL_len]; omega), c3, if_pos rfl, if_neg h5]
      rfl
    · rw [List.getElem?_set_ne c2]
      have c3 : p.2 ≠ i := by omega
      by_cases c1 : p.1.toNat = i
      · have c5 : (i : Int) = p.1 := by omega
        rw [c1, List.getElem?_set_self (by rw [cntL_len]; omega), c5, if_pos rfl, if_neg (Ne.symm h5)]
        rfl
      · have c5 : p.1 ≠ i := by omega
        rw [List.getElem?_set_ne c1, e0, if_neg c3, if_neg c5]
        simp
  · rw [List.getElem?_eq_none (by simp [cntL_len]; omega), List.getElem?_eq_none (by rw [cntL_len]; omega)]
/-- two arcs have an end in common -/
def adj (arcs : List Arc) (x k : Nat) : Prop := ((arcOf arcs k).1 = (arcOf arcs x).1 ∨ (arcOf arcs k).1 = (arcOf arcs x).2) ∨ (arcOf arcs k).2 = (arcOf arcs x).1 ∨ (arcOf arcs k).2 = (arcOf arcs x).2
instance (arcs : List Arc) (x k : Nat) : Decidable (adj arcs x k) := by unfold adj; infer_instance
theorem Turn.joined {arcs : List Arc} {goal one two : List Int} {found : List (Nat × Int)} {s : Int} (T : Turn arcs goal one two found s) {S : Nat → Prop} {k0 : Nat} (h0 : k0 ∈ found.map (·.1)) (s0 : S k0)
    (cl : ∀ x k, x ∈ found.map (·.1) → k ∈ found.map (·.1) → S x → adj arcs x k → S k) : ∀ k ∈ found.map (·.1), S k := by
  obtain ⟨w, us, wk, nd, hd⟩ := T.cyc
  have hlen := wk.len
  rw [List.length_append, List.length_singleton] at hlen
  have mem : ∀ {i : Nat} {q : Nat × Int}, found[i]? = some q → q.1 ∈ found.map (·.1) := fun h => List.mem_map.mpr ⟨_, List.mem_of_getElem? h, rfl⟩
  have meet : ∀ {q q' : Nat × Int} {v : Int}, (∃ u, Ste arcs q.1 q.2 u v) → (∃ u, Ste arcs q'.1 q'.2 v u) → adj arcs q.1 q'.1 := by
    rintro q q' v ⟨u, h⟩ ⟨u', h'⟩
    unfold adj
    rcases h with ⟨_, a1, a2⟩ | ⟨_, a1, a2⟩ <;> rcases h' with ⟨_, b1, b2⟩ | ⟨_, b1, b2⟩
    · exact .inl (.inr (b1.trans a2.symm))
    · exact .inr (.inr (b1.trans a2.symm))
    · exact .inl (.inl (b1.trans a2.symm))
    · exact .inr (.inl (b1.trans a2.symm))
  have nxt : ∀ i q q', found[i]? = some q → found[i + 1]? = some q' → S q.1 → S q'.1 := fun i q q' h h' hs => by
    obtain ⟨u, v, g1, g2, g3⟩ := wk.get h
    obtain ⟨u2, v2, f1, f2, f3⟩ := wk.get h'
    rw [g2] at f1
    cases f1
    exact cl _ _ (mem h) (mem h') hs (meet ⟨u, g3⟩ ⟨v2, f3⟩)
  have wrap : ∀ q q', found[found.length - 1]? = some q → found[0]? = some q' → S q.1 → S q'.1 := fun q q' h h' hs => by
    obtain ⟨u, v, g1, g2, g3⟩ := wk.get h
    obtain ⟨u2, v2, f1, f2, f3⟩ := wk.get h'
    have ev : v = w := by
      have hl : found.length - 1 + 1 = us.length := by
        have := (List.getElem?_eq_some_iff.mp h).1
        omega
      rw [hl, List.getElem?_append_right (Nat.le_refl _), Nat.sub_self] at g2
      exact (Option.some.inj g2).symm
    have eu : u2 = w := by
      cases us with
      | nil => simp at hd
      | cons x us =>
        simp at hd f1
        rw [← f1, hd]
    rw [ev] at g3
    rw [eu] at f3
    exact cl _ _ (mem h) (mem h') hs (meet ⟨u, g3⟩ ⟨v2, f3⟩)
  have up : ∀ (d i : Nat) (q q' : Nat × Int), found[i]? = some q → found[i + d]? = some q' → S q.1 → S q'.1 := by
    intro d
    induction d with
    | zero =>
      intro i q q' h h' hs
      rw [Nat.add_zero, h] at h'
      cases h'
      exact hs
    | succ d ih =>
      intro i q q' h h' hs
      have hl := (List.getElem?_eq_some_iff.mp h').1
      have hm : found[i + d]? = some (found[i + d]'(by omega)) := List.getElem?_eq_getElem _
      exact nxt (i + d) _ _ hm h' (ih i q _ h hm hs)
  obtain ⟨q0, hq0, rfl⟩ := List.mem_map.mp h0
  obtain ⟨i0, hi0⟩ := List.mem_iff_getElem?.mp hq0
  have l0 := (List.getElem?_eq_some_iff.mp hi0).1
  have hlast : found[found.length - 1]? = some (found[found.length - 1]'(by omega)) := List.getElem?_eq_getElem _
  have hfirst : found[0]? = some (found[0]'(by omega)) := List.getElem?_eq_getElem _
  have sl := up (found.length - 1 - i0) i0 _ _ hi0 (by rw [show i0 + (found.length - 1 - i0) = found.length - 1 by omega]; exact hlast) s0
  have sf := wrap _ _ hlast hfirst sl
  intro k hk
  obtain ⟨q, hq, rfl⟩ := List.mem_map.mp hk
  obtain ⟨i, hi⟩ := List.mem_iff_getElem?.mp hq
  exact up i 0 _ _ hfirst (by rw [Nat.zero_add]; exact hi) sf
/-- a list of changed arcs that holds the first and is closed holds all -/
theorem Turn.all {arcs : List Arc} {goal one two : List Int} {found : List (Nat × Int)} {s : Int} (T : Turn arcs goal one two found s) {R : List Nat} {k0 : Nat} (h0 : k0 ∈ changedL arcs one two arcs.length) (r0 : k0 ∈ R)
    (cl : ∀ x ∈ R, ∀ k ∈ changedL arcs one two arcs.length, adj arcs x k → k ∈ R) : (changedL arcs one two arcs.length).length ≤ R.length := by
  have P := T.perm
  have nd : (changedL arcs one two arcs.length).Nodup := List.Pairwise.filter _ List.nodup_range
  refine List.Nodup.length_le_of_subset nd fun k hk => ?_
  refine T.joined (S := fun k => k ∈ R) (P.mem_iff.mp h0) r0 (fun x k _ hk hx ha => cl x hx k (P.mem_iff.mpr hk) ha) k (P.mem_iff.mp hk)

/-! ### all exchanges -/
def nz (m : Nat) (r : List Int) : Nat := ((List.range m).filter fun k => decide (part r k ≠ 0)).length
structure ExSt where
  now : List Int
  rest : List Int
  rows : List (List Int)
def exTurn (n : Nat) (arcs : List Arc) (st : ExSt) (k : Nat) : ExSt :=
  ⟨applyR st.now (exStep st.rest (droundOf n arcs st.rest k)) (droundOf n arcs st.rest k), applyR st.rest (-(exStep st.rest (droundOf n arcs st.rest k))) (droundOf n arcs st.rest k),
    st.rows ++ [applyR st.now (exStep st.rest (droundOf n arcs st.rest k)) (droundOf n arcs st.rest k)]⟩
def exIn (n : Nat) (arcs : List Arc) : Nat → ExSt → Nat → ExSt
  | 0, st, _ => st
  | f + 1, st, k => if part st.rest k ≠ 0 then exIn n arcs f (exTurn n arcs st k) k else st
def exOut (n : Nat) (arcs : List Arc) (st : ExSt) (i : Nat) : ExSt := (List.range i).foldl (fun st k => exIn n arcs (arcs.length + 1) st k) st
theorem exOut_succ (n : Nat) (arcs : List Arc) (st : ExSt) (i : Nat) : exOut n arcs st (i + 1) = exIn n arcs (arcs.length + 1) (exOut n arcs st i) i := by
  unfold exOut
  rw [List.range_succ, List.foldl_append]
  rfl
def restOf (m : Nat) (first second : List Int) : List Int := (List.range m).map fun k => part second k - part first k
def exStart (arcs : List Arc) (first second : List Int) : ExSt := ⟨first, restOf arcs.length first second, [first]⟩
def exchangesF (n : Nat) (arcs : List Arc) (first second : List Int) : List (List Int) := (exOut n arcs (exStart arcs first second) arcs.length).rows
structure ExInv (arcs : List Arc) (first second : List Int) (B : Int) (N : Nat) (st : ExSt) : Prop where
  len : st.now.length = arcs.length
  lenr : st.rest.length = arcs.length
  rest : ∀ k, k < arcs.length → part st.rest k = part second k - part st.now k
  bal : ∀ v, net arcs st.now v = 0
  balr : ∀ v, net arcs st.rest v = 0
  head : st.rows.head? = some first
  last : st.rows.getLast? = some st.now
  rows : ∀ row ∈ st.rows, row.length = arcs.length ∧ (∀ v, net arcs row v = 0) ∧ ∀ k, k < arcs.length → -B ≤ part row k ∧ part row k ≤ B
  turn : ∀ (i : Nat) (one two : List Int), st.rows[i]? = some one → st.rows[i + 1]? = some two → ∃ found s, Turn arcs second one two found s
  few : st.rows.length + nz arcs.length st.rest ≤ N + 1
theorem exTurn_ok {n : Nat} {arcs : List Arc} {first second : List Int} {B : Int} {N : Nat} {st : ExSt} {k : Nat} (hg : ∀ k, k < arcs.length → Good n (arcOf arcs k)) (hB : ∀ k, k < arcs.length → -B ≤ part second k ∧ part second k ≤ B)
    (I : ExInv arcs first second B N st) (hk : k < arcs.length) (h : part st.rest k ≠ 0) :
    ExInv arcs first second B N (exTurn n arcs st k) ∧ (∀ j, j < arcs.length → part (exTurn n arcs st k).rest j ≠ 0 → part st.rest j ≠ 0) ∧ nz arcs.length (exTurn n arcs st k).rest < nz arcs.length st.rest := by
  have R := droundOf_ok (n := n) (k := k) I.lenr.symm hg I.balr hk h
  unfold exTurn
  revert R
  generalize droundOf n arcs st.rest k = found
  intro R
  have T := turn_of (goal := second) (one := st.now) R I.len I.rest
  generalize hs : exStep st.rest found = s at T ⊢
  have inn := T.inn
  have rin := applyR_in (-s) found st.rest T.nd fun q hq => by rw [I.lenr]; exact (T.ok q hq).1
  have rout := applyR_out (-s) found st.rest
  have key : ∀ j, j < arcs.length → part (applyR st.rest (-s) found) j = part second j - part (applyR st.now s found) j := fun j hj => by
    have e := I.rest j hj
    by_cases c : j ∈ found.map (·.1)
    · obtain ⟨q, hq, rfl⟩ := List.mem_map.mp c
      rw [rin q hq, inn q hq, e]
      rw [Int.mul_neg]
      omega
    · rw [rout j c, T.out c, e]
  have bal2 : ∀ v, net arcs (applyR st.now s found) v = 0 := fun v => by
    rw [applyR_net arcs s v found st.now I.len.symm fun q hq => (T.ok q hq).1, I.bal v, R.bal v]
    omega
  have bnd : ∀ j, j < arcs.length → -B ≤ part (applyR st.now s found) j ∧ part (applyR st.now s found) j ≤ B := fun j hj => by
    have b := (I.rows st.now (List.mem_of_getLast? I.last)).2.2 j hj
    by_cases c : j ∈ found.map (·.1)
    · obtain ⟨q, hq, rfl⟩ := List.mem_map.mp c
      have d := hB q.1 hj
      have s0 := T.sp
      rw [inn q hq]
      rcases (T.ok q hq).2 with w | w
      · have := (T.near q hq).1 w
        rw [w]
        omega
      · have := (T.near q hq).2 w
        rw [w]
        omega
    · rw [T.out c]
      exact b
  have stays : ∀ j, j < arcs.length → part (applyR st.rest (-s) found) j ≠ 0 → part st.rest j ≠ 0 := fun j hj h => by
    by_cases c : j ∈ found.map (·.1)
    · obtain ⟨q, hq, rfl⟩ := List.mem_map.mp c
      exact (R.ok q hq).2.1
    · rw [rout j c] at h
      exact h
  have lt : nz arcs.length (applyR st.rest (-s) found) < nz arcs.length st.rest := by
    obtain ⟨q0, hq0, e0⟩ := T.hit
    have o0 := T.ok q0 hq0
    refine filter_lt _ (fun j hj h => ?_) ⟨q0.1, List.mem_range.mpr o0.1, decide_eq_true (R.ok q0 hq0).2.1, ?_⟩
    · rw [decide_eq_true_eq] at h ⊢
      exact stays j (List.mem_range.mp hj) h
    · have := key q0.1 o0.1
      rw [inn q0 hq0] at this
      exact decide_eq_false fun z => z (by omega)
  refine ⟨⟨by rw [applyR_len, I.len], by rw [applyR_len, I.lenr], key, bal2, fun v => ?_, ?_, by simp, fun row hrow => ?_, fun i one two h1 h2 => ?_, ?_⟩, stays, lt⟩
  · rw [applyR_net arcs (-s) v found st.rest I.lenr.symm fun q hq => (T.ok q hq).1, I.balr v, R.bal v]
    omega
  · show (st.rows ++ _).head? = _
    rw [List.head?_append, I.head]
    rfl
  · rcases List.mem_append.mp hrow with hrow | hrow
    · exact I.rows row hrow
    · rw [List.mem_singleton] at hrow
      subst hrow
      exact ⟨by rw [applyR_len, I.len], bal2, bnd⟩
  · rcases getElem?_snoc_last h2 with ⟨c, h2⟩ | ⟨c, rfl⟩
    · rw [List.getElem?_append_left (by omega)] at h1
      exact I.turn i one two h1 h2
    · rw [List.getElem?_append_left (by omega)] at h1
      have e : one = st.now := by
        have := I.last
        rw [List.getLast?_eq_getElem?, show st.rows.length - 1 = i by omega, h1] at this
        exact Option.some.inj this
      rw [e]
      exact ⟨found, s, T⟩
  · have := I.few
    show (st.rows ++ _).length + _ ≤ _
    rw [List.length_append, List.length_singleton]
    show st.rows.length + 1 + nz arcs.length (applyR st.rest (-s) found) ≤ _
    omega
theorem exIn_ok {n : Nat} {arcs : List Arc} {first second : List Int} {B : Int} {N : Nat} (hg : ∀ k, k < arcs.length → Good n (arcOf arcs k)) (hB : ∀ k, k < arcs.length → -B ≤ part second k ∧ part second k ≤ B) {k : Nat} (hk : k < arcs.length) :
    ∀ (f : Nat) (st : ExSt), ExInv arcs first second B N st → nz arcs.length st.rest ≤ f →
      ExInv arcs first second B N (exIn n arcs f st k) ∧ (∀ j, j < arcs.length → part (exIn n arcs f st k).rest j ≠ 0 → part st.rest j ≠ 0) ∧ part (exIn n arcs f st k).rest k = 0
  | 0, st, I, h => by
    refine ⟨I, fun j _ h => h, ?_⟩
    show part st.rest k = 0
    unfold nz at h
    have e := List.eq_nil_of_length_eq_zero (Nat.le_zero.mp h)
    rw [List.filter_eq_nil_iff] at e
    have := e k (List.mem_range.mpr hk)
    simpa using this
  | f + 1, st, I, h => by
    unfold exIn
    by_cases c : part st.rest k ≠ 0
    · rw [if_pos c]
      obtain ⟨I2, h2, h3⟩ := exTurn_ok (n := n) hg hB I hk c
      obtain ⟨I3, h4, h5⟩ := exIn_ok hg hB hk f _ I2 (by omega)
      exact ⟨I3, fun j hj z => h2 j hj (h4 j hj z), h5⟩
    · rw [if_neg c]
      exact ⟨I, fun j _ h => h, by simpa using c⟩
theorem nz_le (m : Nat) (r : List Int) : nz m r ≤ m := by
  unfold nz
  exact Nat.le_trans (List.length_filter_le _ _) (by simp)
theorem net_sub (v : Int) : ∀ (as : List Arc) (xs ys zs : List Int), as.length = xs.length → as.length = ys.length → as.length = zs.length → (∀ k, k < as.length → part zs k = part ys k - part xs k) → net as zs v = net as ys v - net as xs v
  | [], [], [], [], _, _, _, _ => by simp [net]
  | p :: as, x :: xs, y :: ys, z :: zs, h1, h2, h3, h => by
    have ih := net_sub v as xs ys zs (by simpa using h1) (by simpa using h2) (by simpa using h3) fun k hk => h (k + 1) (by simpa using hk)
    have h0 : z = y - x := h 0 (by simp)
    simp only [net, ih, h0, Int.sub_mul]
    omega
  | [], _ :: _, _, _, h, _, _, _ => by simp at h
  | [], [], _ :: _, _, _, h, _, _ => by simp at h
  | [], [], [], _ :: _, _, _, h, _ => by simp at h
  | _ :: _, [], _, _, h, _, _, _ => by simp at h
  | _ :: _, _ :: _, [], _, _, h, _, _ => by simp at h
  | _ :: _, _ :: _, _ :: _, [], _, _, h, _ => by simp at h
theorem restOf_len (m : Nat) (xs ys : List Int) : (restOf m xs ys).length = m := by simp [restOf]
theorem restOf_at {m : Nat} {xs ys : List Int} {k : Nat} (h : k < m) : part (restOf m xs ys) k = part ys k - part xs k := by
  refine part_get ?_
  unfold restOf
  rw [List.getElem?_map, List.getElem?_range h]
  rfl
def differ (m : Nat) (first second : List Int) : Nat := (changedL [] first second m).length
theorem nz_rest (m : Nat) (first second : List Int) : nz m (restOf m first second) = differ m first second := by
  unfold nz differ changedL
  congr 1
  refine List.filter_congr fun k hk => ?_
  rw [restOf_at (List.mem_range.mp hk)]
  by_cases c : part first k = part second k
  · rw [decide_eq_false (by omega), decide_eq_false (by omega)]
  · rw [decide_eq_true (by omega), decide_eq_true (by omega)]
theorem exInv0 {arcs : List Arc} {first second : List Int} {B : Int} (h1 : arcs.length = first.length) (h2 : arcs.length = second.length) (b1 : ∀ v, net arcs first v = 0) (b2 : ∀ v, net arcs second v = 0)
    (hB : ∀ k, k < arcs.length → -B ≤ part first k ∧ part first k ≤ B) : ExInv arcs first second B (differ arcs.length first second) (exStart arcs first second) := by
  refine ⟨h1.symm, restOf_len _ _ _, fun k hk => restOf_at hk, b1, fun v => ?_, rfl, rfl, fun row hrow => ?_, fun i one two a b => ?_, ?_⟩
  · show net arcs (restOf arcs.length first second) v = 0
    rw [net_sub v arcs first second _ h1 h2 (restOf_len _ _ _).symm fun k hk => restOf_at hk, b1 v, b2 v]
    omega
  · have : row ∈ [first] := hrow
    rw [List.mem_singleton] at this
    subst this
    exact ⟨h1.symm, b1, hB⟩
  · have b' : [first][i + 1]? = some two := b
    simp at b'
  · show [first].length + nz arcs.length (restOf arcs.length first second) ≤ _
    rw [nz_rest, List.length_singleton]
    omega
theorem exOut_ok {n : Nat} {arcs : List Arc} {first second : List Int} {B : Int} (hg : ∀ k, k < arcs.length → Good n (arcOf arcs k)) (h1 : arcs.length = first.length) (h2 : arcs.length = second.length) (b1 : ∀ v, net arcs first v = 0) (b2 : ∀ v, net arcs second v = 0)
    (hB1 : ∀ k, k < arcs.length → -B ≤ part first k ∧ part first k ≤ B) (hB2 : ∀ k, k < arcs.length → -B ≤ part second k ∧ part second k ≤ B) :
    ∀ i, i ≤ arcs.length → ExInv arcs first second B (differ arcs.length first second) (exOut n arcs (exStart arcs first second) i) ∧ ∀ j, j < i → part (exOut n arcs (exStart arcs first second) i).rest j = 0
  | 0, _ => ⟨exInv0 h1 h2 b1 b2 hB1, fun j h => by omega⟩
  | i + 1, hi => by
    obtain ⟨I, h⟩ := exOut_ok (n := n) hg h1 h2 b1 b2 hB1 hB2 i (by omega)
    rw [exOut_succ]
    obtain ⟨I2, h3, h4⟩ := exIn_ok (n := n) hg hB2 (k := i) (by omega) (arcs.length + 1) _ I (Nat.le_trans (nz_le _ _) (by omega))
    refine ⟨I2, fun j hj => ?_⟩
    by_cases c : j = i
    · rw [c]; exact h4
    · refine Classical.byContradiction fun z => h3 j (by omega) z (h j (by omega))
theorem part_ext {xs ys : List Int} (hl : xs.length = ys.length) (h : ∀ k, k < xs.length → part xs k = part ys k) : xs = ys := by
  apply List.ext_getElem?
  intro i
  by_cases hi : i < xs.length
  · rw [get_part hi, get_part (by omega), h i hi]
  · rw [List.getElem?_eq_none (by omega), List.getElem?_eq_none (by omega)]
/-- what is told leads from the first to the second -/
structure Leads (arcs : List Arc) (first second : List Int) (B : Int) (told : List (List Int)) : Prop where
  head : told.head? = some first
  last : told.getLast? = some second
  rows : ∀ row ∈ told, row.length = arcs.length ∧ (∀ v, net arcs row v = 0) ∧ ∀ k, k < arcs.length → -B ≤ part row k ∧ part row k ≤ B
  turn : ∀ (i : Nat) (one two : List Int), told[i]? = some one → told[i + 1]? = some two → ∃ found s, Turn arcs second one two found s
  few : told.length ≤ differ arcs.length first second + 1
theorem exchanges_ok {n : Nat} {arcs : List Arc} {first second : List Int} {B : Int} (hg : ∀ k, k < arcs.length → Good n (arcOf arcs k)) (h1 : arcs.length = first.length) (h2 : arcs.length = second.length) (b1 : ∀ v, net arcs first v = 0) (b2 : ∀ v, net arcs second v = 0)
    (hB1 : ∀ k, k < arcs.length → -B ≤ part first k ∧ part first k ≤ B) (hB2 : ∀ k, k < arcs.length → -B ≤ part second k ∧ part second k ≤ B) : Leads arcs first second B (exchangesF n arcs first second) := by
  obtain ⟨I, h⟩ := exOut_ok (n := n) hg h1 h2 b1 b2 hB1 hB2 arcs.length (Nat.le_refl _)
  unfold exchangesF
  revert I h
  generalize exOut n arcs (exStart arcs first second) arcs.length = st
  intro I h
  refine ⟨I.head, ?_, I.rows, I.turn, by have := I.few; omega⟩
  rw [I.last]
  congr 1
  refine part_ext (by rw [I.len, h2]) fun k hk => ?_
  rw [I.len] at hk
  have := I.rest k hk
  rw [h k hk] at this
  omega
end Cir

namespace K15
open PySem PySem.Spec PyProof.Rows L2
def top (i : Nat) : Stmt := PySem.Challenge.pw_eachfloweachlink_k15_exchanges_lead_ther.main.body.getD i (.Pass ⟨0, 0, 0, 0⟩)
/-! _check_ends(count, arcs): slots 0 count 1 arcs 2 k 3 tail 4 head -/
abbrev s_check_ends : Stmt := top 6
abbrev n_check_ends : List Str := ["count", "arcs", "k", "tail", "head"]
theorem sc_check_ends : FnScope n_check_ends ["count", "arcs"] (defScope s_check_ends) := ⟨rfl, rfl, rfl, by decide +kernel, rfl, by decide +kernel, by decide +kernel⟩
/-! _spare(count, arcs, amounts): slots 0 count 1 arcs 2 amounts 3 spare 4 k -/
abbrev s_spare : Stmt := top 7
abbrev n_spare : List Str := ["count", "arcs", "amounts", "spare", "k"]
theorem sc_spare : FnScope n_spare ["count", "arcs", "amounts"] (defScope s_spare) := ⟨rfl, rfl, rfl, by decide +kernel, rfl, by decide +kernel, by decide +kernel⟩
/-! _check_balance(count, arcs, amounts): slots 0 count 1 arcs 2 amounts 3 spare 4 node -/
abbrev s_check_balance : Stmt := top 8
abbrev n_check_balance : List Str := ["count", "arcs", "amounts", "spare", "node"]
theorem sc_check_balance : FnScope n_check_balance ["count", "arcs", "amounts"] (defScope s_check_balance) := ⟨rfl, rfl, rfl, by decide +kernel, rfl, by decide +kernel, by decide +kernel⟩
/-! _near(count, arcs): slots 0 count 1 arcs 2 near 3 k 4 _ -/
abbrev s_near : Stmt := top 9
abbrev n_near : List Str := ["count", "arcs", "near", "k", "_"]
theorem sc_near : FnScope n_near ["count", "arcs"] (defScope s_near) := ⟨rfl, rfl, rfl, by decide +kernel, rfl, by decide +kernel, by decide +kernel⟩
/-! _difference_round(arcs, near, rest, start): slots 0 arcs 1 near 2 rest 3 start 4 node 5 path 6 places 7 arc -/
abbrev s_difference_round : Stmt := top 10
abbrev n_difference_round : List Str := ["arcs", "near", "rest", "start", "node", "path", "places", "arc"]
theorem sc_difference_round : FnScope n_difference_round ["arcs", "near", "rest", "start"] (defScope s_difference_round) := ⟨rfl, rfl, rfl, by decide +kernel, rfl, by decide +kernel, by decide +kernel⟩
/-! exchanges(count, arcs, first, second): slots 0 count 1 arcs 2 first 3 second 4 near 5 now 6 k 7 rest 8 told 9 found 10 arc 11 step 12 sign -/
abbrev s_exchanges : Stmt := top 11
abbrev n_exchanges : List Str := ["count", "arcs", "first", "second", "near", "now", "k", "rest", "told", "found", "arc", "step", "sign"]
theorem sc_exchanges : FnScope n_exchanges ["count", "arcs", "first", "second"] (defScope s_exchanges) := ⟨rfl, rfl, rfl, by decide +kernel, rfl, by decide +kernel, by decide +kernel⟩
abbrev s_iA : Stmt := inClass (top 3) 0
abbrev s_iU : Stmt := inClass (top 4) 0
theorem S_BadArc : XS.ErrSyn "BadArc.__init__" s_iA "arc" [] where
  body := ⟨_, _, _, _, _, _, _, _, _, _, _, _, _, rfl, .nil, by decide +kernel⟩
  ar := ⟨_, rfl, rfl⟩
  kind := rfl
  sup := rfl
  cls := rfl
  self := rfl
  loc := by decide +kernel
  cell := by decide +kernel
  co := rfl
  gen := rfl
  nd := by decide +kernel
  short := by decide
  bind := fun _ _ _ _ _ _ _ us hl s => match us, hl with | [_, _], _ => .of_eq rfl
theorem S_Unbalanced : XS.ErrSyn "Unbalanced.__init__" s_iU "node" [] where
  body := ⟨_, _, _, _, _, _, _, _, _, _, _, _, _, rfl, .nil, by decide +kernel⟩
  ar := ⟨_, rfl, rfl⟩
  kind := rfl
  sup := rfl
  cls := rfl
  self := rfl
  loc := by decide +kernel
  cell := by decide +kernel
  co := rfl
  gen := rfl
  nd := by decide +kernel
  short := by decide
  bind := fun _ _ _ _ _ _ _ us hl s => match us, hl with | [_, _], _ => .of_eq rfl
/-- what the top has written -/
structure Txt (P : Program) (K : PySem.W.Frag) (mg : Str → Option Value) (CA CU : Addr) : Prop extends Blt mg where
  arc : ∃ fI, XS.ErrTxt P K mg "BadArc" "BadArc.__init__" s_iA ["arc"] CA fI
  unb : ∃ fI, XS.ErrTxt P K mg "Unbalanced" "Unbalanced.__init__" s_iU ["node"] CU fI
/-- at a: the list of these arcs -/
def ArcsAt (K : PySem.W.Frag) (H : Hp) (a : Addr) (arcs : List Cir.Arc) : Prop :=
  ∃ ts : List Addr, SqL K H a (ts.map V.ref) ∧ ts.length = arcs.length ∧ ∀ (k : Nat) (t : Addr) (p : Cir.Arc), ts[k]? = some t → arcs[k]? = some p → SqT K H t [.int p.1, .int p.2]
theorem ArcsAt.fr {K : PySem.W.Frag} {H H' : Hp} {a : Addr} {arcs : List Cir.Arc} (h : ArcsAt K H a arcs) (e : Fr [] H H') : ArcsAt K H' a arcs := by
  obtain ⟨ts, h1, h2, h3⟩ := h
  exact ⟨ts, e.l h1, h2, fun k t p a b => e.t (h3 k t p a b)⟩
theorem ArcsAt.at {K : PySem.W.Frag} {H : Hp} {a : Addr} {arcs : List Cir.Arc} (h : ArcsAt K H a arcs) : ∃ ts : List Addr, SqL K H a (ts.map V.ref) ∧ ts.length = arcs.length ∧
    ∀ k, k < arcs.length → ∃ t, atI (ts.map V.ref) (k : Int) = some (.ref t) ∧ SqT K H t [.int (Cir.arcOf arcs k).1, .int (Cir.arcOf arcs k).2] := by
  obtain ⟨ts, h1, h2, h3⟩ := h
  refine ⟨ts, h1, h2, fun k hk => ?_⟩
  have e : ts[k]? = some (ts[k]'(by omega)) := List.getElem?_eq_getElem _
  exact ⟨_, at_map e, h3 k _ _ e (Cir.get_arc hk)⟩
theorem at_part {xs : List Int} {k : Nat} (h : k < xs.length) : atI (xs.map V.int) (k : Int) = some (.int (Cir.part xs k)) := at_map (Cir.get_part h)
/-- the first wrong arc -/
def spCheckEnds (K : PySem.W.Frag) (CA : Addr) : Sp := fun vs H Q E => ∃ (n : Nat) (a : Addr) (arcs : List Cir.Arc), vs = [.int (n : Int), .ref a] ∧ ArcsAt K H a arcs ∧ arcs.length ≤ 100000 ∧
  ((∀ k, k < arcs.length → Cir.Good n (Cir.arcOf arcs k)) → Q .non H) ∧
  (∀ k, k < arcs.length → ¬ Cir.Good n (Cir.arcOf arcs k) → (∀ j, j < k → Cir.Good n (Cir.arcOf arcs j)) → ∀ d, H d = none → E (.ref CA) (some d) (upd H d (.xd [(("arc" : Str), .int (k : Int))])))
/-- what enters each node less what leaves it -/
def spSpare (K : PySem.W.Frag) : Sp := fun vs H Q _ => ∃ (n : Nat) (a am : Addr) (arcs : List Cir.Arc) (xs : List Int), vs = [.int (n : Int), .ref a, .ref am] ∧ ArcsAt K H a arcs ∧ SqL K H am (xs.map V.int) ∧ arcs.length = xs.length ∧ arcs.length ≤ 100000 ∧ n ≤ 100000 ∧
  (∀ k, k < arcs.length → Cir.Good n (Cir.arcOf arcs k)) ∧ ∀ (p : Addr) (H' : Hp), H p = none → Fr [] H H' → H' p = some (.lst ((Cir.spareL n arcs xs).map V.int)) → Q (.ref p) H'
/-- the first node that is not in balance -/
def spCheckBal (K : PySem.W.Frag) (CU : Addr) : Sp := fun vs H Q E => ∃ (n : Nat) (a am : Addr) (arcs : List Cir.Arc) (xs : List Int), vs = [.int (n : Int), .ref a, .ref am] ∧ ArcsAt K H a arcs ∧ SqL K H am (xs.map V.int) ∧ arcs.length = xs.length ∧ arcs.length ≤ 100000 ∧ n ≤ 100000 ∧
  (∀ k, k < arcs.length → Cir.Good n (Cir.arcOf arcs k)) ∧ ((∀ v : Nat, v < n → Cir.net arcs xs v = 0) → ∀ H', Fr [] H H' → Q .non H') ∧
  (∀ v : Nat, v < n → Cir.net arcs xs v ≠ 0 → (∀ u : Nat, u < v → Cir.net arcs xs u = 0) → ∀ (d : Addr) (H' : Hp), Fr [] H H' → H' d = some (.xd [(("node" : Str), .int (v : Int))]) → E (.ref CU) (some d) H')
abbrev vN (k : Nat) : V := .int (k : Int)
/-- at p: for each node the numbers of the arcs that touch it -/
def NearAt (z : Addr → Prop) (H : Hp) (p : Addr) (n : Nat) (arcs : List Cir.Arc) : Prop :=
  ∃ rs : List Addr, rs.length = n ∧ H p = some (.lst (rs.map V.ref)) ∧ (∀ (v : Nat) (r : Addr), rs[v]? = some r → H r = some (.lst ((Cir.nearOf arcs v).map vN))) ∧ ∀ r ∈ rs, z r
theorem NearAt.fr {z : Addr → Prop} {H H' : Hp} {p : Addr} {n : Nat} {arcs : List Cir.Arc} (h : NearAt z H p n arcs) (e : Fr [] H H') : NearAt z H' p n arcs := by
  obtain ⟨rs, h1, h2, h3, h4⟩ := h
  exact ⟨rs, h1, e _ _ h2 (by simp), fun v r hr => e _ _ (h3 v r hr) (by simp), h4⟩
theorem NearAt.imp {z z' : Addr → Prop} {H : Hp} {p : Addr} {n : Nat} {arcs : List Cir.Arc} (h : NearAt z H p n arcs) (hz : ∀ r, z r → z' r) : NearAt z' H p n arcs := by
  obtain ⟨rs, h1, h2, h3, h4⟩ := h
  exact ⟨rs, h1, h2, h3, fun r hr => hz r (h4 r hr)⟩
def spNear (K : PySem.W.Frag) : Sp := fun vs H Q _ => ∃ (n : Nat) (a : Addr) (arcs : List Cir.Arc), vs = [.int (n : Int), .ref a] ∧ ArcsAt K H a arcs ∧ arcs.length ≤ 10000 ∧ n ≤ 10000 ∧
  (∀ k, k < arcs.length → Cir.Good n (Cir.arcOf arcs k)) ∧ ∀ (p : Addr) (H' : Hp), H p = none → Fr [] H H' → NearAt (fun r => H r = none) H' p n arcs → Q (.ref p) H'

def spDRound (K : PySem.W.Frag) : Sp := fun vs H Q _ => ∃ (n : Nat) (a ne pr : Addr) (arcs : List Cir.Arc) (xs : List Int) (start : Nat), vs = [.ref a, .ref ne, .ref pr, .int (start : Int)] ∧ ArcsAt K H a arcs ∧ NearAt (fun _ => True) H ne n arcs ∧ SqL K H pr (xs.map V.int) ∧
  arcs.length = xs.length ∧ arcs.length ≤ 10000 ∧ n ≤ 10000 ∧ (∀ k, k < arcs.length → Cir.Good n (Cir.arcOf arcs k)) ∧ (∀ v, Cir.net arcs xs v = 0) ∧ start < arcs.length ∧ Cir.part xs start ≠ 0 ∧
  ∀ (p : Addr) (H' : Hp), H p = none → Fr [] H H' → H' p = some (.lst (((Cir.droundOf n arcs xs start).map (·.1)).map vN)) → Q (.ref p) H'
/-- at p: a list of these rows, each a list of its own -/
def RowsN (z : Addr → Prop) (H : Hp) (p : Addr) (rows : List (List Int)) : Prop :=
  ∃ rs : List Addr, H p = some (.lst (rs.map V.ref)) ∧ rs.length = rows.length ∧ rs.Nodup ∧ (∀ r ∈ rs, z r ∧ r ≠ p) ∧ ∀ (k : Nat) (r : Addr) (row : List Int), rs[k]? = some r → rows[k]? = some row → H r = some (.lst (row.map V.int))
theorem RowsN.fr {z : Addr → Prop} {H1 H2 : Hp} {p : Addr} {rows : List (List Int)} (h : RowsN z H1 p rows) (e : Fr [] H1 H2) : RowsN z H2 p rows := by
  obtain ⟨rs, h1, h2, h3, h4, h5⟩ := h
  exact ⟨rs, e _ _ h1 (by simp), h2, h3, h4, fun k r row a b => e _ _ (h5 k r row a b) (by simp)⟩
theorem RowsN.imp {z z' : Addr → Prop} {H : Hp} {p : Addr} {rows : List (List Int)} (h : RowsN z H p rows) (hz : ∀ r, z r → z' r) : RowsN z' H p rows := by
  obtain ⟨rs, h1, h2, h3, h4, h5⟩ := h
  exact ⟨rs, h1, h2, h3, fun r hr => ⟨hz r (h4 r hr).1, (h4 r hr).2⟩, h5⟩
theorem RowsN.put {z : Addr → Prop} {H : Hp} {p q : Addr} {o : HO} {rows : List (List Int)} (h : RowsN z H p rows) (hp : q ≠ p) (hz : ∀ r, z r → r ≠ q) : RowsN z (upd H q o) p rows := by
  obtain ⟨rs, h1, h2, h3, h4, h5⟩ := h
  refine ⟨rs, by rw [upd_ne (Ne.symm hp)]; exact h1, h2, h3, h4, fun k r row a b => ?_⟩
  rw [upd_ne (hz r (h4 r (List.mem_of_getElem? a)).1)]
  exact h5 k r row a b
theorem RowsN.snoc {z : Addr → Prop} {H : Hp} {p r : Addr} {rows : List (List Int)} {row : List Int} (h : RowsN z H p rows) (hr : H r = none) (hz : z r) :
    ∃ rs : List Addr, H p = some (.lst (rs.map V.ref)) ∧ rs.length = rows.length ∧ RowsN z (upd (upd H r (.lst (row.map V.int))) p (.lst (rs.map V.ref ++ [.ref r]))) p (rows ++ [row]) := by
  obtain ⟨rs, h1, h2, h3, h4, h5⟩ := h
  have npr : r ≠ p := (ne_of_none h1 hr).symm
  have out : ∀ x ∈ rs, x ≠ r := fun x hx => by
    obtain ⟨k, hk⟩ := List.mem_iff_getElem?.mp hx
    have hl : k < rows.length := by rw [← h2]; exact (List.getElem?_eq_some_iff.mp hk).1
    exact ne_of_none (h5 k x _ hk (List.getElem?_eq_getElem hl)) hr
  refine ⟨rs, h1, h2, rs ++ [r], by rw [upd_same, List.map_append]; rfl, by simp [h2], ?_, fun x hx => ?_, fun k x w a b => ?_⟩
  · rw [List.nodup_append]
    refine ⟨h3, by simp, fun x hx y hy => ?_⟩
    rw [List.mem_singleton] at hy
    subst hy
    exact out x hx
  · rcases List.mem_append.mp hx with hx | hx
    · exact h4 x hx
    · rw [List.mem_singleton] at hx
      subst hx
      exact ⟨hz, npr⟩
  · rcases Cir.getElem?_snoc_last a with ⟨c1, a⟩ | ⟨c1, rfl⟩
    · have hx := List.mem_of_getElem? a
      rw [List.getElem?_append_left (by omega)] at b
      rw [upd_ne (h4 x hx).2, upd_ne (out x hx)]
      exact h5 k x w a b
    · rw [c1, h2, List.getElem?_append_right (Nat.le_refl _), Nat.sub_self] at b
      cases Option.some.inj b
      rw [upd_ne npr]
      exact upd_same
theorem Fr.thru {S : List Addr} {H H1 H2 : Hp} (a : Fr [] H H1) (b : Fr S H1 H2) (h : ∀ s ∈ S, H s = none) : Fr [] H H2 := fun x o hx _ => b x o (a x o hx (by simp)) fun hs => by
  rw [h x hs] at hx
  cases hx
theorem NearAt.frS {S : List Addr} {z : Addr → Prop} {H H' : Hp} {p : Addr} {n : Nat} {arcs : List Cir.Arc} (h : NearAt z H p n arcs) (e : Fr S H H') (hp : p ∉ S) (hz : ∀ r, z r → r ∉ S) : NearAt z H' p n arcs := by
  obtain ⟨rs, h1, h2, h3, h4⟩ := h
  exact ⟨rs, h1, e _ _ h2 hp, fun v r hr => e _ _ (h3 v r hr) (hz r (h4 r (List.mem_of_getElem? hr))), h4⟩
theorem net_far {n : Nat} {v : Int} (hv : ¬ (0 ≤ v ∧ v < n)) : ∀ (as : List Cir.Arc) (xs : List Int), (∀ k, k < as.length → Cir.Good n (Cir.arcOf as k)) → Cir.net as xs v = 0
  | [], _, _ => by simp [Cir.net]
  | _ :: _, [], _ => by simp [Cir.net]
  | p :: as, x :: xs, h => by
    have ih := net_far hv as xs fun k hk => h (k + 1) (by simpa using hk)
    have g : Cir.Good n p := h 0 (by simp)
    have e : Cir.dlt p v = 0 := by
      unfold Cir.dlt Cir.ind
      rw [if_neg (by rintro rfl; exact hv g.2.1), if_neg (by rintro rfl; exact hv g.1)]
      rfl
    simp [Cir.net, ih, e]
theorem net_all {n : Nat} {as : List Cir.Arc} {xs : List Int} (hg : ∀ k, k < as.length → Cir.Good n (Cir.arcOf as k)) (h : ∀ v : Nat, v < n → Cir.net as xs v = 0) (v : Int) : Cir.net as xs v = 0 := by
  by_cases c : 0 ≤ v ∧ v < n
  · have := h v.toNat (by omega)
    rwa [Int.toNat_of_nonneg c.1] at this
  · exact net_far c as xs hg
theorem bound_of : ∀ xs : List Int, ∃ B : Int, 0 ≤ B ∧ ∀ k, -B ≤ Cir.part xs k ∧ Cir.part xs k ≤ B
  | [] => ⟨0, by omega, fun k => by simp [Cir.part]⟩
  | x :: xs => by
    obtain ⟨B, h0, h⟩ := bound_of xs
    refine ⟨B + x.natAbs, by omega, fun k => ?_⟩
    cases k with
    | zero =>
      have : Cir.part (x :: xs) 0 = x := rfl
      omega
    | succ k =>
      have : Cir.part (x :: xs) (k + 1) = Cir.part xs k := rfl
      have := h k
      omega
def spExch (K : PySem.W.Frag) (CA CU : Addr) : Sp := fun vs H Q E => ∃ (n : Nat) (a af as : Addr) (arcs : List Cir.Arc) (xs ys : List Int), vs = [.int (n : Int), .ref a, .ref af, .ref as] ∧ ArcsAt K H a arcs ∧ SqL K H af (xs.map V.int) ∧ SqL K H as (ys.map V.int) ∧
  arcs.length = xs.length ∧ arcs.length = ys.length ∧ arcs.length ≤ 10000 ∧ n ≤ 10000 ∧
  ((∀ k, k < arcs.length → Cir.Good n (Cir.arcOf arcs k)) → (∀ v : Nat, v < n → Cir.net arcs xs v = 0) → (∀ v : Nat, v < n → Cir.net arcs ys v = 0) → ∀ (p : Addr) (H' : Hp), H p = none → Fr [] H H' → RowsN (fun r => H r = none) H' p (Cir.exchangesF n arcs xs ys) → Q (.ref p) H') ∧
  (∀ k, k < arcs.length → ¬ Cir.Good n (Cir.arcOf arcs k) → (∀ j, j < k → Cir.Good n (Cir.arcOf arcs j)) → ∀ (d : Addr) (H' : Hp), Fr [] H H' → H' d = some (.xd [(("arc" : Str), .int (k : Int))]) → E (.ref CA) (some d) H') ∧
  ((∀ k, k < arcs.length → Cir.Good n (Cir.arcOf arcs k)) → ∀ v : Nat, v < n → Cir.net arcs xs v ≠ 0 → (∀ u : Nat, u < v → Cir.net arcs xs u = 0) → ∀ (d : Addr) (H' : Hp), Fr [] H H' → H' d = some (.xd [(("node" : Str), .int (v : Int))]) → E (.ref CU) (some d) H') ∧
  ((∀ k, k < arcs.length → Cir.Good n (Cir.arcOf arcs k)) → (∀ v : Nat, v < n → Cir.net arcs xs v = 0) → ∀ v : Nat, v < n → Cir.net arcs ys v ≠ 0 → (∀ u : Nat, u < v → Cir.net arcs ys u = 0) → ∀ (d : Addr) (H' : Hp), Fr [] H H' → H' d = some (.xd [(("node" : Str), .int (v : Int))]) → E (.ref CU) (some d) H')
/-- the least number with a property, if there is one -/
theorem least {P : Nat → Prop} : ∀ (m : Nat), (∃ k, k < m ∧ P k) → ∃ k, k < m ∧ P k ∧ ∀ j, j < k → ¬ P j
  | 0, ⟨k, h, _⟩ => by omega
  | m + 1, ⟨k, h, p⟩ => by
    by_cases c : ∃ k, k < m ∧ P k
    · obtain ⟨k, h1, h2, h3⟩ := least m c
      exact ⟨k, by omega, h2, h3⟩
    · have e : k = m := by
        by_cases z : k = m
        · exact z
        · exact absurd ⟨k, by omega, p⟩ c
      subst e
      exact ⟨k, h, p, fun j hj pj => c ⟨j, hj, pj⟩⟩
section
variable {P : Program} {w : World} {K : PySem.W.Frag} {mg : Str → Option Value} {base : Heap} {CA CU : Addr}
theorem ok_check_ends {f : Addr} {fd : FuncData} (F : Fun K "_check_ends" "_check_ends" s_check_ends f fd) (T : Txt P K mg CA CU) : FnOk P w K mg base (L2.CX P w) 2 f fd ["count", "arcs"] (spCheckEnds K CA) := by
  refine F.okX sc_check_ends (fun vs H Q E h => ?_) (fun cdv A outer s H vs Q E hr h => ?_)
  · obtain ⟨n, a, arcs, rfl, _⟩ := h
    rfl
  · obtain ⟨n, a, arcs, rfl, hA, hl, kQ, kE⟩ := h
    obtain ⟨fI, TA⟩ := T.arc
    refine ⟨_, (pss_one (ps_for (passes_of rfl) rfl (pi_range1 (by rfl) T.m_range (pa_cons (pe_callB call_len_seq (by rfl) T.m_len (by decide +kernel) (pa_cons (pv 1) pa_nil)) pa_nil)) (pg_name (i := 2) sc_check_ends.nd rfl (Or.inl rfl))
      (pss_cons (ps_par (i := 3) (j := 4) rfl sc_check_ends.nd rfl rfl (by decide) rfl rfl (pa_cons (pe_ix ix_tup (pe_ix ix_list (pv 1) (pv 2) (fun _ _ => rfl)) pe_int (fun _ _ => rfl)) (pa_cons (pe_ix ix_tup (pe_ix ix_list (pv 1) (pv 2) (fun _ _ => rfl)) pe_int (fun _ _ => rfl)) pa_nil)) (by rfl))
      (pss_one (ps_if (PW.pt (pw_or (pt_not (pt_chain op_le op_lt pe_int (pv 3) (pv 0))) (pw_or (pt_not (pt_chain op_le op_lt pe_int (pv 4) (pv 0))) (pw_or1 (pt_cmpR op_eq (pv 3) (pv 4) (nomark _))))))
        (pss_one (ps_raiseErr rfl TA S_BadArc hr (takes_of rfl rfl rfl rfl) (pa_cons (pv 2) pa_nil)))
        pss_nil))))), ?_⟩
    obtain ⟨ts, hL, hn, hT⟩ := hA.at
    refine ⟨_, rfl, _, _, rfl, .inl hL, _, rfl, (rg_ok (by simp; omega)).1, (rg_ok (by simp; omega)).2, for_rng (n := (ts.map V.ref).length) (fun i σ H' => H' = H ∧ (∀ j, j < i → Cir.Good n (Cir.arcOf arcs j)) ∧ ∃ o1 o2 o3 : Option V, σ = [some (.int (n : Int)), some (.ref a), o1, o2, o3])
      ⟨rfl, fun j hj => by omega, _, _, _, rfl⟩ ?_ ?_⟩
    · rintro i σ H' hi ⟨rfl, hgood, o1, o2, o3, rfl⟩
      rw [List.length_map, hn] at hi
      obtain ⟨t, e1, e2⟩ := hT i hi
      refine ⟨_, rfl, _, rfl, _, _, _, _, rfl, rfl, hL, e1, _, _, _, _, rfl, rfl, e2, rfl, ?_⟩
      refine ⟨_, rfl, _, rfl, _, _, _, _, rfl, rfl, hL, e1, _, _, _, _, rfl, rfl, e2, rfl, _, _, rfl, ?_⟩
      have bad : ¬ Cir.Good n (Cir.arcOf arcs i) → tRaiseE CA [("arc" : Str)] (fun cls d _ H => E cls d H) (tCons (tVar 2) tNil) noEnds [some (.int (n : Int)), some (.ref a), some (.int (i : Int)), some (.int (Cir.arcOf arcs i).1), some (.int (Cir.arcOf arcs i).2)] H' :=
        fun hb => ⟨_, rfl, rfl, fun d hd => kE i hi hb hgood d hd⟩
      refine ⟨_, rfl, _, _, rfl, rfl, _, rfl, dec_iff (fun g1 => ⟨_, rfl, _, _, rfl, rfl, _, rfl, ?_⟩) fun b1 => ⟨_, rfl, iteT (bad (fun g => b1 g.1.1))⟩⟩
      refine bool_iff (fun b2 => bad (fun g => ?_)) fun g2 => ?_
      · have := g.1.2
        simp [this] at b2
      refine ⟨_, rfl, _, _, rfl, rfl, _, rfl, dec_iff (fun g3 => ⟨_, rfl, _, _, rfl, rfl, _, rfl, ?_⟩) fun b1 => ⟨_, rfl, iteT (bad (fun g => b1 g.2.1.1))⟩⟩
      refine bool_iff (fun b2 => bad (fun g => ?_)) fun g4 => ?_
      · have := g.2.1.2
        simp [this] at b2
      refine ⟨_, rfl, _, rfl, rfl, _, rfl, ?_⟩
      refine dec_iff (fun b5 => bad (fun g => ?_)) fun g5 => ?_
      · exact g.2.2 (V.int.inj b5)
      · refine ⟨rfl, fun j hj => ?_, _, _, _, rfl⟩
        by_cases c : j < i
        · exact hgood j c
        · have e : j = i := by omega
          subst e
          exact ⟨⟨g1, by simpa using g2⟩, ⟨g3, by simpa using g4⟩, fun e => g5 (congrArg V.int e)⟩
    · rintro σ H' ⟨rfl, hgood, o1, o2, o3, rfl⟩
      refine kQ fun k hk => hgood k ?_
      rw [List.length_map, hn]
      exact hk
theorem ok_spare {f : Addr} {fd : FuncData} (F : Fun K "_spare" "_spare" s_spare f fd) (T : Txt P K mg CA CU) : FnOk P w K mg base CX0 1 f fd ["count", "arcs", "amounts"] (spSpare K) := by
  refine F.ok sc_spare (fun vs H Q E h => ?_) (fun cdv A outer s H vs Q E hr h => ?_)
  · obtain ⟨n, a, am, arcs, xs, rfl, _⟩ := h
    rfl
  · obtain ⟨n, a, am, arcs, xs, rfl, hA, hX, hlx, hl, hn, hgood, k⟩ := h
    refine ⟨_, (pss_cons (ps_set (i := 3) sc_spare.nd rfl (Or.inl rfl) (pe_op op_rep (pe_lst (pa_cons pe_int pa_nil)) (pv 0)))
    (pss_cons (ps_for PassesOwn.never rfl (pi_range1 (by rfl) T.m_range (pa_cons (pe_callB call_len_seq (by rfl) T.m_len (by decide +kernel) (pa_cons (pv 1) pa_nil)) pa_nil)) (pg_name (i := 4) sc_spare.nd rfl (Or.inl rfl))
      (pss_cons (ps_augS (pv 3) (pe_ix ix_tup (pe_ix ix_list (pv 1) (pv 4) (fun _ _ => rfl)) pe_int (fun _ _ => rfl)) pget_list (pe_ix ix_list (pv 2) (pv 4) (fun _ _ => rfl)) ip_sub set_list)
      (pss_one (ps_augS (pv 3) (pe_ix ix_tup (pe_ix ix_list (pv 1) (pv 4) (fun _ _ => rfl)) pe_int (fun _ _ => rfl)) pget_list (pe_ix ix_list (pv 2) (pv 4) (fun _ _ => rfl)) ip_add set_list))))
    (pss_one (ps_ret (pv 3))))), ?_⟩
    obtain ⟨ts, hL, hts, hT⟩ := hA.at
    refine ⟨by show 1 ≤ sizeLine; decide, fun l0 hl0 => ⟨_, rfl, l0, _, _, rfl, rfl, upd_same, by omega, by omega, ?_, fun p hp => ?_⟩⟩
    · show 1 * (n : Int).toNat ≤ sizeLine
      rw [Nat.one_mul]
      exact len_line hn
    have np : H p = none := ((Fr.refl [] H).new hl0).free hp
    have e0 : (List.replicate (n : Int).toNat [V.int 0]).flatten = (Cir.spareL n [] []).map V.int := by
      rw [Cir.spareL_zero, List.map_replicate, rep_one]
      rfl
    rw [e0]
    refine ⟨_, rfl, _, _, rfl, .inl ?_, _, rfl, (rg_ok (by simp; omega)).1, (rg_ok (by simp; omega)).2, for_rng (n := (ts.map V.ref).length)
      (fun i σ H' => Fr [] H H' ∧ H' p = some (.lst ((Cir.spareL n (arcs.take i) (xs.take i)).map V.int)) ∧ ∃ o : Option V, σ = [some (.int (n : Int)), some (.ref a), some (.ref am), some (.ref p), o])
      ⟨((Fr.refl [] H).new hl0).new hp, upd_same, _, rfl⟩ ?_ ?_⟩
    · exact (((Fr.refl [] H).new hl0).new hp).l hL
    · rintro i σ H' hi ⟨e, h1, o, rfl⟩
      rw [List.length_map, hts] at hi
      obtain ⟨t, e1, e2⟩ := hT i hi
      have g := hgood i hi
      have len1 : (arcs.take i).length = (xs.take i).length := by rw [List.length_take, List.length_take, hlx]
      have i1 : (Cir.arcOf arcs i).1.toNat < (Cir.spareL n (arcs.take i) (xs.take i)).length := by rw [Cir.spareL_len]; have := g.1; omega
      have i2 : (Cir.arcOf arcs i).2.toNat < (Cir.spareL n (arcs.take i) (xs.take i)).length := by rw [Cir.spareL_len]; have := g.2.1; omega
      refine ⟨_, rfl, _, rfl, _, rfl, _, _, _, _, rfl, rfl, e.l hL, e1, _, _, _, _, rfl, rfl, e.t e2, rfl, ?_⟩
      refine ⟨_, _, _, _, rfl, rfl, SqL.of h1, at_int g.1.1 (by rw [List.getElem?_map, Cir.spareL_get g.1.1 g.1.2]; rfl), ?_⟩
      refine ⟨_, rfl, _, rfl, _, _, _, _, rfl, rfl, e.l hX, at_part (by omega), _, _, rfl, rfl, _, _, _, _, rfl, rfl, h1, ix_int g.1.1 (by rw [List.length_map, Cir.spareL_len]; exact g.1.2), ?_⟩
      have e' : Fr [] H (upd H' p (.lst (((Cir.spareL n (arcs.take i) (xs.take i)).map V.int).set (Cir.arcOf arcs i).1.toNat (.int (Cir.net (arcs.take i) (xs.take i) (Cir.arcOf arcs i).1 - Cir.part xs i))))) := e.put (.inr np)
      refine ⟨_, rfl, _, rfl, _, rfl, _, _, _, _, rfl, rfl, e'.l hL, e1, _, _, _, _, rfl, rfl, e'.t e2, rfl, ?_⟩
      refine ⟨_, _, _, _, rfl, rfl, SqL.of upd_same, at_int (v := V.int (Cir.net (arcs.take i) (xs.take i) (Cir.arcOf arcs i).2)) g.2.1.1 ?_, ?_⟩
      · rw [List.getElem?_set_ne (by have := g.1; have := g.2.1; have := g.2.2; omega), List.getElem?_map, Cir.spareL_get g.2.1.1 g.2.1.2]
        rfl
      refine ⟨_, rfl, _, rfl, _, _, _, _, rfl, rfl, e'.l hX, at_part (by omega), _, _, rfl, rfl, _, _, _, _, rfl, rfl, upd_same, ix_int g.2.1.1 (by rw [List.length_set, List.length_map, Cir.spareL_len]; exact g.2.1.2), ?_⟩
      refine ⟨e'.put (.inr np), ?_, _, rfl⟩
      rw [upd_same]
      have st := Cir.spare_step (n := n) (x := Cir.part xs i) len1 g
      rw [take_succ (Cir.get_arc hi), take_succ (Cir.get_part (by omega)), ← st, List.map_set, List.map_set]
    · rintro σ H' ⟨e, h1, o, rfl⟩
      rw [List.length_map, hts, List.take_length, hlx, List.take_length] at h1
      exact ⟨_, rfl, k p H' np e h1⟩
theorem ok_check_balance {f : Addr} {fd : FuncData} (F : Fun K "_check_balance" "_check_balance" s_check_balance f fd) (T : Txt P K mg CA CU)
    (F_spare : FnB P w K mg base CX0 1 "_spare" ["count", "arcs", "amounts"] (spSpare K)) : FnOk P w K mg base (L2.CX P w) 3 f fd ["count", "arcs", "amounts"] (spCheckBal K CU) := by
  refine F.okX sc_check_balance (fun vs H Q E h => ?_) (fun cdv A outer s H vs Q E hr h => ?_)
  · obtain ⟨n, a, am, arcs, xs, rfl, _⟩ := h
    rfl
  · obtain ⟨n, a, am, arcs, xs, rfl, hA, hX, hlx, hl, hn, hgood, kQ, kE⟩ := h
    obtain ⟨fI, TU⟩ := T.unb
    refine ⟨_, (pss_cons (ps_set (i := 3) sc_check_balance.nd rfl (Or.inl rfl) (pe_callF F_spare (hr.mono (by decide)) rfl pass0 (pa_cons (pv 0) (pa_cons (pv 1) (pa_cons (pv 2) pa_nil)))))
    (pss_one (ps_for (passes_of rfl) rfl (pi_range1 (by rfl) T.m_range (pa_cons (pv 0) pa_nil)) (pg_name (i := 4) sc_check_balance.nd rfl (Or.inl rfl))
      (pss_one (ps_if (pt_cmpR op_ne (pe_ix ix_list (pv 3) (pv 4) (fun _ _ => rfl)) pe_int (nomark _))
        (pss_one (ps_raiseErr rfl TU S_Unbalanced hr (takes_of rfl rfl rfl rfl) (pa_cons (pv 4) pa_nil)))
        pss_nil))))), ?_⟩
    refine ⟨_, rfl, _, rfl, _, rfl, n, a, am, arcs, xs, rfl, hA, hX, hlx, hl, hn, hgood, fun p H1 np e1 h1 => ?_⟩
    refine ⟨_, rfl, _, rfl, (rg_ok (by omega)).1, (rg_ok (by omega)).2, for_rng (n := n)
      (fun i σ H' => H' = H1 ∧ (∀ u : Nat, u < i → Cir.net arcs xs u = 0) ∧ ∃ o : Option V, σ = [some (.int (n : Int)), some (.ref a), some (.ref am), some (.ref p), o])
      ⟨rfl, fun u hu => by omega, _, rfl⟩ ?_ ?_⟩
    · rintro i σ H' hi ⟨rfl, hz, o, rfl⟩
      refine ⟨_, rfl, _, rfl, _, _, _, _, rfl, rfl, SqL.of h1, at_int (v := V.int (Cir.net arcs xs i)) (by omega) (by rw [List.getElem?_map, Cir.spareL_get (by omega) (by omega)]; rfl), rfl, _, rfl, ?_⟩
      refine bool_iff (fun b => ?_) fun b => ?_
      · have ne : Cir.net arcs xs i ≠ 0 := fun z => by
          rw [z] at b
          simp at b
        exact ⟨_, rfl, rfl, fun d hd => kE i hi ne hz d _ (e1.new hd) upd_same⟩
      · refine ⟨rfl, fun u hu => ?_, _, rfl⟩
        by_cases c : u < i
        · exact hz u c
        · have e : u = i := by omega
          subst e
          have := of_decide_eq_true (show decide (V.int (Cir.net arcs xs u) = V.int 0) = true by simpa using b)
          exact V.int.inj this
    · rintro σ H' ⟨rfl, hz, o, rfl⟩
      exact kQ hz _ e1
end
section
variable {P : Program} {w : World} {K : PySem.W.Frag} {mg : Str → Option Value} {base : Heap} {CA CU : Addr}
theorem ok_near {f : Addr} {fd : FuncData} (F : Fun K "_near" "_near" s_near f fd) (T : Txt P K mg CA CU) : FnOk P w K mg base CX0 1 f fd ["count", "arcs"] (spNear K) := by
  refine F.ok sc_near (fun vs H Q E h => ?_) (fun cdv A outer s H vs Q E hr h => ?_)
  · obtain ⟨n, a, arcs, rfl, _⟩ := h
    rfl
  · obtain ⟨n, a, arcs, rfl, hA, hl, hn, hgood, k⟩ := h
    refine ⟨_, (pss_cons (ps_setLc (i := 2) (own := [("_", 4)]) rfl sc_near.nd rfl rfl (sw_true rfl rfl rfl (by decide +kernel)) (pi_range1 (by rfl) T.m_range (pa_cons (pv 0) pa_nil)) (blkOk_by (own := [("_", 4)]) (N := n_near) (sc := defScope s_near) (by decide +kernel)) (fun _ _ _ _ _ => (pg_name (i := 4) sc_near.nd rfl (Or.inl rfl))) (fun _ _ _ _ _ => pts_nil) (fun _ _ _ _ _ => (pe_lst pa_nil)))
    (pss_cons (ps_for PassesOwn.never rfl (pi_range1 (by rfl) T.m_range (pa_cons (pe_callB call_len_seq (by rfl) T.m_len (by decide +kernel) (pa_cons (pv 1) pa_nil)) pa_nil)) (pg_name (i := 3) sc_near.nd rfl (Or.inl rfl))
      (pss_cons (ps_expr (pe_bm PySem.F.plainAttrs_list PySem.F.slot_list_append PySem.F.type_list_append mt_append (pe_ix ix_list (pv 2) (pe_ix ix_tup (pe_ix ix_list (pv 1) (pv 3) (fun _ _ => rfl)) pe_int (fun _ _ => rfl)) (fun _ _ => rfl)) (pa_cons (pv 3) pa_nil)))
      (pss_one (ps_expr (pe_bm PySem.F.plainAttrs_list PySem.F.slot_list_append PySem.F.type_list_append mt_append (pe_ix ix_list (pv 2) (pe_ix ix_tup (pe_ix ix_list (pv 1) (pv 3) (fun _ _ => rfl)) pe_int (fun _ _ => rfl)) (fun _ _ => rfl)) (pa_cons (pv 3) pa_nil))))))
    (pss_one (ps_ret (pv 2))))), ?_⟩
    obtain ⟨ts, hL, hts, hT⟩ := hA.at
    refine ⟨_, rfl, _, rfl, (rg_ok (by omega)).1, (rg_ok (by omega)).2, fun D hD => lc_rng (n := n)
      (fun i H' => ∃ rs : List Addr, rs.length = i ∧ H' D = some (.lst (rs.map V.ref)) ∧ Fr [] H H' ∧ rs.Nodup ∧ ∀ r ∈ rs, H r = none ∧ r ≠ D ∧ H' r = some (.lst [])) ⟨[], rfl, upd_same, (Fr.refl _ _).new hD, List.nodup_nil, fun r h => by simp at h⟩ ?_ ?_⟩
    · rintro i H' hi ⟨rs, h1, h2, e, nd, h3⟩
      refine ⟨rfl, by show 0 ≤ sizeLine; exact Nat.zero_le _, fun q hq => ⟨_, by rw [upd_ne (ne_of_none h2 hq)]; exact h2, len_lt (by rw [List.length_map]; omega), rs ++ [q], ?_⟩⟩
      have hqD : q ≠ D := (ne_of_none h2 hq).symm
      refine ⟨by simp [h1], ?_, (e.new hq).put (.inr hD), ?_, fun r hr => ?_⟩
      · rw [upd_same, List.map_append]
        rfl
      · rw [List.nodup_append]
        refine ⟨nd, by simp, fun x hx y hy => ?_⟩
        rw [List.mem_singleton] at hy
        subst hy
        exact ne_of_none (h3 x hx).2.2 hq
      · rcases List.mem_append.mp hr with hr | hr
        · have z := h3 r hr
          exact ⟨z.1, z.2.1, by rw [upd_ne z.2.1, upd_ne (ne_of_none z.2.2 hq)]; exact z.2.2⟩
        · rw [List.mem_singleton] at hr
          subst hr
          exact ⟨e.free hq, hqD, by rw [upd_ne hqD]; exact upd_same⟩
    · rintro H1 ⟨rs, h1, h2, e1, nd, h3⟩
      refine ⟨_, rfl, _, _, rfl, .inl (e1.l hL), _, rfl, (rg_ok (by simp; omega)).1, (rg_ok (by simp; omega)).2, for_rng (n := (ts.map V.ref).length)
        (fun i σ H' => Fr [] H H' ∧ H' D = some (.lst (rs.map V.ref)) ∧ (∀ (v : Nat) (r : Addr), rs[v]? = some r → H' r = some (.lst ((Cir.nearI arcs i v).map vN))) ∧ ∃ o1 o2 : Option V, σ = [some (.int (n : Int)), some (.ref a), some (.ref D), o1, o2])
        ⟨e1, h2, fun v r hr => (h3 r (List.mem_of_getElem? hr)).2.2, _, _, rfl⟩ ?_ ?_⟩
      · rintro i σ H' hi ⟨e, g1, g2, o1, o2, rfl⟩
        rw [List.length_map, hts] at hi
        obtain ⟨t, a1, a2⟩ := hT i hi
        have g := hgood i hi
        have b1 : (Cir.arcOf arcs i).1.toNat < rs.length := by have := g.1; omega
        have b2 : (Cir.arcOf arcs i).2.toNat < rs.length := by have := g.2.1; omega
        have c1 := List.getElem?_eq_getElem b1
        have c2 := List.getElem?_eq_getElem b2
        generalize rs[(Cir.arcOf arcs i).1.toNat] = r1 at c1
        generalize rs[(Cir.arcOf arcs i).2.toNat] = r2 at c2
        have n12 : r1 ≠ r2 := fun z => by
          subst z
          obtain ⟨p1, q1⟩ := List.getElem?_eq_some_iff.mp c1
          obtain ⟨p2, q2⟩ := List.getElem?_eq_some_iff.mp c2
          have := (List.getElem_inj nd).mp (q1.trans q2.symm)
          have := g.1; have := g.2.1; have := g.2.2
          omega
        have m1 := h3 r1 (List.mem_of_getElem? c1)
        have m2 := h3 r2 (List.mem_of_getElem? c2)
        have f1 := g2 _ r1 c1
        have f2 := g2 _ r2 c2
        refine ⟨_, rfl, _, rfl, _, rfl, _, _, _, _, rfl, rfl, e.l hL, a1, _, _, _, _, rfl, rfl, e.t a2, rfl, _, _, _, _, rfl, rfl, SqL.of g1, at_int (v := V.ref r1) g.1.1 (by rw [List.getElem?_map, c1]; rfl), ?_⟩
        refine ⟨.inl ⟨rfl, _, SqL.of f1⟩, _, rfl, _, _, _, rfl, rfl, f1, len_lt (by rw [List.length_map]; have := Cir.nearI_len arcs i (((Cir.arcOf arcs i).1.toNat : Nat) : Int); omega), ?_⟩
        have e' := e.put (p := r1) (o := .lst ((Cir.nearI arcs i (((Cir.arcOf arcs i).1.toNat : Nat) : Int)).map vN ++ [.int (i : Int)])) (.inr m1.1)
        have g1' : (upd H' r1 (.lst ((Cir.nearI arcs i (((Cir.arcOf arcs i).1.toNat : Nat) : Int)).map vN ++ [.int (i : Int)]))) D = some (.lst (rs.map V.ref)) := by rw [upd_ne (Ne.symm m1.2.1)]; exact g1
        have f2' : (upd H' r1 (.lst ((Cir.nearI arcs i (((Cir.arcOf arcs i).1.toNat : Nat) : Int)).map vN ++ [.int (i : Int)]))) r2 = some (.lst ((Cir.nearI arcs i (((Cir.arcOf arcs i).2.toNat : Nat) : Int)).map vN)) := by rw [upd_ne (Ne.symm n12)]; exact f2
        refine ⟨_, rfl, _, rfl, _, rfl, _, _, _, _, rfl, rfl, e'.l hL, a1, _, _, _, _, rfl, rfl, e'.t a2, rfl, _, _, _, _, rfl, rfl, SqL.of g1', at_int (v := V.ref r2) g.2.1.1 (by rw [List.getElem?_map, c2]; rfl), ?_⟩
        refine ⟨.inl ⟨rfl, _, SqL.of f2'⟩, _, rfl, _, _, _, rfl, rfl, f2', len_lt (by rw [List.length_map]; have := Cir.nearI_len arcs i (((Cir.arcOf arcs i).2.toNat : Nat) : Int); omega), ?_⟩
        refine ⟨e'.put (.inr m2.1), by rw [upd_ne (Ne.symm m2.2.1)]; exact g1', fun v r hv => ?_, _, _, rfl⟩
        have pos1 : (((Cir.arcOf arcs i).1.toNat : Nat) : Int) = (Cir.arcOf arcs i).1 := Int.toNat_of_nonneg g.1.1
        have pos2 : (((Cir.arcOf arcs i).2.toNat : Nat) : Int) = (Cir.arcOf arcs i).2 := Int.toNat_of_nonneg g.2.1.1
        have same : ∀ {u v : Nat} {r : Addr}, rs[u]? = some r → rs[v]? = some r → u = v := fun {u v r} x y => by
          obtain ⟨p1, q1⟩ := List.getElem?_eq_some_iff.mp x
          obtain ⟨p2, q2⟩ := List.getElem?_eq_some_iff.mp y
          exact (List.getElem_inj nd).mp (q1.trans q2.symm)
        rw [Cir.nearI_succ]
        by_cases z2 : r = r2
        · subst z2
          have ev := same c2 hv
          subst ev
          rw [upd_same, pos2]
          have : Cir.touch (Cir.arcOf arcs i) (Cir.arcOf arcs i).2 = true := by simp [Cir.touch]
          rw [if_pos this, List.map_append]
          rfl
        · rw [upd_ne z2]
          by_cases z1 : r = r1
          · subst z1
            have ev := same c1 hv
            subst ev
            rw [upd_same, pos1]
            have : Cir.touch (Cir.arcOf arcs i) (Cir.arcOf arcs i).1 = true := by simp [Cir.touch]
            rw [if_pos this, List.map_append]
            rfl
          · rw [upd_ne z1, g2 v r hv]
            have : ¬ Cir.touch (Cir.arcOf arcs i) (v : Int) = true := fun h => by
              unfold Cir.touch at h
              simp only [Bool.or_eq_true, decide_eq_true_eq] at h
              rcases h with h | h
              · have : v = (Cir.arcOf arcs i).1.toNat := by omega
                rw [this, c1] at hv
                exact z1 (Option.some.inj hv).symm
              · have : v = (Cir.arcOf arcs i).2.toNat := by omega
                rw [this, c2] at hv
                exact z2 (Option.some.inj hv).symm
            rw [if_neg this, List.append_nil]
      · rintro σ H' ⟨e, g1, g2, o1, o2, rfl⟩
        refine ⟨_, rfl, k D H' hD e ⟨rs, h1, g1, fun v r hr => ?_, fun r hr => (h3 r hr).1⟩⟩
        rw [List.length_map, hts] at g2
        exact g2 v r hr
theorem ok_difference_round {f : Addr} {fd : FuncData} (F : Fun K "_difference_round" "_difference_round" s_difference_round f fd) (T : Txt P K mg CA CU) : FnOk P w K mg base CX0 1 f fd ["arcs", "near", "rest", "start"] (spDRound K) := by
  refine F.ok sc_difference_round (fun vs H Q E h => ?_) (fun cdv A outer s H vs Q E hr h => ?_)
  · obtain ⟨n, a, ne, pr, arcs, xs, start, rfl, _⟩ := h
    rfl
  · obtain ⟨n, a, ne, pr, arcs, xs, start, rfl, hA, hN, hX, hlx, hl, hn, hgood, hbal, hst, hnz, k⟩ := h
    have hu := hu_of hr
    refine ⟨_, (pss_cons (ps_set (i := 4) sc_difference_round.nd rfl (Or.inl rfl) (pe_ix ix_tup (pe_ix ix_list (pv 0) (pv 3) (fun _ _ => rfl)) pe_int (fun _ _ => rfl)))
    (Evl.pss_cut (ps_if (pt_cmpR op_lt (pe_ix ix_list (pv 2) (pv 3) (fun _ _ => rfl)) pe_int (nomark _))
      (pss_one (ps_set (i := 4) sc_difference_round.nd rfl (Or.inl rfl) (pe_ix ix_tup (pe_ix ix_list (pv 0) (pv 3) (fun _ _ => rfl)) pe_int (fun _ _ => rfl))))
      pss_nil)
    (pss_cons (ps_set (i := 5) sc_difference_round.nd rfl (Or.inl rfl) (pe_lst pa_nil))
    (pss_cons (ps_set (i := 6) sc_difference_round.nd rfl (Or.inl rfl) (pe_disp (pps_cons (pv 4) pe_int pps_nil) (by rfl) (by rfl) (fun z => by cases z) (by decide)))
    (pss_one (ps_while PassesOwn.never (pt_val pe_bl)
      (pss_cons (ps_for PassesOwn.never rfl (pi_list (pe_ix ix_list (pv 1) (pv 4) (fun _ _ => rfl))) (pg_name (i := 7) sc_difference_round.nd rfl (Or.inl rfl))
        (pss_one (ps_if (PW.pt (pw_or (PW.pt (pw_and (pt_cmpR op_gt (pe_ix ix_list (pv 2) (pv 7) (fun _ _ => rfl)) pe_int (nomark _)) (pw_and1 (pt_cmpR op_eq (pe_ix ix_tup (pe_ix ix_list (pv 0) (pv 7) (fun _ _ => rfl)) pe_int (fun _ _ => rfl)) (pv 4) (nomark _))))) (pw_or1 (PW.pt (pw_and (pt_cmpR op_lt (pe_ix ix_list (pv 2) (pv 7) (fun _ _ => rfl)) pe_int (nomark _)) (pw_and1 (pt_cmpR op_eq (pe_ix ix_tup (pe_ix ix_list (pv 0) (pv 7) (fun _ _ => rfl)) pe_int (fun _ _ => rfl)) (pv 4) (nomark _))))))))
          (pss_one ps_break)
          pss_nil)))
      (pss_cons (ps_expr (pe_bm PySem.F.plainAttrs_list PySem.F.slot_list_append PySem.F.type_list_append mt_append (pv 5) (pa_cons (pv 7) pa_nil)))
      (pss_cons (ps_set (i := 4) sc_difference_round.nd rfl (Or.inl rfl) (pe_op op_sub (pe_op op_add (pe_ix ix_tup (pe_ix ix_list (pv 0) (pv 7) (fun _ _ => rfl)) pe_int (fun _ _ => rfl)) (pe_ix ix_tup (pe_ix ix_list (pv 0) (pv 7) (fun _ _ => rfl)) pe_int (fun _ _ => rfl))) (pv 4)))
      (pss_cons (ps_if (pt_cmp (pc_din hu (pv 4) (pv 6)))
        (pss_one (ps_ret (pe_slice sl_list (pv 5) (po_some (pe_dget hu (pv 6) (pv 4) (fun _ _ => rfl))) po_none)))
        pss_nil)
      (pss_one (ps_dput hu (pv 6) (pv 4) (pe_callB call_len_seq (by rfl) T.m_len (by decide +kernel) (pa_cons (pv 5) pa_nil)) rfl)))))))))))), ?_⟩
    obtain ⟨ts, hL, hts, hT⟩ := hA.at
    obtain ⟨t0, x1, x2⟩ := hT start hst
    refine ⟨_, rfl, _, rfl, _, _, _, _, rfl, rfl, hL, x1, _, _, _, _, rfl, rfl, x2, rfl, ?_⟩
    refine ⟨fun σ' H' => H' = H ∧ σ' = [some (.ref a), some (.ref ne), some (.ref pr), some (.int (start : Int)), some (.int (Cir.startOf arcs xs start)), none, none, none], ?_, ?_⟩
    · refine ⟨_, rfl, _, rfl, _, _, _, _, rfl, rfl, hX, at_part (by omega), _, _, rfl, rfl, _, rfl, dec_iff (fun c => ?_) fun c => ?_⟩
      · refine ⟨_, rfl, _, rfl, _, _, _, _, rfl, rfl, hL, x1, _, _, _, _, rfl, rfl, x2, rfl, rfl, ?_⟩
        unfold Cir.startOf
        rw [if_pos c]
        rfl
      · refine ⟨rfl, ?_⟩
        unfold Cir.startOf
        rw [if_neg c]
        rfl
    rintro σ' H0 ⟨rfl, rfl⟩
    have S0 := Cir.ds0 (n := n) hgood hst hnz
    refine ⟨by show 0 ≤ sizeLine; exact Nat.zero_le _, fun pa hpa p hp => ⟨_, rfl, upd_same, [((Sum.inl (Cir.startOf arcs xs start) : Key), V.int 0)], rfl, by show 1 ≤ 15; decide, ?_⟩⟩
    have npa : pa ≠ p := ne_of_none upd_same hp
    have hp0 : H0 p = none := ((Fr.refl [] H0).new hpa).free hp
    refine while_true (fun m σ H2 => ∃ (f : Nat) (vs : List Int) (path : List (Nat × Int)) (node : Int) (o : Option V), m = n + 1 - vs.length ∧ σ = [some (.ref a), some (.ref ne), some (.ref pr), some (.int (start : Int)), some (.int node), some (.ref pa), some (.ref p), o] ∧
      Cir.dround arcs xs f vs path node = Cir.droundOf n arcs xs start ∧ Cir.Ds n arcs xs vs path node ∧ n + 1 ≤ f + vs.length ∧ Fr [] H0 H2 ∧ H2 pa = some (.lst ((path.map (·.1)).map vN)) ∧ H2 p = some (.dK (kvsOf vs 0)))
      (n + 1 - 1) ⟨n + 1, [Cir.startOf arcs xs start], [], Cir.startOf arcs xs start, none, rfl, rfl, rfl, S0, by simp, ?_, ?_, ?_⟩ ?_
    · rw [upd_upd]
      exact ((Fr.refl [] H0).new hpa).new hp
    · rw [upd_ne npa, upd_ne npa]
      exact upd_same
    · exact upd_same
    · rintro m σ H2 ⟨f, vs, path, node, o, rfl, rfl, hf, S, hfu, e, hP, hK⟩
      obtain ⟨a1, a2, a3⟩ := Cir.nextA_ok S.on
      have ste := Cir.leads_ste a2
      have far := ste.1.far (hgood _ a1)
      have nrng := S.rng node (List.mem_of_getLast? S.last)
      obtain ⟨rs, n1, n2, n3, n4⟩ := hN
      have nn : node.toNat < rs.length := by omega
      have rn := List.getElem?_eq_getElem nn
      generalize rs[node.toNat] = r0 at rn
      have hr0 : H2 r0 = some (.lst ((Cir.nearOf arcs node).map vN)) := by
        have := e _ _ (n3 _ _ rn) (by simp)
        rwa [Int.toNat_of_nonneg nrng.1] at this
      refine ⟨_, rfl, _, rfl, _, _, _, _, rfl, rfl, SqL.of (e _ _ n2 (by simp)), at_int (v := V.ref r0) nrng.1 (by rw [List.getElem?_map, rn]; rfl), r0, rfl, ⟨_, SqL.of hr0⟩, for_list (K := K) (a := r0) (xs := (Cir.nearOf arcs node).map vN)
        (fun i σ H' => H' = H2 ∧ ((Cir.nearOf arcs node).drop i).find? (fun k => Cir.leadsB arcs xs k node) = some (Cir.nextA arcs xs node) ∧ ∃ o : Option V, σ = [some (.ref a), some (.ref ne), some (.ref pr), some (.int (start : Int)), some (.int node), some (.ref pa), some (.ref p), o])
        ⟨rfl, a3, _, rfl⟩ (fun i σ H' _ ⟨z, _⟩ => by rw [z]; exact SqL.of hr0) ?_ ?_⟩
      · rintro i y σ H' hi ⟨rfl, ho, o, rfl⟩
        obtain ⟨z, hz, rfl⟩ := get_mapf hi
        obtain ⟨hz1, hz2⟩ := List.getElem?_eq_some_iff.mp hz
        have dr : (Cir.nearOf arcs node).drop i = z :: (Cir.nearOf arcs node).drop (i + 1) := by rw [List.drop_eq_getElem_cons hz1, hz2]
        have hzl := (Cir.mem_near.mp (List.mem_of_getElem? hz)).1
        obtain ⟨t1, y1, y2⟩ := hT z hzl
        rw [dr, List.find?_cons] at ho
        have tst : ∀ (D1 D2 : Prop), (Cir.leadsB arcs xs z node = true → D1) → (Cir.leadsB arcs xs z node = false → D2) → if Cir.leadsB arcs xs z node = true then D1 else D2 := fun D1 D2 h1 h2 => bool_iff h1 h2
        dsimp only [gName]
        refine tOr_p (p := 0 < Cir.part xs z ∧ (Cir.arcOf arcs z).1 = node) (q := Cir.part xs z < 0 ∧ (Cir.arcOf arcs z).2 = node) (fun R h => ?_) (fun R h => ?_) ?_
        · refine tAnd_p (p := 0 < Cir.part xs z) (q := (Cir.arcOf arcs z).1 = node) (fun R h => ⟨_, rfl, _, rfl, _, _, _, _, rfl, rfl, e.l hX, at_part (by omega), _, _, rfl, rfl, _, rfl, h⟩) (fun _ R h => ?_) h
          refine ⟨_, rfl, _, rfl, _, _, _, _, rfl, rfl, e.l hL, y1, _, _, _, _, rfl, rfl, e.t y2, rfl, _, rfl, rfl, _, rfl, ?_⟩
          rw [int_eq]
          exact h
        · refine tAnd_p (p := Cir.part xs z < 0) (q := (Cir.arcOf arcs z).2 = node) (fun R h => ⟨_, rfl, _, rfl, _, _, _, _, rfl, rfl, e.l hX, at_part (by omega), _, _, rfl, rfl, _, rfl, h⟩) (fun _ R h => ?_) h
          refine ⟨_, rfl, _, rfl, _, _, _, _, rfl, rfl, e.l hL, y1, _, _, _, _, rfl, rfl, e.t y2, rfl, _, rfl, rfl, _, rfl, ?_⟩
          rw [int_eq]
          exact h
        · have ld : Cir.leadsB arcs xs z node = decide ((0 < Cir.part xs z ∧ (Cir.arcOf arcs z).1 = node) ∨ (Cir.part xs z < 0 ∧ (Cir.arcOf arcs z).2 = node)) := by
            unfold Cir.leadsB
            simp
          rw [← ld]
          refine bool_iff (fun c => ?_) fun c => ?_
          · simp only [c] at ho
            have ez : z = Cir.nextA arcs xs node := Option.some.inj ho
            subst ez
            generalize hzz : Cir.nextA arcs xs node = z at *
            have hal : path.length < 100000 := by
              have := S.wk.len
              have := Cir.nodup_le n vs S.nd S.rng
              omega
            refine ⟨_, rfl, .inl ⟨rfl, _, SqL.of hP⟩, _, rfl, _, _, _, rfl, rfl, hP, len_lt (by rw [List.length_map, List.length_map]; exact hal), ?_⟩
            have H3c : ∃ H3, H3 = upd H' pa (.lst (((path.map (·.1)).map vN) ++ [.int (z : Int)])) := ⟨_, rfl⟩
            obtain ⟨H3, hH3⟩ := H3c
            have e3 : Fr [] H0 H3 := by rw [hH3]; exact e.put (.inr hpa)
            have P3 : H3 pa = some (.lst (((path ++ [(z, Cir.sgn (Cir.part xs z))]).map (·.1)).map vN)) := by
              rw [hH3, upd_same, List.map_append, List.map_append]
              rfl
            have K3 : H3 p = some (.dK (kvsOf vs 0)) := by rw [hH3, upd_ne (Ne.symm npa)]; exact hK
            show tSeq _ _ _ _ (upd H' pa (.lst (((path.map (·.1)).map vN) ++ [.int (z : Int)])))
            rw [← hH3]
            clear hH3
            refine ⟨_, rfl, _, rfl, _, _, _, _, rfl, rfl, e3.l hL, y1, _, _, _, _, rfl, rfl, e3.t y2, rfl, ?_⟩
            refine ⟨_, rfl, _, rfl, _, _, _, _, rfl, rfl, e3.l hL, y1, _, _, _, _, rfl, rfl, e3.t y2, rfl, _, _, rfl, rfl, _, rfl, _, _, rfl, rfl, ?_⟩
            have nde : (Cir.arcOf arcs z).1 + (Cir.arcOf arcs z).2 - node = Cir.beyond arcs z node := rfl
            dsimp only
            rw [nde]
            have wlen := S.wk.len
            have vlen := Cir.nodup_le n vs S.nd S.rng
            cases f with
            | zero => omega
            | succ f =>
            unfold Cir.dround at hf
            rw [hzz] at hf
            have stp := Cir.ds_step (v := Cir.beyond arcs z node) hlx hgood hbal S a1 a2 rfl
            generalize Cir.beyond arcs z node = nd at hf far ste stp ⊢
            refine ⟨_, rfl, _, rfl, p, _, rfl, DGet.k (k := Sum.inl nd) K3, _, rfl, ?_⟩
            rw [kvsOf_val]
            by_cases hin : nd ∈ vs
            · rw [if_pos hin] at hf ⊢
              refine iteT ?_
              have hi : vs.idxOf nd < vs.length := List.idxOf_lt_length_of_mem hin
              refine ⟨_, rfl, _, rfl, _, rfl, p, V.int ((0 + vs.idxOf nd : Nat) : Int), rfl, ?_, _, rfl, _, _, rfl, SqL.of P3, fun r hr => ?_⟩
              · have := DGet.k (k := (Sum.inl nd : Key)) K3
                rw [kvsOf_val, if_pos hin] at this
                exact this
              rw [cut_drop _ _ (by rw [List.length_map, List.length_map, List.length_append, List.length_singleton]; omega), Nat.zero_add]
              refine k r _ (e3.free hr) (e3.new hr) ?_
              rw [← hf, upd_same, List.map_drop, List.map_drop]
            · rw [if_neg hin] at hf ⊢
              refine iteF ?_
              refine ⟨_, rfl, _, _, rfl, .inl (SqL.of P3), _, rfl, _, rfl, p, _, rfl, DPut.k (k := Sum.inl nd) K3 (by rw [kvsOf_len]; exact len_lt (by omega)), ?_⟩
              have hv : valV (kvsOf vs 0) (Sum.inl nd : Key) = none := by rw [kvsOf_val, if_neg hin]
              refine ⟨n + 1 - (vs ++ [nd]).length, by simp; omega, f, vs ++ [nd], path ++ [(z, Cir.sgn (Cir.part xs z))], nd, _, rfl, rfl, hf, stp hin, by simp; omega, e3.put (.inr hp0), ?_, ?_⟩
              · rw [upd_ne npa]
                exact P3
              · rw [upd_same, putK_new _ hv, kvsOf_snoc]
                have : ((((path ++ [(z, Cir.sgn (Cir.part xs z))]).map (·.1)).map vN).length : Int) = ((0 + vs.length : Nat) : Int) := by
                  rw [List.length_map, List.length_map, List.length_append, List.length_singleton]
                  omega
                rw [this]
          · simp only [c] at ho
            exact ⟨rfl, ho, _, rfl⟩
      · rintro σ H' ⟨rfl, ho, o, rfl⟩
        rw [List.length_map, List.drop_length] at ho
        cases ho
end
section
variable {P : Program} {w : World} {K : PySem.W.Frag} {mg : Str → Option Value} {base : Heap} {CA CU : Addr}
theorem ok_exchanges {f : Addr} {fd : FuncData} (F : Fun K "exchanges" "exchanges" s_exchanges f fd) (T : Txt P K mg CA CU)
    (F_check_ends : FnB P w K mg base (L2.CX P w) 2 "_check_ends" ["count", "arcs"] (spCheckEnds K CA)) (F_check_balance : FnB P w K mg base (L2.CX P w) 3 "_check_balance" ["count", "arcs", "amounts"] (spCheckBal K CU))
    (F_near : FnB P w K mg base CX0 1 "_near" ["count", "arcs"] (spNear K)) (F_difference_round : FnB P w K mg base CX0 1 "_difference_round" ["arcs", "near", "rest", "start"] (spDRound K)) :
    FnOk P w K mg base (L2.CX P w) 4 f fd ["count", "arcs", "first", "second"] (spExch K CA CU) := by
  refine F.okX sc_exchanges (fun vs H Q E h => ?_) (fun cdv A outer s H vs Q E hr h => ?_)
  · obtain ⟨n, a, af, as, arcs, xs, ys, rfl, _⟩ := h
    rfl
  · obtain ⟨n, a, af, as, arcs, xs, ys, rfl, hA, hX, hY, hlx, hly, hl, hn, kQ, kA, kU, kV⟩ := h
    refine ⟨_, (pss_cons (ps_expr (pe_callF F_check_ends (hr.mono (by decide)) rfl (passes_call (takes_of rfl rfl rfl rfl) fun _ _ _ _ z => z) (pa_cons (pv 0) (pa_cons (pv 1) pa_nil))))
    (pss_cons (ps_expr (pe_callF F_check_balance (hr.mono (by decide)) rfl (passes_call (takes_of rfl rfl rfl rfl) fun _ _ _ _ z => z) (pa_cons (pv 0) (pa_cons (pv 1) (pa_cons (pv 2) pa_nil)))))
    (pss_cons (ps_expr (pe_callF F_check_balance (hr.mono (by decide)) rfl (passes_call (takes_of rfl rfl rfl rfl) fun _ _ _ _ z => z) (pa_cons (pv 0) (pa_cons (pv 1) (pa_cons (pv 3) pa_nil)))))
    (pss_cons (ps_set (i := 4) sc_exchanges.nd rfl (Or.inl rfl) (pe_callF F_near (hr.mono (by decide)) rfl pass0 (pa_cons (pv 0) (pa_cons (pv 1) pa_nil))))
    (pss_cons (ps_set (i := 5) sc_exchanges.nd rfl (Or.inl rfl) (pe_callTy call_list_of (by rfl) T.m_list (by decide +kernel) (pa_cons (pv 2) pa_nil)))
    (pss_cons (ps_set (i := 7) sc_exchanges.nd rfl (Or.inr rfl) (pe_lc (own := [("k", 6)]) rfl sc_exchanges.nd (pi_range1 (by rfl) T.m_range (pa_cons (pe_callB call_len_seq (by rfl) T.m_len (by decide +kernel) (pa_cons (pv 1) pa_nil)) pa_nil)) (blkOk_by (own := [("k", 6)]) (N := n_exchanges) (sc := defScope s_exchanges) (by decide +kernel)) (fun _ _ _ _ _ => (pg_name (i := 6) sc_exchanges.nd rfl (Or.inl rfl))) (fun _ _ _ _ _ => pts_nil) (fun _ _ _ _ _ => (pe_op op_sub (pe_ix (r := rIxL K) ix_list (pv 3) (pv 6) (fun _ _ => rfl)) (pe_ix (r := rIxL K) ix_list (pv 2) (pv 6) (fun _ _ => rfl))))))
    (pss_cons (ps_set (i := 8) sc_exchanges.nd rfl (Or.inl rfl) (pe_lst (pa_cons (pe_callTy call_list_of (by rfl) T.m_list (by decide +kernel) (pa_cons (pv 5) pa_nil)) pa_nil)))
    (pss_cons (ps_for (passes_of rfl) rfl (pi_range1 (by rfl) T.m_range (pa_cons (pe_callB call_len_seq (by rfl) T.m_len (by decide +kernel) (pa_cons (pv 1) pa_nil)) pa_nil)) (pg_name (i := 6) sc_exchanges.nd rfl (Or.inl rfl))
      (pss_one (ps_while (passes_of rfl) (pt_cmpR op_ne (pe_ix ix_list (pv 7) (pv 6) (fun _ _ => rfl)) pe_int (nomark _))
        (pss_cons (ps_set (i := 9) sc_exchanges.nd rfl (Or.inl rfl) (pe_callF F_difference_round (hr.mono (by decide)) rfl pass0 (pa_cons (pv 1) (pa_cons (pv 4) (pa_cons (pv 7) (pa_cons (pv 6) pa_nil))))))
        (pss_cons (ps_set (i := 11) sc_exchanges.nd rfl (Or.inl rfl) (pe_callB (cr_min rfl) (by rfl) T.m_min (by decide +kernel) (pa_cons (pe_lc (own := [("arc", 10)]) rfl sc_exchanges.nd (pi_list (pv 9)) (blkOk_by (own := [("arc", 10)]) (N := n_exchanges) (sc := defScope s_exchanges) (by decide +kernel)) (fun _ _ _ _ _ => (pg_name (i := 10) sc_exchanges.nd rfl (Or.inl rfl))) (fun _ _ _ _ _ => pts_nil) (fun _ _ _ _ _ => (pe_callB call_abs (by rfl) T.m_abs (by decide +kernel) (pa_cons (pe_ix (r := rIxL K) ix_list (pv 7) (pv 10) (fun _ _ => rfl)) pa_nil)))) pa_nil)))
        (pss_cons (ps_for (passes_of rfl) rfl (pi_list (pv 9)) (pg_name (i := 10) sc_exchanges.nd rfl (Or.inl rfl))
          (pss_cons (ps_set (i := 12) sc_exchanges.nd rfl (Or.inl rfl) pe_int)
          (Evl.pss_cut (ps_if (pt_cmpR op_lt (pe_ix ix_list (pv 7) (pv 10) (fun _ _ => rfl)) pe_int (nomark _))
            (pss_one (ps_set (i := 12) sc_exchanges.nd rfl (Or.inl rfl) (pe_un un_neg pe_int)))
            pss_nil)
          (pss_cons (ps_augS (pv 5) (pv 10) pget_list (pe_op op_mul (pv 12) (pv 11)) ip_add set_list)
          (pss_one (ps_augS (pv 7) (pv 10) pget_list (pe_op op_mul (pv 12) (pv 11)) ip_sub set_list))))))
        (pss_one (ps_expr (pe_bm PySem.F.plainAttrs_list PySem.F.slot_list_append PySem.F.type_list_append mt_append (pv 8) (pa_cons (pe_callTy call_list_of (by rfl) T.m_list (by decide +kernel) (pa_cons (pv 5) pa_nil)) pa_nil))))))))))
    (pss_one (ps_ret (pv 8))))))))))), ?_⟩
    by_cases hgood : ∀ k, k < arcs.length → Cir.Good n (Cir.arcOf arcs k)
    · refine ⟨_, rfl, _, rfl, n, a, arcs, rfl, hA, by omega, fun _ => ?_, fun k hk hb => absurd (hgood k hk) hb⟩
      by_cases hz : ∀ v : Nat, v < n → Cir.net arcs xs v = 0
      · refine ⟨_, rfl, _, rfl, _, rfl, n, a, af, arcs, xs, rfl, hA, hX, hlx, by omega, by omega, hgood, fun _ H1 e1 => ?_, fun v hv hb => absurd (hz v hv) hb⟩
        by_cases hy : ∀ v : Nat, v < n → Cir.net arcs ys v = 0
        · refine ⟨_, rfl, _, rfl, _, rfl, n, a, as, arcs, ys, rfl, hA.fr e1, e1.l hY, hly, by omega, by omega, hgood, fun _ H1' e1' => ?_, fun v hv hb => absurd (hy v hv) hb⟩
          have e1 := e1.trans e1'
          clear e1'
          have bx := net_all hgood hz
          have by' := net_all hgood hy
          have kQ := kQ hgood hz hy
          -- near = _near(count, arcs); now = list(first)
          refine ⟨_, rfl, _, rfl, n, a, arcs, rfl, hA.fr e1, hl, hn, hgood, fun ne H3 hne e3 hN => ?_⟩
          have e3 := e1.trans e3
          refine ⟨_, rfl, _, _, rfl, .inl (e3.l hX), fun pn hpn => ?_⟩
          have npn : H pn = none := e3.free hpn
          have e4 := e3.new (o := .lst (xs.map V.int)) hpn
          have hN4 : NearAt (fun r => r ≠ pn) (upd H3 pn (.lst (xs.map V.int))) ne n arcs ∧ ne ≠ pn := by
            obtain ⟨rs, h1, h2, h3, h4⟩ := hN
            have ee := (Fr.refl [] H3).new (o := .lst (xs.map V.int)) hpn
            refine ⟨⟨rs, h1, ee _ _ h2 (by simp), fun v r hv => ee _ _ (h3 v r hv) (by simp), fun r hr => ?_⟩, ne_of_none h2 hpn⟩
            obtain ⟨v, hv⟩ := List.mem_iff_getElem?.mp hr
            exact ne_of_none (h3 v r hv) hpn
          have p4 : (upd H3 pn (.lst (xs.map V.int))) pn = some (.lst (xs.map V.int)) := upd_same
          generalize upd H3 pn (.lst (xs.map V.int)) = H4 at e4 hN4 p4 ⊢
          obtain ⟨hN4, nen⟩ := hN4
          clear hN hpn e3
          -- rest
          obtain ⟨ts, hL, hts, hT⟩ := hA.at
          have hlm : (ts.map V.ref).length = arcs.length := by rw [List.length_map, hts]
          refine ⟨_, rfl, _, _, rfl, .inl (e4.l hL), _, rfl, (rg_ok (by omega)).1, (rg_ok (by omega)).2, fun pr hpr => lc_rng (n := (ts.map V.ref).length) (fun i H2 => H2 = upd H4 pr (.lst ((Cir.restOf i xs ys).map V.int))) rfl ?_ ?_⟩
          · rintro i H2 hi rfl
            rw [hlm] at hi
            have e5 := e4.new (o := .lst ((Cir.restOf i xs ys).map V.int)) hpr
            refine ⟨rfl, _, rfl, _, rfl, _, _, _, _, rfl, rfl, e5.l hY, at_part (by omega), _, rfl, _, rfl, _, _, _, _, rfl, rfl, e5.l hX, at_part (by omega), _, _, rfl, rfl, _, upd_same, len_lt (by rw [List.length_map, Cir.restOf_len]; omega), ?_⟩
            rw [upd_upd]
            unfold Cir.restOf
            rw [List.range_succ, List.map_append, List.map_append]
            rfl
          rintro H5 rfl
          rw [hlm]
          have npr : H pr = none := e4.free hpr
          have nepr : ne ≠ pr := by
            obtain ⟨rs, h1, h2, h3, h4⟩ := hN4
            exact ne_of_none h2 hpr
          have pnr : pn ≠ pr := ne_of_none p4 hpr
          have hN5 : NearAt (fun r => r ≠ pn ∧ r ≠ pr) (upd H4 pr (.lst ((Cir.restOf arcs.length xs ys).map V.int))) ne n arcs := by
            obtain ⟨rs, h1, h2, h3, h4⟩ := hN4
            have ee := (Fr.refl [] H4).new (o := .lst ((Cir.restOf arcs.length xs ys).map V.int)) hpr
            refine ⟨rs, h1, ee _ _ h2 (by simp), fun v r hv => ee _ _ (h3 v r hv) (by simp), fun r hr => ⟨h4 r hr, ?_⟩⟩
            obtain ⟨v, hv⟩ := List.mem_iff_getElem?.mp hr
            exact ne_of_none (h3 v r hv) hpr
          have e5 := e4.new (o := .lst ((Cir.restOf arcs.length xs ys).map V.int)) hpr
          have pn5 : (upd H4 pr (.lst ((Cir.restOf arcs.length xs ys).map V.int))) pn = some (.lst (xs.map V.int)) := by rw [upd_ne pnr]; exact p4
          have pr5 : (upd H4 pr (.lst ((Cir.restOf arcs.length xs ys).map V.int))) pr = some (.lst ((Cir.restOf arcs.length xs ys).map V.int)) := upd_same
          generalize upd H4 pr (.lst ((Cir.restOf arcs.length xs ys).map V.int)) = H5 at e5 hN5 pn5 pr5 ⊢
          clear hN4 hpr p4 e4
          -- told = [list(now)]
          refine ⟨_, rfl, _, _, rfl, .inl (SqL.of pn5), fun r0 hr0 => ⟨by show 1 ≤ sizeLine; decide, fun pt hpt => ?_⟩⟩
          have e6 : Fr [] H5 (upd (upd H5 r0 (.lst (xs.map V.int))) pt (.lst [.ref r0])) := ((Fr.refl [] H5).new hr0).new hpt
          have hpt5 : H5 pt = none := ((Fr.refl [] H5).new hr0).free hpt
          have R6 : RowsN (fun r => H r = none ∧ r ≠ pn ∧ r ≠ pr) (upd (upd H5 r0 (.lst (xs.map V.int))) pt (.lst [.ref r0])) pt [xs] := by
            have n1 : r0 ≠ pt := ne_of_none upd_same hpt
            refine ⟨[r0], upd_same, rfl, by simp, fun r hr => ?_, fun k r row a b => ?_⟩
            · rw [List.mem_singleton] at hr
              subst hr
              exact ⟨⟨e5.free hr0, (ne_of_none pn5 hr0).symm, (ne_of_none pr5 hr0).symm⟩, n1⟩
            · cases k with
              | zero =>
                cases a
                cases b
                rw [upd_ne n1]
                exact upd_same
              | succ k => simp at a
          have npt : pt ≠ pn ∧ pt ≠ pr := ⟨(ne_of_none pn5 hpt5).symm, (ne_of_none pr5 hpt5).symm⟩
          have hpt0 : H pt = none := e5.free hpt5
          have e5 := e5.trans e6
          have pn6 := e6 _ _ pn5 (by simp)
          have pr6 := e6 _ _ pr5 (by simp)
          have hN6 : NearAt (fun r => r ≠ pn ∧ r ≠ pr ∧ r ≠ pt) (upd (upd H5 r0 (.lst (xs.map V.int))) pt (.lst [.ref r0])) ne n arcs ∧ ne ≠ pt := by
            obtain ⟨rs, h1, h2, h3, h4⟩ := hN5
            refine ⟨⟨rs, h1, e6 _ _ h2 (by simp), fun v r hv => e6 _ _ (h3 v r hv) (by simp), fun r hr => ⟨(h4 r hr).1, (h4 r hr).2, ?_⟩⟩, ne_of_none h2 hpt5⟩
            obtain ⟨v, hv⟩ := List.mem_iff_getElem?.mp hr
            exact ne_of_none (h3 v r hv) hpt5
          generalize upd (upd H5 r0 (.lst (xs.map V.int))) pt (.lst [.ref r0]) = H6 at e5 R6 pn6 pr6 hN6 ⊢
          clear e6 hpt5 hpt hr0 hN5 pn5 pr5
          obtain ⟨hN6, nept⟩ := hN6
          have ne3 : ne ∉ [pn, pr, pt] := by simp [nen, nepr, nept]
          have in3 : ∀ s ∈ [pn, pr, pt], H s = none := fun s hs => by
            simp only [List.mem_cons, List.not_mem_nil, or_false] at hs
            rcases hs with rfl | rfl | rfl
            · exact npn
            · exact npr
            · exact hpt0
          obtain ⟨B1, b10, b11⟩ := bound_of xs
          obtain ⟨B2, b20, b21⟩ := bound_of ys
          have bb1 : ∀ k, k < arcs.length → -(B1 + B2) ≤ Cir.part xs k ∧ Cir.part xs k ≤ B1 + B2 := fun k _ => by have := b11 k; omega
          have bb2 : ∀ k, k < arcs.length → -(B1 + B2) ≤ Cir.part ys k ∧ Cir.part ys k ≤ B1 + B2 := fun k _ => by have := b21 k; omega
          refine ⟨_, rfl, _, _, rfl, .inl (e5.l hL), _, rfl, (rg_ok (by omega)).1, (rg_ok (by omega)).2, for_rng (n := (ts.map V.ref).length)
            (fun i σ H' => Fr [pn, pr, pt] H6 H' ∧ H' pn = some (.lst ((Cir.exOut n arcs (Cir.exStart arcs xs ys) i).now.map V.int)) ∧ H' pr = some (.lst ((Cir.exOut n arcs (Cir.exStart arcs xs ys) i).rest.map V.int)) ∧
              RowsN (fun r => H r = none ∧ r ≠ pn ∧ r ≠ pr) H' pt (Cir.exOut n arcs (Cir.exStart arcs xs ys) i).rows ∧ ∃ o6 o9 o10 o11 o12 : Option V,
              σ = [some (.int (n : Int)), some (.ref a), some (.ref af), some (.ref as), some (.ref ne), some (.ref pn), o6, some (.ref pr), some (.ref pt), o9, o10, o11, o12])
            ⟨Fr.refl _ _, pn6, pr6, R6, _, _, _, _, _, rfl⟩ ?_ ?_⟩
          · rintro i σ H' hi ⟨e, hpn, hpr, hR, o6, o9, o10, o11, o12, rfl⟩
            rw [hlm] at hi
            obtain ⟨I0, _⟩ := Cir.exOut_ok (n := n) hgood hlx hly bx by' bb1 bb2 i (by omega)
            refine ⟨fun m σ H' => ∃ (f : Nat) (st : Cir.ExSt), m = Cir.nz arcs.length st.rest ∧ Cir.exIn n arcs f st i = Cir.exOut n arcs (Cir.exStart arcs xs ys) (i + 1) ∧ Cir.ExInv arcs xs ys (B1 + B2) (Cir.differ arcs.length xs ys) st ∧ Cir.nz arcs.length st.rest ≤ f ∧
              Fr [pn, pr, pt] H6 H' ∧ H' pn = some (.lst (st.now.map V.int)) ∧ H' pr = some (.lst (st.rest.map V.int)) ∧ RowsN (fun r => H r = none ∧ r ≠ pn ∧ r ≠ pr) H' pt st.rows ∧ ∃ o9 o10 o11 o12 : Option V,
              σ = [some (.int (n : Int)), some (.ref a), some (.ref af), some (.ref as), some (.ref ne), some (.ref pn), some (.int (i : Int)), some (.ref pr), some (.ref pt), o9, o10, o11, o12],
              ⟨_, arcs.length + 1, Cir.exOut n arcs (Cir.exStart arcs xs ys) i, rfl, (Cir.exOut_succ n arcs _ i).symm, I0, Nat.le_trans (Cir.nz_le _ _) (by omega), e, hpn, hpr, hR, _, _, _, _, rfl⟩, ?_⟩
            clear e hpn hpr hR I0
            rintro m σ H' ⟨f, st, rfl, hin, I, hf, e, hpn, hpr, hR, o9, o10, o11, o12, rfl⟩
            have hrl : i < st.rest.length := by rw [I.lenr]; exact hi
            refine ⟨_, rfl, _, rfl, _, _, _, _, rfl, rfl, SqL.of hpr, at_part hrl, rfl, _, rfl, ne_if (fun c => ⟨_, fun σ' H' h => h, ?_⟩) fun c => ?_⟩
            · cases f with
              | zero =>
                have := Cir.exTurn_ok (n := n) hgood bb2 I hi c
                omega
              | succ f =>
              unfold Cir.exIn at hin
              rw [if_pos c] at hin
              obtain ⟨I2, _, lt⟩ := Cir.exTurn_ok (n := n) hgood bb2 I hi c
              have R := Cir.droundOf_ok (n := n) I.lenr.symm hgood I.balr hi c
              have eH := Fr.thru e5 e in3
              -- found = _difference_round(..)
              refine ⟨_, rfl, _, rfl, _, rfl, _, rfl, n, a, ne, pr, arcs, st.rest, i, rfl, hA.fr eH, (hN6.frS e ne3 fun r hr => by simpa using hr).imp (fun _ _ => trivial), SqL.of hpr, I.lenr.symm, hl, hn, hgood, I.balr, hi, c, fun fo H4 hfo e4 hF => ?_⟩
              unfold Cir.exTurn at hin I2 lt
              generalize Cir.droundOf n arcs st.rest i = fd' at R hF hin I2 lt
              have ee4 : Fr [pn, pr, pt] H6 H4 := e.trans e4.nil
              have hpn4 := e4 _ _ hpn (by simp)
              have hpr4 := e4 _ _ hpr (by simp)
              have hR4 := hR.fr e4
              have nfo : fo ≠ pn ∧ fo ≠ pr ∧ fo ≠ pt := by
                obtain ⟨rs, g1, _⟩ := hR
                exact ⟨(ne_of_none hpn hfo).symm, (ne_of_none hpr hfo).symm, (ne_of_none g1 hfo).symm⟩
              have hq : ∀ {j : Nat} {y : V}, ((fd'.map (·.1)).map vN)[j]? = some y → ∃ q, fd'[j]? = some q ∧ y = vN q.1 ∧ q.1 < arcs.length ∧ Cir.part st.rest q.1 ≠ 0 ∧ q.2 = Cir.sgn (Cir.part st.rest q.1) := fun {j y} hy => by
                obtain ⟨z, hz, rfl⟩ := get_mapf hy
                rw [List.getElem?_map] at hz
                cases hq : fd'[j]? with
                | none => rw [hq] at hz; cases hz
                | some q =>
                  rw [hq] at hz
                  have ok := R.ok q (List.mem_of_getElem? hq)
                  exact ⟨q, rfl, by rw [← Option.some.inj hz], ok⟩
              have hfl : fd'.length ≤ arcs.length := by
                have := List.Nodup.length_le_of_subset R.nd (l₂ := List.range arcs.length) fun k hk => by
                  obtain ⟨q, hq, rfl⟩ := List.mem_map.mp hk
                  exact List.mem_range.mpr (R.ok q hq).1
                simpa using this
              -- step
              refine ⟨_, rfl, fo, rfl, ⟨_, SqL.of hF⟩, fun D hD => lc_list (K := K) (a := fo) (xs := (fd'.map (·.1)).map vN) (fun j H2 => H2 = upd H4 D (.lst ((fd'.take j).map fun q => V.int (Cir.absI (Cir.part st.rest q.1))))) rfl
                (fun j H2 _ z => by rw [z]; exact SqL.of (by rw [upd_ne (ne_of_none hF hD)]; exact hF)) ?_ ?_⟩
              · rintro j y H2 hy rfl
                obtain ⟨q, hq1, rfl, ok1, ok2, ok3⟩ := hq hy
                refine ⟨rfl, _, rfl, _, rfl, _, _, _, _, rfl, rfl, SqL.of (by rw [upd_ne (ne_of_none hpr4 hD)]; exact hpr4), at_part (by rw [I.lenr]; exact ok1), _, rfl, _, upd_same, ?_, ?_⟩
                · rw [List.length_map, List.length_take]
                  exact len_lt (by omega)
                · rw [upd_upd, take_succ hq1, List.map_append]
                  rfl
              rintro H2 rfl
              rw [List.length_map, List.length_map, List.take_length]
              refine ⟨D, fd'.map (fun q => Cir.absI (Cir.part st.rest q.1)), rfl, SqL.of (by rw [upd_same, List.map_map]; rfl), ?_, fun m hm hle => ?_⟩
              · rw [List.length_map]
                have := R.ne
                cases fd' with
                | nil => exact absurd rfl this
                | cons _ _ => simp
              have hstep : Cir.exStep st.rest fd' = m := Cir.minL_eq hm hle
              rw [hstep] at hin I2 lt
              have e7 := (Fr.refl [] H4).new (o := .lst (fd'.map fun q => V.int (Cir.absI (Cir.part st.rest q.1)))) hD
              have hpn7 := e7 _ _ hpn4 (by simp)
              have hpr7 := e7 _ _ hpr4 (by simp)
              have hR7 := hR4.fr e7
              have hF7 := e7 _ _ hF (by simp)
              have ee7 := ee4.trans e7.nil
              generalize upd H4 D (.lst (fd'.map fun q => V.int (Cir.absI (Cir.part st.rest q.1)))) = H7 at hpn7 hpr7 hR7 hF7 ee7 ⊢
              refine ⟨_, rfl, fo, rfl, ⟨_, SqL.of hF7⟩, for_list (K := K) (a := fo) (xs := (fd'.map (·.1)).map vN)
                (fun j σ H' => Fr [pn, pr, pt] H6 H' ∧ H' fo = some (.lst ((fd'.map (·.1)).map vN)) ∧ H' pn = some (.lst ((Cir.applyR st.now m (fd'.take j)).map V.int)) ∧ H' pr = some (.lst ((Cir.applyR st.rest (-m) (fd'.take j)).map V.int)) ∧
                  RowsN (fun r => H r = none ∧ r ≠ pn ∧ r ≠ pr) H' pt st.rows ∧ ∃ o10 o12 : Option V, σ = [some (.int (n : Int)), some (.ref a), some (.ref af), some (.ref as), some (.ref ne), some (.ref pn), some (.int (i : Int)), some (.ref pr), some (.ref pt), some (.ref fo), o10, some (.int m), o12])
                ⟨ee7, hF7, hpn7, hpr7, hR7, _, _, rfl⟩ (fun j σ H' _ ⟨_, z, _⟩ => SqL.of z) ?_ ?_⟩
              · clear hpn7 hpr7 hR7 hF7 ee7 e7 hpn4 hpr4 hR4 ee4 e4 eH hpn hpr hR e
                rintro j y σ H8 hy ⟨e8, hF8, hpn8, hpr8, hR8, o10, o12, rfl⟩
                obtain ⟨q, hq1, rfl, ok1, ok2, ok3⟩ := hq hy
                have qout : q.1 ∉ (fd'.take j).map (·.1) := fun hm => by
                  obtain ⟨q', hq', eq⟩ := List.mem_map.mp hm
                  obtain ⟨j', hj'⟩ := List.mem_iff_getElem?.mp hq'
                  have hj2 : j' < j := by
                    have := (List.getElem?_eq_some_iff.mp hj').1
                    rw [List.length_take] at this
                    omega
                  rw [List.getElem?_take_of_lt hj2] at hj'
                  have nd := R.nd
                  rw [List.nodup_iff_pairwise_ne, List.pairwise_iff_getElem] at nd
                  obtain ⟨l1, g1⟩ := List.getElem?_eq_some_iff.mp hj'
                  obtain ⟨l2, g2⟩ := List.getElem?_eq_some_iff.mp hq1
                  have := nd j' j (by simpa using l1) (by simpa using l2) hj2
                  rw [List.getElem_map, List.getElem_map, g1, g2] at this
                  exact this eq
                have qr := Cir.applyR_out (-m) (fd'.take j) st.rest q.1 qout
                have hql : q.1 < (Cir.applyR st.rest (-m) (fd'.take j)).length := by rw [Cir.applyR_len, I.lenr]; exact ok1
                have hql2 : q.1 < (Cir.applyR st.now m (fd'.take j)).length := by rw [Cir.applyR_len, I.len]; exact ok1
                refine ⟨fun σ' H' => H' = H8 ∧ σ' = [some (.int (n : Int)), some (.ref a), some (.ref af), some (.ref as), some (.ref ne), some (.ref pn), some (.int (i : Int)), some (.ref pr), some (.ref pt), some (.ref fo), some (vN q.1), some (.int m), some (.int q.2)], ?_, ?_⟩
                · refine ⟨_, rfl, _, rfl, _, _, _, _, rfl, rfl, SqL.of hpr8, at_part hql, _, _, rfl, rfl, _, rfl, ?_⟩
                  rw [qr, ok3]
                  unfold Cir.sgn
                  exact dec_iff (fun c => ⟨_, rfl, rfl, by rw [if_pos c]; rfl⟩) fun c => ⟨rfl, by rw [if_neg c]; rfl⟩
                rintro σ' H8' ⟨rfl, rfl⟩
                have sb : q.2 = 1 ∨ q.2 = -1 := by
                  rw [ok3]
                  unfold Cir.sgn
                  split
                  · exact .inr rfl
                  · exact .inl rfl
                refine ⟨_, rfl, _, rfl, _, _, _, _, rfl, rfl, SqL.of hpn8, at_part hql2, _, rfl, _, rfl, _, _, rfl, rfl, .inl ⟨by omega, by omega⟩, _, _, rfl, rfl, _, _, _, _, rfl, rfl, hpn8, ix_nat (by rw [List.length_map]; exact hql2), ?_⟩
                refine ⟨_, rfl, _, rfl, _, _, _, _, rfl, rfl, SqL.of (by rw [upd_ne (Ne.symm pnr)]; exact hpr8), at_part hql, _, rfl, _, rfl, _, _, rfl, rfl, .inl ⟨by omega, by omega⟩, _, _, rfl, rfl, _, _, _, _, rfl, rfl, (by rw [upd_ne (Ne.symm pnr)]; exact hpr8), ix_nat (by rw [List.length_map]; exact hql), ?_⟩
                refine ⟨(e8.put (.inl (by simp))).put (.inl (by simp)), ?_, ?_, ?_, ?_, _, _, rfl⟩
                · rw [upd_ne nfo.2.1, upd_ne nfo.1]
                  exact hF8
                · rw [upd_ne pnr, upd_same, take_succ hq1]
                  unfold Cir.applyR
                  rw [List.foldl_append, List.foldl_cons, List.foldl_nil, List.map_set]
                · rw [upd_same, take_succ hq1]
                  have : Cir.part (Cir.applyR st.rest (-m) (fd'.take j)) q.1 - q.2 * m = Cir.part (Cir.applyR st.rest (-m) (fd'.take j)) q.1 + q.2 * -m := by rw [Int.mul_neg]; omega
                  dsimp only
                  rw [this]
                  unfold Cir.applyR
                  rw [List.foldl_append, List.foldl_cons, List.foldl_nil, List.map_set]
                · exact (hR8.put (Ne.symm npt.1) fun r hr => hr.2.1).put (Ne.symm npt.2) fun r hr => hr.2.2
              · rintro σ H8 ⟨e8, hF8, hpn8, hpr8, hR8, o10, o12, rfl⟩
                rw [List.length_map, List.length_map, List.take_length] at hpn8 hpr8
                obtain ⟨rs, g1, g2, _⟩ := id hR8
                refine ⟨_, rfl, .inl ⟨rfl, _, SqL.of g1⟩, _, rfl, _, _, rfl, .inl (SqL.of hpn8), fun r hr => ?_⟩
                have hr0 : H r = none := (Fr.thru e5 e8 in3).free hr
                obtain ⟨rs', g1', g2', hR9⟩ := hR8.snoc (r := r) (row := Cir.applyR st.now m fd') hr ⟨hr0, (ne_of_none hpn8 hr).symm, (ne_of_none hpr8 hr).symm⟩
                rw [g1] at g1'
                have eq := HO.lst.inj (Option.some.inj g1')
                rw [← eq] at hR9
                have rl : rs.length < 100000 := by
                  have := I.few
                  have := Cir.nz_le arcs.length (Cir.restOf arcs.length xs ys)
                  rw [Cir.nz_rest] at this
                  omega
                refine ⟨_, _, _, rfl, rfl, by rw [upd_ne (ne_of_none g1 hr)]; exact g1, len_lt (by rw [List.length_map]; exact rl), ?_⟩
                refine ⟨_, lt, f, _, rfl, hin, I2, by omega, (e8.new hr).put (.inl (by simp)), ?_, ?_, hR9, _, _, _, _, rfl⟩
                · rw [upd_ne (Ne.symm npt.1), upd_ne (ne_of_none hpn8 hr)]
                  exact hpn8
                · rw [upd_ne (Ne.symm npt.2), upd_ne (ne_of_none hpr8 hr)]
                  exact hpr8
            · have done : Cir.exIn n arcs f st i = st := by
                cases f with
                | zero => rfl
                | succ f =>
                  unfold Cir.exIn
                  rw [if_neg (by simpa using c)]
              rw [done] at hin
              rw [hin] at hpn hpr hR
              exact ⟨e, hpn, hpr, hR, _, _, _, _, _, rfl⟩
          · rintro σ H' ⟨e, hpn, hpr, hR, o6, o9, o10, o11, o12, rfl⟩
            rw [hlm] at hR
            exact ⟨_, rfl, kQ pt H' hpt0 (Fr.thru e5 e in3) (hR.imp fun r hr => hr.1)⟩
        · obtain ⟨v, h1, h2, h3⟩ := least n (Classical.byContradiction fun no => hy fun v hv => Classical.byContradiction fun c => no ⟨v, hv, c⟩)
          refine ⟨_, rfl, _, rfl, _, rfl, n, a, as, arcs, ys, rfl, hA.fr e1, e1.l hY, hly, by omega, by omega, hgood, fun z => absurd z hy, fun u hu hb hlow dd H2 e2 hx => kV hgood hz u hu hb hlow dd H2 (e1.trans e2) hx⟩
      · -- out of balance
        refine ⟨_, rfl, _, rfl, _, rfl, n, a, af, arcs, xs, rfl, hA, hX, hlx, by omega, by omega, hgood, fun z => absurd z hz, fun u hu hb hlow dd H1 e1 hx => kU hgood u hu hb hlow dd H1 e1 hx⟩
    · -- a wrong arc
      refine ⟨_, rfl, _, rfl, n, a, arcs, rfl, hA, by omega, fun z => absurd z hgood, fun k hk hb hlow dd hdd => kA k hk hb hlow dd _ ((Fr.refl [] H).new hdd) upd_same⟩
end
/-! _law_bag(script): slots 0 script 1 seed 2 cell -/
abbrev s_law_bag : Stmt := top 13
abbrev n_law_bag : List Str := ["script", "seed", "cell"]
theorem sc_law_bag : FnScope n_law_bag ["script"] (defScope s_law_bag) := ⟨rfl, rfl, rfl, by decide +kernel, rfl, by decide +kernel, by decide +kernel⟩
/-! _law_take(bag, many): slots 0 bag 1 many 2 cell 3 told -/
abbrev s_law_take : Stmt := top 14
abbrev n_law_take : List Str := ["bag", "many", "cell", "told"]
theorem sc_law_take : FnScope n_law_take ["bag", "many"] (defScope s_law_take) := ⟨rfl, rfl, rfl, by decide +kernel, rfl, by decide +kernel, by decide +kernel⟩
theorem m31 : (0 : Int) < 2147483647 := by decide
section
variable {P : Program} {w : World} {K : PySem.W.Frag} {mg : Str → Option Value} {base : Heap}
theorem ok_law_take {f : Addr} {fd : FuncData} (F : Fun K "_law_take" "_law_take" s_law_take f fd) (T : Blt mg) : FnOk P w K mg base CX0 1 f fd ["bag", "many"] spTake := by
  refine F.ok sc_law_take (fun vs H Q E h => ?_) (fun cdv A outer s H vs Q E hr h => ?_)
  · obtain ⟨b, c, many, rfl, _⟩ := h
    rfl
  · obtain ⟨b, c, many, rfl, ⟨ns, i, v, sd, hB⟩, hm, hlog, k⟩ := h
    have hb := hB.1
    have hc := hB.2.1
    have hv : 0 ≤ v := hB.2.2.2.1
    have hi : 0 ≤ i := hB.2.2.1
    refine ⟨_, (Evl.pss_cut (ps_if (pt_cmpR op_lt (pe_ix ix_list (pv 0) pe_int (fun _ _ => rfl)) (pv 1) (nomark _))
      (pss_cons (ps_set (i := 2) sc_law_take.nd rfl (Or.inl rfl) (pe_ix ix_list (pv 0) pe_int (fun _ _ => rfl)))
      (Evl.pss_cut (ps_if (pt_cmpR op_lt (pe_ix ix_list (pv 0) pe_int (fun _ _ => rfl)) (pe_callB call_len_seq (by rfl) T.m_len (by decide +kernel) (pa_cons (pe_ix ix_list (pv 0) pe_int (fun _ _ => rfl)) pa_nil)) (nomark _))
        (pss_one (ps_set (i := 2) sc_law_take.nd rfl (Or.inl rfl) (pe_ix ix_list (pe_ix ix_list (pv 0) pe_int (fun _ _ => rfl)) (pe_ix ix_list (pv 0) pe_int (fun _ _ => rfl)) (fun _ _ => rfl))))
        pss_nil)
      (pss_cons (ps_asg (pe_op op_add (pe_ix ix_list (pv 0) pe_int (fun _ _ => rfl)) pe_int) (pg_sub (pv 0) pe_int set_list))
      (pss_cons (ps_asg (pe_op op_mod (pe_callTy call_int1 (by rfl) T.m_int (by decide +kernel) (pa_cons (pe_op op_add (pe_op op_add (pe_op op_mul (pe_ix ix_list (pv 0) pe_int (fun _ _ => rfl)) pe_int) pe_int) (pe_ix ix_list (pv 0) pe_int (fun _ _ => rfl))) pa_nil)) pe_int) (pg_sub (pv 0) pe_int set_list))
      (Evl.pss_cut (ps_if (pt_cmpR op_lt (pv 2) pe_int (nomark _))
        (pss_one (ps_set (i := 2) sc_law_take.nd rfl (Or.inl rfl) (pe_un un_neg (pv 2))))
        pss_nil)
      (Evl.pss_cut (ps_if (pt_cmpR op_lt (pv 2) (pe_op op_pow pe_int pe_int) (nomark _))
        (pss_cons (ps_set (i := 2) sc_law_take.nd rfl (Or.inl rfl) (pe_op op_mod (pe_callTy call_int1 (by rfl) T.m_int (by decide +kernel) (pa_cons (pe_op op_add (pe_op op_add (pe_op op_mul (pe_op op_add (pv 2) (pe_ix ix_list (pv 0) pe_int (fun _ _ => rfl))) pe_int) (pe_op op_mul (pe_ix ix_list (pv 0) pe_int (fun _ _ => rfl)) pe_int)) pe_int) pa_nil)) pe_int))
        (pss_one (ps_set (i := 2) sc_law_take.nd rfl (Or.inl rfl) (pe_op op_add (pe_op op_mod (pe_callTy call_int1 (by rfl) T.m_int (by decide +kernel) (pa_cons (pe_op op_add (pe_op op_mul (pv 2) pe_int) (pe_op op_mul pe_int (pe_ix ix_list (pv 0) pe_int (fun _ _ => rfl)))) pa_nil)) pe_int) pe_int))))
        pss_nil)
      (pss_one (ps_asg (pv 2) (pg_sub (pv 0) pe_int set_list)))))))))
      pss_nil)
    (pss_cons (ps_set (i := 3) sc_law_take.nd rfl (Or.inl rfl) (pe_op op_mod (pe_callTy call_int1 (by rfl) T.m_int (by decide +kernel) (pa_cons (pe_ix ix_list (pv 0) pe_int (fun _ _ => rfl)) pa_nil)) (pv 1)))
    (pss_cons (ps_asg (pe_op op_fdivW (pe_ix ix_list (pv 0) pe_int (fun _ _ => rfl)) (pv 1)) (pg_sub (pv 0) pe_int set_list))
    (pss_one (ps_ret (pv 3)))))), ?_⟩
    -- behind the if: the bag, whatever is in it
    refine ⟨fun σ' H1 => ∃ (o : Option V) (i1 v1 s1 : Int), σ' = [some (.ref b), some (.int many), o, none] ∧ Fr [b] H H1 ∧ BagAt H1 b c ns i1 v1 s1, ?_, ?_⟩
    · refine ⟨_, rfl, _, _, _, _, rfl, rfl, SqL.of hb, rfl, _, rfl, _, _, rfl, rfl, _, rfl, dec_iff (fun hlt => ?_) fun hge => ⟨_, _, _, _, rfl, Fr.refl _ _, hB⟩⟩
      -- cell = bag[3]; if bag[1] < len(bag[0]): cell = bag[0][bag[1]]
      refine ⟨_, rfl, _, _, _, _, rfl, rfl, SqL.of hb, rfl, ?_⟩
      refine ⟨fun σ' H1 => H1 = H ∧ ∃ cell : Int, σ' = [some (.ref b), some (.int many), some (.int cell), none], ?_, ?_⟩
      · refine ⟨_, rfl, _, _, _, _, rfl, rfl, SqL.of hb, rfl, _, rfl, _, _, _, _, rfl, rfl, SqL.of hb, rfl, _, _, rfl, .inl (SqL.of hc), _, _, rfl, rfl, _, rfl, dec_iff (fun hin => ?_) fun hout => ⟨rfl, _, rfl⟩⟩
        have hlt2 : i.toNat < ns.length := by
          rw [List.length_map] at hin
          omega
        exact ⟨_, rfl, _, _, _, _, rfl, rfl, SqL.of hb, rfl, _, rfl, _, _, _, _, rfl, rfl, SqL.of hb, rfl, _, _, _, _, rfl, rfl, SqL.of hc, at_int hi (by rw [List.getElem?_map, List.getElem?_eq_getElem hlt2]; rfl), rfl, _, rfl⟩
      rintro σ' H1 ⟨rfl, cell, rfl⟩
      -- bag[1] = bag[1] + 1; bag[3] = int(..) % ..
      refine ⟨_, rfl, _, _, _, _, rfl, rfl, SqL.of hb, rfl, _, _, rfl, rfl, _, rfl, _, _, _, _, rfl, rfl, hb, rfl, ?_⟩
      refine ⟨_, rfl, _, _, _, _, rfl, rfl, SqL.of upd_same, rfl, _, _, rfl, rfl, .inr (by decide), _, _, rfl, rfl, _, rfl, _, _, _, _, rfl, rfl, SqL.of upd_same, rfl, _, _, rfl, rfl, .inl ⟨_, rfl, _, _, rfl, rfl, m31, ?_⟩⟩
      refine ⟨_, rfl, _, _, _, _, rfl, rfl, upd_same, rfl, ?_⟩
      rw [upd_upd]
      show Evl.tCut _ _ _ _ (upd H1 b (.lst [.ref c, .int (i + 1), .int v, .int ((sd * 69621 + 12345 + (i + 1)) % 2147483647)]))
      have B2 : ∀ z : Int, 0 ≤ z → BagAt (upd H1 b (.lst [.ref c, .int (i + 1), .int v, .int z])) b c ns (i + 1) v z := fun z hz => hB.put (by omega) hv hz
      have hz0 : 0 ≤ (sd * 69621 + 12345 + (i + 1)) % 2147483647 := Int.emod_nonneg _ (by decide)
      have B3 := B2 _ hz0
      have h3 := B3.1
      have e3 : Fr [b] H1 (upd H1 b (.lst [.ref c, .int (i + 1), .int v, .int ((sd * 69621 + 12345 + (i + 1)) % 2147483647)])) := (Fr.refl _ _).put (.inl (by simp))
      revert B3 h3 e3
      generalize upd H1 b (.lst [.ref c, .int (i + 1), .int v, .int ((sd * 69621 + 12345 + (i + 1)) % 2147483647)]) = H2
      intro B3 h3 e3
      -- if cell < 0: cell = -cell
      refine ⟨fun σ' H' => H' = H2 ∧ ∃ cell : Int, 0 ≤ cell ∧ σ' = [some (.ref b), some (.int many), some (.int cell), none], ?_, ?_⟩
      · refine ⟨_, rfl, _, _, rfl, rfl, _, rfl, dec_iff (fun hneg => ?_) fun hpos => ⟨rfl, cell, by omega, rfl⟩⟩
        exact ⟨_, rfl, _, rfl, rfl, -cell, by omega, rfl⟩
      rintro σ' H' ⟨rfl, cell, hcell, rfl⟩
      -- if cell < 10 ** 18: cell = ..
      refine ⟨fun σ' H2 => H2 = H' ∧ ∃ cell : Int, 0 ≤ cell ∧ σ' = [some (.ref b), some (.int many), some (.int cell), none], ?_, ?_⟩
      · refine ⟨_, rfl, _, _, rfl, rfl, ⟨by decide, by decide, by decide⟩, _, _, rfl, rfl, _, rfl, dec_iff (fun hlow => ?_) fun hhigh => ⟨rfl, cell, hcell, rfl⟩⟩
        refine ⟨_, rfl, _, rfl, _, _, _, _, rfl, rfl, SqL.of h3, rfl, _, _, rfl, rfl, _, _, rfl, rfl, .inr (by decide), _, rfl, _, _, _, _, rfl, rfl, SqL.of h3, rfl, _, _, rfl, rfl, .inr (by decide), _, _, rfl, rfl, _, _, rfl, rfl, .inl ⟨_, rfl, _, _, rfl, rfl, m31, ?_⟩⟩
        refine ⟨_, rfl, _, _, rfl, rfl, .inr (by decide), _, rfl, _, _, _, _, rfl, rfl, SqL.of h3, rfl, _, _, rfl, rfl, .inl (by decide), _, _, rfl, rfl, .inl ⟨_, rfl, _, _, rfl, rfl, m31, _, _, rfl, rfl, ?_⟩⟩
        refine ⟨rfl, _, ?_, rfl⟩
        have := Int.emod_nonneg (((cell + (i + 1)) * 48271 + (i + 1) * 40692 + 3) % 2147483647 * 69621 + 7919 * (i + 1)) (b := 2147483647) (by decide)
        omega
      rintro σ' H2 ⟨rfl, cell, hcell, rfl⟩
      -- bag[2] = cell
      refine ⟨_, rfl, _, rfl, _, _, _, _, rfl, rfl, h3, rfl, ?_⟩
      exact ⟨_, _, _, _, rfl, e3.put (.inl (by simp)), B3.put B3.2.2.1 hcell B3.2.2.2.2⟩
    rintro σ' H1 ⟨o, i1, v1, s1, rfl, e1, B1⟩
    have h1 := B1.1
    refine ⟨_, rfl, _, _, _, _, rfl, rfl, SqL.of h1, rfl, .inl ⟨_, rfl, _, rfl, _, _, rfl, rfl, hm, ?_⟩⟩
    refine ⟨_, rfl, _, _, _, _, rfl, rfl, SqL.of h1, rfl, _, rfl, _, _, rfl, rfl, ⟨hm, hlog⟩, ?_⟩
    refine ⟨_, rfl, _, _, _, _, rfl, rfl, h1, rfl, _, rfl, ?_⟩
    refine k _ _ (Int.emod_nonneg _ (by omega)) (Int.emod_lt_of_pos _ hm) (e1.put (.inl (by simp))) ⟨ns, i1, v1 / many, s1, ?_⟩
    exact B1.put B1.2.2.1 (Int.ediv_nonneg B1.2.2.2.1 (by omega)) B1.2.2.2.2
end
section
variable {P : Program} {w : World} {K : PySem.W.Frag} {mg : Str → Option Value} {base : Heap}
theorem ok_law_bag {f : Addr} {fd : FuncData} (F : Fun K "_law_bag" "_law_bag" s_law_bag f fd) (T : Blt mg) : FnOk P w K mg base CX0 1 f fd ["script"] (spBag K) := by
  refine F.ok sc_law_bag (fun vs H Q E h => ?_) (fun cdv A outer s H vs Q E hr h => ?_)
  · obtain ⟨a, ns, rfl, _⟩ := h
    rfl
  · obtain ⟨a, ns, rfl, hS, hlen, k⟩ := h
    refine ⟨_, (pss_cons (ps_set (i := 1) sc_law_bag.nd rfl (Or.inl rfl) pe_int)
    (pss_cons (ps_for PassesOwn.never rfl (pi_list (pv 0)) (pg_name (i := 2) sc_law_bag.nd rfl (Or.inl rfl))
      (pss_one (ps_set (i := 1) sc_law_bag.nd rfl (Or.inl rfl) (pe_op op_mod (pe_callTy call_int1 (by rfl) T.m_int (by decide +kernel) (pa_cons (pe_op op_add (pe_op op_add (pe_op op_mul (pv 1) pe_int) (pe_op op_mod (pe_callTy call_int1 (by rfl) T.m_int (by decide +kernel) (pa_cons (pv 2) pa_nil)) pe_int)) pe_int) pa_nil)) pe_int))))
    (pss_one (ps_ret (pe_lst (pa_cons (pe_lc (own := [("cell", 2)]) rfl sc_law_bag.nd (pi_list (pv 0)) (blkOk_by (own := [("cell", 2)]) (N := n_law_bag) (sc := defScope s_law_bag) (by decide +kernel)) (fun _ _ _ _ _ => (pg_name (i := 2) sc_law_bag.nd rfl (Or.inl rfl))) (fun _ _ _ _ _ => pts_nil) (fun _ _ _ _ _ => (pe_callTy call_int1 (by rfl) T.m_int (by decide +kernel) (pa_cons (pv 2) pa_nil)))) (pa_cons pe_int (pa_cons pe_int (pa_cons (pv 1) pa_nil))))))))), ?_⟩
    refine ⟨_, rfl, a, rfl, ⟨_, hS⟩, for_list (K := K) (a := a) (xs := ns.map V.int) (fun i σ H' => H' = H ∧ ∃ (seed : Int) (o : Option V), 0 ≤ seed ∧ σ = [some (.ref a), some (.int seed), o])
      ⟨rfl, 7, none, by decide, rfl⟩ (fun i σ H' _ ⟨e, _⟩ => by rw [e]; exact hS) ?_ ?_⟩
    · rintro i y σ H' hi ⟨rfl, seed, o, hs, rfl⟩
      obtain ⟨z, hz, rfl⟩ := get_map_int hi
      refine ⟨_, rfl, _, _, rfl, rfl, .inr (by decide), _, rfl, .inl ⟨_, rfl, _, _, rfl, rfl, by show (0 : Int) < 1000003; decide, _, _, rfl, rfl, _, _, rfl, rfl, .inl ⟨_, rfl, _, _, rfl, rfl, m31, ?_⟩⟩⟩
      exact ⟨rfl, _, _, Int.emod_nonneg _ (by decide), rfl⟩
    · rintro σ H' ⟨rfl, seed, o, hs, rfl⟩
      refine ⟨_, rfl, a, rfl, ⟨_, hS⟩, fun D hD => lc_list (K := K) (a := a) (xs := ns.map V.int) (fun i H2 => H2 = upd H' D (.lst ((ns.take i).map V.int))) rfl
        (fun i H2 _ e => by rw [e]; exact ((Fr.refl [] H').new hD).l hS) ?_ ?_⟩
      · rintro i y H2 hi rfl
        obtain ⟨z, hz, rfl⟩ := get_map_int hi
        refine ⟨rfl, _, rfl, .inl ⟨_, rfl, _, upd_same, ?_, ?_⟩⟩
        · rw [List.length_map, List.length_take]
          exact Nat.lt_of_le_of_lt (Nat.le_trans (Nat.min_le_right _ _) hlen) (by decide)
        · rw [upd_upd, take_succ hz, List.map_append]
          rfl
      · rintro H2 rfl
        rw [List.length_map, List.take_length]
        refine ⟨_, rfl, by show 4 ≤ sizeLine; decide, fun l hl => ?_⟩
        have hlD : D ≠ l := ne_of_none upd_same hl
        refine k l D _ ?_ hD (((Fr.refl [] H').new hD).new hl) ⟨ns, 0, 0, seed, upd_same, by rw [upd_ne hlD]; exact upd_same, by decide, by decide, hs⟩
        exact ((Fr.refl [] H').new hD).free hl
end
/-! _law_spare(count, arcs, amounts): slots 0 count 1 arcs 2 amounts 3 k 4 spare -/
abbrev s_law_spare : Stmt := top 16
abbrev n_law_spare : List Str := ["count", "arcs", "amounts", "k", "spare"]
theorem sc_law_spare : FnScope n_law_spare ["count", "arcs", "amounts"] (defScope s_law_spare) := ⟨rfl, rfl, rfl, by decide +kernel, rfl, by decide +kernel, by decide +kernel⟩
/-! _law_round(count, arcs, one, two): slots 0 count 1 arcs 2 one 3 two 4 k 5 changed 6 touched 7 many 8 reached 9 turn 10 near -/
abbrev s_law_round : Stmt := top 17
abbrev n_law_round : List Str := ["count", "arcs", "one", "two", "k", "changed", "touched", "many", "reached", "turn", "near"]
theorem sc_law_round : FnScope n_law_round ["count", "arcs", "one", "two"] (defScope s_law_round) := ⟨rfl, rfl, rfl, by decide +kernel, rfl, by decide +kernel, by decide +kernel⟩
/-! _law_nearer(one, two, goal): slots 0 one 1 two 2 goal 3 settled 4 k -/
abbrev s_law_nearer : Stmt := top 18
abbrev n_law_nearer : List Str := ["one", "two", "goal", "settled", "k"]
theorem sc_law_nearer : FnScope n_law_nearer ["one", "two", "goal"] (defScope s_law_nearer) := ⟨rfl, rfl, rfl, by decide +kernel, rfl, by decide +kernel, by decide +kernel⟩
/-! _law_same(left, right): slots 0 left 1 right -/
abbrev s_law_same : Stmt := top 20
abbrev n_law_same : List Str := ["left", "right"]
theorem sc_law_same : FnScope n_law_same ["left", "right"] (defScope s_law_same) := ⟨rfl, rfl, rfl, by decide +kernel, rfl, by decide +kernel, by decide +kernel⟩
/-! _law_leads(count, arcs, first, second, told): slots 0 count 1 arcs 2 first 3 second 4 told 5 k 6 differ 7 row 8 part -/
abbrev s_law_leads : Stmt := top 19
abbrev n_law_leads : List Str := ["count", "arcs", "first", "second", "told", "k", "differ", "row", "part"]
theorem sc_law_leads : FnScope n_law_leads ["count", "arcs", "first", "second", "told"] (defScope s_law_leads) := ⟨rfl, rfl, rfl, by decide +kernel, rfl, by decide +kernel, by decide +kernel⟩
def spLawRound (K : PySem.W.Frag) : Sp := fun vs H Q _ => ∃ (n : Nat) (a p1 p2 : Addr) (arcs : List Cir.Arc) (goal one two : List Int) (found : List (Nat × Int)) (s : Int), vs = [.int (n : Int), .ref a, .ref p1, .ref p2] ∧ ArcsAt K H a arcs ∧ SqL K H p1 (one.map V.int) ∧ SqL K H p2 (two.map V.int) ∧
  n ≤ 10000 ∧ arcs.length ≤ 10000 ∧ (∀ k, k < arcs.length → Cir.Good n (Cir.arcOf arcs k)) ∧ Cir.Turn arcs goal one two found s ∧ ∀ H', Fr [] H H' → Q (.bl true) H'
def spLawNearer (K : PySem.W.Frag) : Sp := fun vs H Q _ => ∃ (p1 p2 p3 : Addr) (arcs : List Cir.Arc) (goal one two : List Int) (found : List (Nat × Int)) (s : Int), vs = [.ref p1, .ref p2, .ref p3] ∧ SqL K H p1 (one.map V.int) ∧ SqL K H p2 (two.map V.int) ∧ SqL K H p3 (goal.map V.int) ∧
  arcs.length ≤ 10000 ∧ goal.length = arcs.length ∧ Cir.Turn arcs goal one two found s ∧ Q (.bl true) H
def spLawLeads (K : PySem.W.Frag) : Sp := fun vs H Q _ => ∃ (n : Nat) (a p1 p2 pt : Addr) (arcs : List Cir.Arc) (xs ys : List Int) (B : Int) (rows : List (List Int)), vs = [.int (n : Int), .ref a, .ref p1, .ref p2, .ref pt] ∧ ArcsAt K H a arcs ∧ SqL K H p1 (xs.map V.int) ∧ SqL K H p2 (ys.map V.int) ∧
  RowsN (fun _ => True) H pt rows ∧ n ≤ 10000 ∧ arcs.length ≤ 10000 ∧ arcs.length = xs.length ∧ arcs.length = ys.length ∧ (∀ k, k < arcs.length → Cir.Good n (Cir.arcOf arcs k)) ∧ Cir.Leads arcs xs ys B rows ∧ ∀ H', Fr [] H H' → Q (.bl true) H'
section
variable {P : Program} {w : World} {K : PySem.W.Frag} {mg : Str → Option Value} {base : Heap} {CA CU : Addr}
theorem ok_law_same {f : Addr} {fd : FuncData} (F : Fun K "_law_same" "_law_same" s_law_same f fd) (T : Blt mg) : FnG P w K mg base CX0 1 f fd ["left", "right"] (spSameX K) := by
  refine F.okG sc_law_same (fun vs H Q E h => ?_) (fun cdv A outer s H vs Q E hr hgu h => ?_)
  · obtain ⟨x, y, d, rfl, _⟩ := h
    rfl
  · obtain ⟨x, y, d, rfl, h1, h2, h3, h4, h5, k⟩ := h
    have hu66 : (A.deeper (envOfC "_law_same" (defScope s_law_same) s.heap.objs.size f cdv)).units + 66 < cLine := by have := hr.un; omega
    refine ⟨_, (pss_one (ps_ret (pe_cmpR op_eq (pe_callB (cr_reprX hgu hu66) (by rfl) T.m_repr (by decide +kernel) (pa_cons (pv 0) pa_nil)) (pe_callB (cr_reprX hgu hu66) (by rfl) T.m_repr (by decide +kernel) (pa_cons (pv 1) pa_nil)) (nomark _)))), ?_⟩
    refine ⟨_, rfl, x, d, rfl, h1, h3, h4, h5, _, rfl, y, d, rfl, h2, h3, h4, h5, rfl, ?_⟩
    rw [decide_eq_true rfl]
    exact k
theorem ok_law_spare {f : Addr} {fd : FuncData} (F : Fun K "_law_spare" "_law_spare" s_law_spare f fd) (T : Txt P K mg CA CU) : FnOk P w K mg base CX0 1 f fd ["count", "arcs", "amounts"] (spSpare K) := by
  refine F.ok sc_law_spare (fun vs H Q E h => ?_) (fun cdv A outer s H vs Q E hr h => ?_)
  · obtain ⟨n, a, am, arcs, xs, rfl, _⟩ := h
    rfl
  · obtain ⟨n, a, am, arcs, xs, rfl, hA, hX, hlx, hl, hn, hgood, k⟩ := h
    refine ⟨_, (pss_cons (ps_setLc (i := 4) (own := [("k", 3)]) rfl sc_law_spare.nd rfl rfl (sw_true rfl rfl rfl (by decide +kernel)) (pi_range1 (by rfl) T.m_range (pa_cons (pv 0) pa_nil)) (blkOk_by (own := [("k", 3)]) (N := n_law_spare) (sc := defScope s_law_spare) (by decide +kernel)) (fun _ _ _ _ _ => (pg_name (i := 3) sc_law_spare.nd rfl (Or.inl rfl))) (fun _ _ _ _ _ => pts_nil) (fun _ _ _ _ _ => pe_int))
    (pss_cons (ps_for PassesOwn.never rfl (pi_range1 (by rfl) T.m_range (pa_cons (pe_callB call_len_seq (by rfl) T.m_len (by decide +kernel) (pa_cons (pv 2) pa_nil)) pa_nil)) (pg_name (i := 3) sc_law_spare.nd rfl (Or.inl rfl))
      (pss_cons (ps_asg (pe_op op_sub (pe_ix ix_list (pv 4) (pe_ix ix_tup (pe_ix ix_list (pv 1) (pv 3) (fun _ _ => rfl)) pe_int (fun _ _ => rfl)) (fun _ _ => rfl)) (pe_ix ix_list (pv 2) (pv 3) (fun _ _ => rfl))) (pg_sub (pv 4) (pe_ix ix_tup (pe_ix ix_list (pv 1) (pv 3) (fun _ _ => rfl)) pe_int (fun _ _ => rfl)) set_list))
      (pss_one (ps_asg (pe_op op_add (pe_ix ix_list (pv 4) (pe_ix ix_tup (pe_ix ix_list (pv 1) (pv 3) (fun _ _ => rfl)) pe_int (fun _ _ => rfl)) (fun _ _ => rfl)) (pe_ix ix_list (pv 2) (pv 3) (fun _ _ => rfl))) (pg_sub (pv 4) (pe_ix ix_tup (pe_ix ix_list (pv 1) (pv 3) (fun _ _ => rfl)) pe_int (fun _ _ => rfl)) set_list)))))
    (pss_one (ps_ret (pv 4))))), ?_⟩
    obtain ⟨ts, hL, hts, hT⟩ := hA.at
    refine ⟨_, rfl, _, rfl, (rg_ok (by omega)).1, (rg_ok (by omega)).2, fun p hp => lc_rng (n := n) (fun i H2 => H2 = upd H p (.lst (List.replicate i (V.int 0)))) rfl ?_ ?_⟩
    · rintro i H2 hi rfl
      refine ⟨rfl, _, upd_same, ?_, ?_⟩
      · rw [List.length_replicate]
        exact len_lt (by omega)
      · rw [upd_upd, List.replicate_succ']
    rintro H2 rfl
    have np : H p = none := hp
    have e0 : (List.replicate n (V.int 0)) = (Cir.spareL n [] []).map V.int := by
      rw [Cir.spareL_zero, List.map_replicate]
    rw [e0]
    refine ⟨_, rfl, _, _, rfl, .inl ?_, _, rfl, (rg_ok (by simp; omega)).1, (rg_ok (by simp; omega)).2, for_rng (n := (xs.map V.int).length)
      (fun i σ H' => Fr [] H H' ∧ H' p = some (.lst ((Cir.spareL n (arcs.take i) (xs.take i)).map V.int)) ∧ ∃ o : Option V, σ = [some (.int (n : Int)), some (.ref a), some (.ref am), o, some (.ref p)])
      ⟨(Fr.refl [] H).new hp, upd_same, _, rfl⟩ ?_ ?_⟩
    · exact ((Fr.refl [] H).new hp).l hX
    · rintro i σ H' hi ⟨e, h1, o, rfl⟩
      rw [List.length_map, ← hlx] at hi
      obtain ⟨t, e1, e2⟩ := hT i hi
      have g := hgood i hi
      have len1 : (arcs.take i).length = (xs.take i).length := by rw [List.length_take, List.length_take, hlx]
      have i1 : (Cir.arcOf arcs i).1.toNat < (Cir.spareL n (arcs.take i) (xs.take i)).length := by rw [Cir.spareL_len]; have := g.1; omega
      have i2 : (Cir.arcOf arcs i).2.toNat < (Cir.spareL n (arcs.take i) (xs.take i)).length := by rw [Cir.spareL_len]; have := g.2.1; omega
      refine ⟨_, rfl, _, rfl, _, rfl, _, _, _, _, rfl, rfl, e.l hL, e1, _, _, _, _, rfl, rfl, e.t e2, rfl, ?_⟩
      refine ⟨_, _, _, _, rfl, rfl, SqL.of h1, at_int g.1.1 (by rw [List.getElem?_map, Cir.spareL_get g.1.1 g.1.2]; rfl), ?_⟩
      refine ⟨_, rfl, _, rfl, _, _, _, _, rfl, rfl, e.l hX, at_part (by omega), _, _, rfl, rfl, ?_⟩
      refine ⟨_, rfl, _, rfl, _, rfl, _, _, _, _, rfl, rfl, e.l hL, e1, _, _, _, _, rfl, rfl, e.t e2, rfl, ?_⟩
      refine ⟨_, _, _, _, rfl, rfl, h1, ix_int g.1.1 (by rw [List.length_map, Cir.spareL_len]; exact g.1.2), ?_⟩
      have e' : Fr [] H (upd H' p (.lst (((Cir.spareL n (arcs.take i) (xs.take i)).map V.int).set (Cir.arcOf arcs i).1.toNat (.int (Cir.net (arcs.take i) (xs.take i) (Cir.arcOf arcs i).1 - Cir.part xs i))))) := e.put (.inr np)
      refine ⟨_, rfl, _, rfl, _, rfl, _, _, _, _, rfl, rfl, e'.l hL, e1, _, _, _, _, rfl, rfl, e'.t e2, rfl, ?_⟩
      refine ⟨_, _, _, _, rfl, rfl, SqL.of upd_same, at_int (v := V.int (Cir.net (arcs.take i) (xs.take i) (Cir.arcOf arcs i).2)) g.2.1.1 ?_, ?_⟩
      · rw [List.getElem?_set_ne (by have := g.1; have := g.2.1; have := g.2.2; omega), List.getElem?_map, Cir.spareL_get g.2.1.1 g.2.1.2]
        rfl
      refine ⟨_, rfl, _, rfl, _, _, _, _, rfl, rfl, e'.l hX, at_part (by omega), _, _, rfl, rfl, ?_⟩
      refine ⟨_, rfl, _, rfl, _, rfl, _, _, _, _, rfl, rfl, e'.l hL, e1, _, _, _, _, rfl, rfl, e'.t e2, rfl, ?_⟩
      refine ⟨_, _, _, _, rfl, rfl, upd_same, ix_int g.2.1.1 (by rw [List.length_set, List.length_map, Cir.spareL_len]; exact g.2.1.2), ?_⟩
      refine ⟨e'.put (.inr np), ?_, _, rfl⟩
      rw [upd_same]
      have st := Cir.spare_step (n := n) (x := Cir.part xs i) len1 g
      rw [take_succ (Cir.get_arc hi), take_succ (Cir.get_part (by omega)), ← st, List.map_set, List.map_set]
    · rintro σ H' ⟨e, h1, o, rfl⟩
      rw [List.length_map, List.take_length, ← hlx, List.take_length] at h1
      exact ⟨_, rfl, k p H' np e h1⟩
theorem ok_law_round {f : Addr} {fd : FuncData} (F : Fun K "_law_round" "_law_round" s_law_round f fd) (T : Txt P K mg CA CU) : FnOk P w K mg base CX0 1 f fd ["count", "arcs", "one", "two"] (spLawRound K) := by
  refine F.ok sc_law_round (fun vs H Q E h => ?_) (fun cdv A outer s H vs Q E hr h => ?_)
  · obtain ⟨n, a, p1, p2, arcs, goal, one, two, found, s', rfl, _⟩ := h
    rfl
  · obtain ⟨n, a, p1, p2, arcs, goal, one, two, found, s', rfl, hA, h1, h2, hn, hl, hgood, TT, k⟩ := h
    refine ⟨_, (pss_cons (ps_set (i := 5) sc_law_round.nd rfl (Or.inr rfl) (pe_lc (own := [("k", 4)]) rfl sc_law_round.nd (pi_range1 (by rfl) T.m_range (pa_cons (pe_callB call_len_seq (by rfl) T.m_len (by decide +kernel) (pa_cons (pv 1) pa_nil)) pa_nil)) (blkOk_by (own := [("k", 4)]) (N := n_law_round) (sc := defScope s_law_round) (by decide +kernel)) (fun _ _ _ _ _ => (pg_name (i := 4) sc_law_round.nd rfl (Or.inl rfl))) (fun _ _ _ _ _ => pts_one (pt_cmpR op_ne (pe_ix (r := rIxL K) ix_list (pv 2) (pv 4) (fun _ _ => rfl)) (pe_ix (r := rIxL K) ix_list (pv 3) (pv 4) (fun _ _ => rfl)) (nomark _))) (fun _ _ _ _ _ => (pv 4))))
    (pss_cons (ps_setLc (i := 6) (own := [("k", 4)]) rfl sc_law_round.nd rfl rfl (sw_true rfl rfl rfl (by decide +kernel)) (pi_range1 (by rfl) T.m_range (pa_cons (pv 0) pa_nil)) (blkOk_by (own := [("k", 4)]) (N := n_law_round) (sc := defScope s_law_round) (by decide +kernel)) (fun _ _ _ _ _ => (pg_name (i := 4) sc_law_round.nd rfl (Or.inl rfl))) (fun _ _ _ _ _ => pts_nil) (fun _ _ _ _ _ => pe_int))
    (pss_cons (ps_for PassesOwn.never rfl (pi_list (pv 5)) (pg_name (i := 4) sc_law_round.nd rfl (Or.inl rfl))
      (pss_cons (ps_if (pt_cmpR op_ne (pe_callB call_abs (by rfl) T.m_abs (by decide +kernel) (pa_cons (pe_op op_sub (pe_ix ix_list (pv 3) (pv 4) (fun _ _ => rfl)) (pe_ix ix_list (pv 2) (pv 4) (fun _ _ => rfl))) pa_nil)) (pe_callB call_abs (by rfl) T.m_abs (by decide +kernel) (pa_cons (pe_op op_sub (pe_ix ix_list (pv 3) (pe_ix ix_list (pv 5) pe_int (fun _ _ => rfl)) (fun _ _ => rfl)) (pe_ix ix_list (pv 2) (pe_ix ix_list (pv 5) pe_int (fun _ _ => rfl)) (fun _ _ => rfl))) pa_nil)) (nomark _))
        (pss_one (ps_ret pe_bl))
        pss_nil)
      (pss_cons (ps_asg (pe_op op_add (pe_ix ix_list (pv 6) (pe_ix ix_tup (pe_ix ix_list (pv 1) (pv 4) (fun _ _ => rfl)) pe_int (fun _ _ => rfl)) (fun _ _ => rfl)) pe_int) (pg_sub (pv 6) (pe_ix ix_tup (pe_ix ix_list (pv 1) (pv 4) (fun _ _ => rfl)) pe_int (fun _ _ => rfl)) set_list))
      (pss_one (ps_asg (pe_op op_add (pe_ix ix_list (pv 6) (pe_ix ix_tup (pe_ix ix_list (pv 1) (pv 4) (fun _ _ => rfl)) pe_int (fun _ _ => rfl)) (fun _ _ => rfl)) pe_int) (pg_sub (pv 6) (pe_ix ix_tup (pe_ix ix_list (pv 1) (pv 4) (fun _ _ => rfl)) pe_int (fun _ _ => rfl)) set_list))))))
    (pss_cons (ps_for PassesOwn.never rfl (pi_list (pv 6)) (pg_name (i := 7) sc_law_round.nd rfl (Or.inl rfl))
      (pss_one (ps_if (PW.pt (pw_and (pt_cmpR op_ne (pv 7) pe_int (nomark _)) (pw_and1 (pt_cmpR op_ne (pv 7) pe_int (nomark _)))))
        (pss_one (ps_ret pe_bl))
        pss_nil)))
    (pss_cons (ps_setLc (i := 8) (own := [("k", 4)]) rfl sc_law_round.nd rfl rfl (sw_true rfl rfl rfl (by decide +kernel)) (pi_list (pv 5)) (blkOk_by (own := [("k", 4)]) (N := n_law_round) (sc := defScope s_law_round) (by decide +kernel)) (fun _ _ _ _ _ => (pg_name (i := 4) sc_law_round.nd rfl (Or.inl rfl))) (fun _ _ _ _ _ => pts_one (pt_cmpR op_eq (pv 4) (pe_ix (r := rIxL K) ix_list (pv 5) pe_int (fun _ _ => rfl)) (nomark _))) (fun _ _ _ _ _ => (pv 4)))
    (pss_cons (ps_for PassesOwn.never rfl (pi_range1 (by rfl) T.m_range (pa_cons (pe_callB call_len_seq (by rfl) T.m_len (by decide +kernel) (pa_cons (pv 5) pa_nil)) pa_nil)) (pg_name (i := 9) sc_law_round.nd rfl (Or.inl rfl))
      (pss_cons (ps_if (pt_cmpR op_ge (pv 9) (pe_callB call_len_seq (by rfl) T.m_len (by decide +kernel) (pa_cons (pv 8) pa_nil)) (nomark _))
        (pss_one (ps_ret pe_bl))
        pss_nil)
      (pss_cons (ps_set (i := 10) sc_law_round.nd rfl (Or.inl rfl) (pe_ix ix_list (pv 1) (pe_ix ix_list (pv 8) (pv 9) (fun _ _ => rfl)) (fun _ _ => rfl)))
      (pss_one (ps_for PassesOwn.never rfl (pi_list (pv 5)) (pg_name (i := 4) sc_law_round.nd rfl (Or.inl rfl))
        (pss_one (ps_if (PW.pt (pw_and (pt_cmpR op_notIn_seq (pv 4) (pv 8) rfl) (pw_and1 (PW.pt (pw_or (pt_cmpR op_in_seq (pe_ix ix_tup (pe_ix ix_list (pv 1) (pv 4) (fun _ _ => rfl)) pe_int (fun _ _ => rfl)) (pv 10) rfl) (pw_or1 (pt_cmpR op_in_seq (pe_ix ix_tup (pe_ix ix_list (pv 1) (pv 4) (fun _ _ => rfl)) pe_int (fun _ _ => rfl)) (pv 10) rfl)))))))
          (pss_one (ps_expr (pe_bm PySem.F.plainAttrs_list PySem.F.slot_list_append PySem.F.type_list_append mt_append (pv 8) (pa_cons (pv 4) pa_nil))))
          pss_nil)))))))
    (pss_one (ps_ret (pe_cmpR op_gt (pe_callB call_len_seq (by rfl) T.m_len (by decide +kernel) (pa_cons (pv 5) pa_nil)) pe_int (nomark _)))))))))), ?_⟩
    obtain ⟨ts, hL, hts, hT⟩ := hA.at
    have hlm : (ts.map V.ref).length = arcs.length := by rw [List.length_map, hts]
    -- changed
    refine ⟨_, rfl, _, _, rfl, .inl hL, _, rfl, (rg_ok (by omega)).1, (rg_ok (by omega)).2, fun pc hpc => lc_rng (n := (ts.map V.ref).length) (fun i H2 => H2 = upd H pc (.lst ((Cir.changedL arcs one two i).map vN))) rfl ?_ ?_⟩
    · rintro i H2 hi rfl
      rw [hlm] at hi
      have e := (Fr.refl [] H).new (o := .lst ((Cir.changedL arcs one two i).map vN)) hpc
      have cl : (Cir.changedL arcs one two i).length ≤ i := by
        unfold Cir.changedL
        exact Nat.le_trans (List.length_filter_le _ _) (by simp)
      refine ⟨rfl, _, rfl, _, rfl, _, _, _, _, rfl, rfl, e.l h1, at_part (by rw [TT.len]; exact hi), _, rfl, _, rfl, _, _, _, _, rfl, rfl, e.l h2, at_part (by rw [TT.len2]; exact hi), rfl, _, rfl, ne_if (fun c => ?_) fun c => ?_⟩
      · refine ⟨_, rfl, _, upd_same, len_lt (by rw [List.length_map]; omega), ?_⟩
        rw [upd_upd, Cir.changedL_succ, if_pos c, List.map_append]
        rfl
      · rw [Cir.changedL_succ, if_neg (by simpa using c), List.append_nil]
    rintro H1 rfl
    rw [hlm]
    have e1 := (Fr.refl [] H).new (o := .lst ((Cir.changedL arcs one two arcs.length).map vN)) hpc
    have hc1 : (upd H pc (.lst ((Cir.changedL arcs one two arcs.length).map vN))) pc = some (.lst ((Cir.changedL arcs one two arcs.length).map vN)) := upd_same
    generalize upd H pc (.lst ((Cir.changedL arcs one two arcs.length).map vN)) = H1 at e1 hc1 ⊢
    have two_ends := TT.two_ends
    have size := fun k h => TT.size (k := k) h
    have all := fun R k0 h0 => TT.all (R := R) (k0 := k0) h0
    have mem : ∀ k, k ∈ Cir.changedL arcs one two arcs.length → k < arcs.length := fun k hk => by
      unfold Cir.changedL at hk
      exact List.mem_range.mp (List.mem_filter.mp hk).1
    have nd : (Cir.changedL arcs one two arcs.length).Nodup := List.Pairwise.filter _ List.nodup_range
    have len1 := TT.len
    have len2 := TT.len2
    have ne : 0 < (Cir.changedL arcs one two arcs.length).length := by
      obtain ⟨q, hq, _⟩ := TT.hit
      have := TT.perm.mem_iff.mpr (List.mem_map.mpr ⟨q, hq, rfl⟩)
      exact List.length_pos_of_mem this
    clear TT
    have cle : (Cir.changedL arcs one two arcs.length).length ≤ arcs.length := by
      unfold Cir.changedL
      exact Nat.le_trans (List.length_filter_le _ _) (by simp)
    generalize Cir.changedL arcs one two arcs.length = ch at *
    obtain ⟨k0, hk0⟩ : ∃ k0, ch[0]? = some k0 := ⟨_, List.getElem?_eq_getElem ne⟩
    have hk0m := List.mem_of_getElem? hk0
    -- touched
    refine ⟨_, rfl, _, rfl, (rg_ok (by omega)).1, (rg_ok (by omega)).2, fun pt hpt => lc_rng (n := n) (fun i H2 => H2 = upd H1 pt (.lst (List.replicate i (V.int 0)))) rfl ?_ ?_⟩
    · rintro i H2 hi rfl
      refine ⟨rfl, _, upd_same, ?_, ?_⟩
      · rw [List.length_replicate]
        exact len_lt (by omega)
      · rw [upd_upd, List.replicate_succ']
    rintro H2 rfl
    have np : H pt = none := e1.free hpt
    have ncp : pc ≠ pt := ne_of_none hc1 hpt
    have e0 : (List.replicate n (V.int 0)) = (Cir.cntL n arcs []).map V.int := by
      rw [Cir.cntL_zero, List.map_map]
      apply List.ext_getElem?
      intro i
      by_cases hi : i < n
      · rw [List.getElem?_replicate, if_pos hi, List.getElem?_map, List.getElem?_range hi]
        rfl
      · rw [List.getElem?_eq_none (by simp; omega), List.getElem?_eq_none (by simp; omega)]
    rw [e0]
    refine ⟨_, rfl, pc, rfl, ⟨_, SqL.of (by rw [upd_ne ncp]; exact hc1)⟩, for_list (K := K) (a := pc) (xs := ch.map vN)
      (fun i σ H' => Fr [] H H' ∧ H' pc = some (.lst (ch.map vN)) ∧ H' pt = some (.lst ((Cir.cntL n arcs (ch.take i)).map V.int)) ∧ ∃ o4 o7 o8 o9 o10 : Option V, σ = [some (.int (n : Int)), some (.ref a), some (.ref p1), some (.ref p2), o4, some (.ref pc), some (.ref pt), o7, o8, o9, o10])
      ⟨e1.new hpt, by rw [upd_ne ncp]; exact hc1, upd_same, _, _, _, _, _, rfl⟩ (fun i σ H' _ ⟨_, z, _⟩ => SqL.of z) ?_ ?_⟩
    · rintro i y σ H' hy ⟨e, hc, ht, o4, o7, o8, o9, o10, rfl⟩
      obtain ⟨kk, hkk, rfl⟩ := get_mapf hy
      have hkm := List.mem_of_getElem? hkk
      have hkl := mem kk hkm
      obtain ⟨t, a1, a2⟩ := hT kk hkl
      have g := hgood kk hkl
      have sz : Cir.absI (Cir.part two kk - Cir.part one kk) = Cir.absI (Cir.part two k0 - Cir.part one k0) := (size kk hkm).trans (size k0 hk0m).symm
      have l0 := mem k0 hk0m
      refine ⟨_, rfl, _, rfl, _, _, _, _, rfl, rfl, e.l h2, at_part (by omega), _, rfl, _, rfl, _, _, _, _, rfl, rfl, e.l h1, at_part (by omega), _, _, rfl, rfl, _, rfl, ?_⟩
      refine ⟨_, rfl, _, rfl, _, _, _, _, rfl, rfl, SqL.of hc, at_map (f := vN) (j := 0) hk0, _, _, _, _, rfl, rfl, e.l h2, at_part (by omega), ?_⟩
      refine ⟨_, rfl, _, rfl, _, _, _, _, rfl, rfl, SqL.of hc, at_map (f := vN) (j := 0) hk0, _, _, _, _, rfl, rfl, e.l h1, at_part (by omega), _, _, rfl, rfl, _, rfl, rfl, _, rfl, ne_if (fun c => absurd sz c) fun _ => ?_⟩
      have i1 : (Cir.arcOf arcs kk).1.toNat < (Cir.cntL n arcs (ch.take i)).length := by rw [Cir.cntL_len]; have := g.1; omega
      have i2 : (Cir.arcOf arcs kk).2.toNat < (Cir.cntL n arcs (ch.take i)).length := by rw [Cir.cntL_len]; have := g.2.1; omega
      refine ⟨_, rfl, _, rfl, _, rfl, _, _, _, _, rfl, rfl, e.l hL, a1, _, _, _, _, rfl, rfl, e.t a2, rfl, ?_⟩
      refine ⟨_, _, _, _, rfl, rfl, SqL.of ht, at_int g.1.1 (by rw [List.getElem?_map, Cir.cntL_get g.1.1 g.1.2]; rfl), _, _, rfl, rfl, ?_⟩
      refine ⟨_, rfl, _, rfl, _, rfl, _, _, _, _, rfl, rfl, e.l hL, a1, _, _, _, _, rfl, rfl, e.t a2, rfl, ?_⟩
      refine ⟨_, _, _, _, rfl, rfl, ht, ix_int g.1.1 (by rw [List.length_map, Cir.cntL_len]; exact g.1.2), ?_⟩
      have e' : Fr [] H (upd H' pt (.lst (((Cir.cntL n arcs (ch.take i)).map V.int).set (Cir.arcOf arcs kk).1.toNat (.int (Cir.cnt arcs (ch.take i) (Cir.arcOf arcs kk).1 + 1))))) := e.put (.inr np)
      refine ⟨_, rfl, _, rfl, _, rfl, _, _, _, _, rfl, rfl, e'.l hL, a1, _, _, _, _, rfl, rfl, e'.t a2, rfl, ?_⟩
      refine ⟨_, _, _, _, rfl, rfl, SqL.of upd_same, at_int (v := V.int (Cir.cnt arcs (ch.take i) (Cir.arcOf arcs kk).2)) g.2.1.1 ?_, _, _, rfl, rfl, ?_⟩
      · rw [List.getElem?_set_ne (by have := g.1; have := g.2.1; have := g.2.2; omega), List.getElem?_map, Cir.cntL_get g.2.1.1 g.2.1.2]
        rfl
      refine ⟨_, rfl, _, rfl, _, rfl, _, _, _, _, rfl, rfl, e'.l hL, a1, _, _, _, _, rfl, rfl, e'.t a2, rfl, ?_⟩
      refine ⟨_, _, _, _, rfl, rfl, upd_same, ix_int g.2.1.1 (by rw [List.length_set, List.length_map, Cir.cntL_len]; exact g.2.1.2), ?_⟩
      refine ⟨e'.put (.inr np), by rw [upd_ne ncp, upd_ne ncp]; exact hc, ?_, _, _, _, _, _, rfl⟩
      rw [upd_same, take_succ hkk, ← Cir.cnt_step g, List.map_set, List.map_set]
    rintro σ H3 ⟨e3, hc3, ht3, o4, o7, o8, o9, o10, rfl⟩
    rw [List.length_map, List.take_length] at ht3
    -- 0 or 2
    refine ⟨_, rfl, pt, rfl, ⟨_, SqL.of ht3⟩, for_list (K := K) (a := pt) (xs := (Cir.cntL n arcs ch).map V.int)
      (fun i σ H' => H' = H3 ∧ ∃ o7 : Option V, σ = [some (.int (n : Int)), some (.ref a), some (.ref p1), some (.ref p2), o4, some (.ref pc), some (.ref pt), o7, o8, o9, o10])
      ⟨rfl, _, rfl⟩ (fun i σ H' _ ⟨z, _⟩ => by rw [z]; exact SqL.of ht3) ?_ ?_⟩
    · rintro i y σ H' hy ⟨rfl, o7, rfl⟩
      obtain ⟨z, hz, rfl⟩ := get_map_int hy
      have hz2 : z = 0 ∨ z = 2 := by
        unfold Cir.cntL at hz
        rw [List.getElem?_map] at hz
        cases hr : (List.range n)[i]? with
        | none => rw [hr] at hz; cases hz
        | some u =>
          rw [hr] at hz
          rw [← Option.some.inj hz]
          exact two_ends u
      refine ⟨_, rfl, rfl, _, rfl, ne_if (fun c0 => ⟨_, rfl, rfl, _, rfl, ne_if (fun c2 => by omega) fun _ => ⟨rfl, _, rfl⟩⟩) fun _ => ⟨rfl, _, rfl⟩⟩
    rintro σ H4 ⟨rfl, o7', rfl⟩
    -- reached
    refine ⟨_, rfl, pc, rfl, ⟨_, SqL.of hc3⟩, fun pr hpr => lc_list (K := K) (a := pc) (xs := ch.map vN) (fun i H2 => H2 = upd H4 pr (.lst (((ch.take i).filter fun k => decide (k = k0)).map vN))) rfl
      (fun i H2 _ z => by rw [z]; exact SqL.of (by rw [upd_ne (ne_of_none hc3 hpr)]; exact hc3)) ?_ ?_⟩
    · rintro i y H2 hy rfl
      obtain ⟨kk, hkk, rfl⟩ := get_mapf hy
      have hcc : (upd H4 pr (.lst (((ch.take i).filter fun k => decide (k = k0)).map vN))) pc = some (.lst (ch.map vN)) := by rw [upd_ne (ne_of_none hc3 hpr)]; exact hc3
      refine ⟨rfl, _, rfl, _, rfl, _, _, _, _, rfl, rfl, SqL.of hcc, at_map (f := vN) (j := 0) hk0, rfl, _, rfl, eq_if (fun c => ?_) fun c => ?_⟩
      · have c : kk = k0 := by omega
        refine ⟨_, rfl, _, upd_same, len_lt ?_, ?_⟩
        · rw [List.length_map]
          refine Nat.lt_of_le_of_lt (List.length_filter_le _ _) ?_
          rw [List.length_take]
          omega
        · rw [upd_upd, take_succ hkk, List.filter_append, List.map_append, List.filter_cons, if_pos (decide_eq_true c)]
          rfl
      · have c : ¬ kk = k0 := fun z => c (by rw [z])
        rw [take_succ hkk, List.filter_append, List.filter_cons, if_neg (by simpa using c)]
        simp
    rintro H2 rfl
    rw [List.length_map, List.take_length]
    have npr : H pr = none := e3.free hpr
    have e5 := e3.new (o := .lst ((ch.filter fun k => decide (k = k0)).map vN)) hpr
    have nrc : pr ≠ pc := (ne_of_none hc3 hpr).symm
    have hc5 : (upd H4 pr (.lst ((ch.filter fun k => decide (k = k0)).map vN))) pc = some (.lst (ch.map vN)) := by rw [upd_ne (Ne.symm nrc)]; exact hc3
    have hr5 : (upd H4 pr (.lst ((ch.filter fun k => decide (k = k0)).map vN))) pr = some (.lst ((ch.filter fun k => decide (k = k0)).map vN)) := upd_same
    generalize upd H4 pr (.lst ((ch.filter fun k => decide (k = k0)).map vN)) = H5 at e5 hc5 hr5 ⊢
    refine ⟨_, rfl, _, _, rfl, .inl (SqL.of hc5), _, rfl, (rg_ok (by rw [List.length_map]; omega)).1, (rg_ok (by rw [List.length_map]; omega)).2, for_rng (n := (ch.map vN).length)
      (fun i σ H' => Fr [] H H' ∧ H' pc = some (.lst (ch.map vN)) ∧ (∃ R : List Nat, H' pr = some (.lst (R.map vN)) ∧ R.Nodup ∧ (∀ x ∈ R, x ∈ ch) ∧ k0 ∈ R ∧ ∀ (j x : Nat), j < i → R[j]? = some x → ∀ k ∈ ch, Cir.adj arcs x k → k ∈ R) ∧
        ∃ o4 o7 o9 o10 : Option V, σ = [some (.int (n : Int)), some (.ref a), some (.ref p1), some (.ref p2), o4, some (.ref pc), some (.ref pt), o7, some (.ref pr), o9, o10])
      ⟨e5, hc5, ⟨_, hr5, List.Pairwise.filter _ nd, fun x hx => (List.mem_filter.mp hx).1, List.mem_filter.mpr ⟨hk0m, decide_eq_true rfl⟩, fun j x h => by omega⟩, _, _, _, _, rfl⟩ ?_ ?_⟩
    · rintro i σ H6 hi ⟨e6, hc6, ⟨R, hr6, ndR, sub, k0R, cl⟩, o4, o7, o9, o10, rfl⟩
      rw [List.length_map] at hi
      have Rle : R.length ≤ ch.length := ndR.length_le_of_subset sub
      refine ⟨_, rfl, _, rfl, _, _, rfl, .inl (SqL.of hr6), _, _, rfl, rfl, _, rfl, dec_iff (fun c => ?_) fun c => ?_⟩
      · exfalso
        rw [List.length_map] at c
        have := all R k0 hk0m k0R fun x hx k hk ha => by
          obtain ⟨j, hj⟩ := List.mem_iff_getElem?.mp hx
          have := (List.getElem?_eq_some_iff.mp hj).1
          exact cl j x (by omega) hj k hk ha
        omega
      rw [List.length_map] at c
      have hiR : i < R.length := by omega
      obtain ⟨x0, hx0⟩ : ∃ x0, R[i]? = some x0 := ⟨_, List.getElem?_eq_getElem hiR⟩
      have x0l := mem x0 (sub x0 (List.mem_of_getElem? hx0))
      obtain ⟨t0, b1, b2⟩ := hT x0 x0l
      refine ⟨_, rfl, _, rfl, _, rfl, _, _, _, _, rfl, rfl, SqL.of hr6, at_map (f := vN) hx0, _, _, _, _, rfl, rfl, e6.l hL, b1, ?_⟩
      refine ⟨_, rfl, pc, rfl, ⟨_, SqL.of hc6⟩, for_list (K := K) (a := pc) (xs := ch.map vN)
        (fun j σ H' => Fr [] H H' ∧ H' pc = some (.lst (ch.map vN)) ∧ (∃ (R' ext : List Nat), R' = R ++ ext ∧ H' pr = some (.lst (R'.map vN)) ∧ R'.Nodup ∧ (∀ x ∈ R', x ∈ ch) ∧ ∀ (k : Nat), k ∈ ch.take j → Cir.adj arcs x0 k → k ∈ R') ∧
          ∃ o4 : Option V, σ = [some (.int (n : Int)), some (.ref a), some (.ref p1), some (.ref p2), o4, some (.ref pc), some (.ref pt), o7, some (.ref pr), some (.int (i : Int)), some (.ref t0)])
        ⟨e6, hc6, ⟨R, [], by simp, hr6, ndR, sub, fun k hk => by simp at hk⟩, _, rfl⟩ (fun j σ H' _ ⟨_, z, _⟩ => SqL.of z) ?_ ?_⟩
      · rintro j y σ H7 hy ⟨e7, hc7, ⟨R', ext, hR', hr7, ndR', sub', cl'⟩, o4, rfl⟩
        obtain ⟨kk, hkk, rfl⟩ := get_mapf hy
        have hkm := List.mem_of_getElem? hkk
        obtain ⟨t, a1, a2⟩ := hT kk (mem kk hkm)
        have R'le : R'.length ≤ ch.length := ndR'.length_le_of_subset sub'
        dsimp only [gName]
        refine tAnd_p (p := kk ∉ R') (q := Cir.adj arcs x0 kk) (fun Rr h => ?_) (fun _ Rr h => ?_) ?_
        · refine ⟨_, rfl, _, rfl, pr, _, rfl, .inl (SqL.of hr7), rfl, flat_nats R', _, rfl, ?_⟩
          rw [inV_nats]
          have : (!decide (kk ∈ R')) = decide (kk ∉ R') := by simp
          rw [if_pos rfl, this]
          exact h
        · refine tOr_p (p := (Cir.arcOf arcs kk).1 = (Cir.arcOf arcs x0).1 ∨ (Cir.arcOf arcs kk).1 = (Cir.arcOf arcs x0).2) (q := (Cir.arcOf arcs kk).2 = (Cir.arcOf arcs x0).1 ∨ (Cir.arcOf arcs kk).2 = (Cir.arcOf arcs x0).2) (fun R2 h2 => ?_) (fun R2 h2 => ?_) h
          · refine ⟨_, rfl, _, rfl, _, _, _, _, rfl, rfl, e7.l hL, a1, _, _, _, _, rfl, rfl, e7.t a2, rfl, _, rfl, t0, _, rfl, .inr (e7.t b2), rfl, rfl, _, rfl, ?_⟩
            rw [inV_pair]
            exact h2
          · refine ⟨_, rfl, _, rfl, _, _, _, _, rfl, rfl, e7.l hL, a1, _, _, _, _, rfl, rfl, e7.t a2, rfl, _, rfl, t0, _, rfl, .inr (e7.t b2), rfl, rfl, _, rfl, ?_⟩
            rw [inV_pair]
            exact h2
        · refine dec_iff (fun c => ?_) fun c => ?_
          · refine ⟨_, rfl, .inl ⟨rfl, _, SqL.of hr7⟩, _, rfl, _, _, _, rfl, rfl, hr7, len_lt (by rw [List.length_map]; omega), ?_⟩
            refine ⟨e7.put (.inr npr), by rw [upd_ne (Ne.symm nrc)]; exact hc7, ⟨R' ++ [kk], ext ++ [kk], by rw [hR', List.append_assoc], by rw [upd_same, List.map_append]; rfl, ?_, fun x hx => ?_, fun k hk ha => ?_⟩, _, rfl⟩
            · rw [List.nodup_append]
              refine ⟨ndR', by simp, fun x hx y hy => ?_⟩
              rw [List.mem_singleton] at hy
              subst hy
              rintro rfl
              exact c.1 hx
            · rcases List.mem_append.mp hx with hx | hx
              · exact sub' x hx
              · rw [List.mem_singleton] at hx
                rw [hx]
                exact hkm
            · rw [take_succ hkk] at hk
              rcases List.mem_append.mp hk with hk | hk
              · exact List.mem_append_left _ (cl' k hk ha)
              · exact List.mem_append_right _ hk
          · refine ⟨e7, hc7, ⟨R', ext, hR', hr7, ndR', sub', fun k hk ha => ?_⟩, _, rfl⟩
            rw [take_succ hkk] at hk
            rcases List.mem_append.mp hk with hk | hk
            · exact cl' k hk ha
            · rw [List.mem_singleton] at hk
              subst hk
              exact Classical.byContradiction fun z => c ⟨z, ha⟩
      · rintro σ H7 ⟨e7, hc7, ⟨R', ext, hR', hr7, ndR', sub', cl'⟩, o4, rfl⟩
        rw [List.length_map, List.take_length] at cl'
        refine ⟨e7, hc7, ⟨R', hr7, ndR', sub', by rw [hR']; exact List.mem_append_left _ k0R, fun j x hj hx k hk ha => ?_⟩, _, _, _, _, rfl⟩
        rw [hR', List.getElem?_append_left (by omega)] at hx
        by_cases z : j = i
        · subst z
          rw [hx0] at hx
          cases hx
          exact cl' k hk ha
        · rw [hR']
          exact List.mem_append_left _ (cl j x (by omega) hx k hk ha)
    · rintro σ H6 ⟨e6, hc6, _, o4, o7, o9, o10, rfl⟩
      refine ⟨_, rfl, _, _, rfl, .inl (SqL.of hc6), _, _, rfl, rfl, ?_⟩
      show Q (.bl (decide ((0 : Int) < ((ch.map vN).length : Int)))) H6
      rw [decide_eq_true (by rw [List.length_map]; omega)]
      exact k _ e6
end
section
variable {P : Program} {w : World} {K : PySem.W.Frag} {mg : Str → Option Value} {base : Heap} {CA CU : Addr}
theorem ok_law_nearer {f : Addr} {fd : FuncData} (F : Fun K "_law_nearer" "_law_nearer" s_law_nearer f fd) (T : Txt P K mg CA CU) : FnOk P w K mg base CX0 1 f fd ["one", "two", "goal"] (spLawNearer K) := by
  refine F.ok sc_law_nearer (fun vs H Q E h => ?_) (fun cdv A outer s H vs Q E hr h => ?_)
  · obtain ⟨p1, p2, p3, arcs, goal, one, two, found, s', rfl, _⟩ := h
    rfl
  · obtain ⟨p1, p2, p3, arcs, goal, one, two, found, s', rfl, h1, h2, h3, hl, hgl, TT, k⟩ := h
    refine ⟨_, (pss_cons (ps_set (i := 3) sc_law_nearer.nd rfl (Or.inl rfl) pe_int)
    (pss_cons (ps_for PassesOwn.never rfl (pi_range1 (by rfl) T.m_range (pa_cons (pe_callB call_len_seq (by rfl) T.m_len (by decide +kernel) (pa_cons (pv 2) pa_nil)) pa_nil)) (pg_name (i := 4) sc_law_nearer.nd rfl (Or.inl rfl))
      (pss_one (ps_if (pt_cmpR op_ne (pe_ix ix_list (pv 1) (pv 4) (fun _ _ => rfl)) (pe_ix ix_list (pv 0) (pv 4) (fun _ _ => rfl)) (nomark _))
        (pss_cons (ps_if (PW.pt (pw_and (pt_not (pt_chain op_lt op_le (pe_ix ix_list (pv 0) (pv 4) (fun _ _ => rfl)) (pe_ix ix_list (pv 1) (pv 4) (fun _ _ => rfl)) (pe_ix ix_list (pv 2) (pv 4) (fun _ _ => rfl)))) (pw_and1 (pt_not (pt_chain op_gt op_ge (pe_ix ix_list (pv 0) (pv 4) (fun _ _ => rfl)) (pe_ix ix_list (pv 1) (pv 4) (fun _ _ => rfl)) (pe_ix ix_list (pv 2) (pv 4) (fun _ _ => rfl)))))))
          (pss_one (ps_ret pe_bl))
          pss_nil)
        (pss_one (ps_if (pt_cmpR op_eq (pe_ix ix_list (pv 1) (pv 4) (fun _ _ => rfl)) (pe_ix ix_list (pv 2) (pv 4) (fun _ _ => rfl)) (nomark _))
          (pss_one (ps_set (i := 3) sc_law_nearer.nd rfl (Or.inl rfl) (pe_op op_add (pv 3) pe_int)))
          pss_nil)))
        pss_nil)))
    (pss_one (ps_ret (pe_cmpR op_gt (pv 3) pe_int (nomark _)))))), ?_⟩
    have l1 := TT.len
    have l2 := TT.len2
    obtain ⟨q0, hq0, hit⟩ := TT.hit
    have q0l := (TT.ok q0 hq0).1
    have q0i := TT.inn q0 hq0
    refine ⟨_, rfl, _, _, rfl, .inl h3, _, rfl, (rg_ok (by rw [List.length_map]; omega)).1, (rg_ok (by rw [List.length_map]; omega)).2, for_rng (n := (goal.map V.int).length)
      (fun i σ H' => H' = H ∧ ∃ (sd : Int) (o : Option V), 0 ≤ sd ∧ (q0.1 < i → 0 < sd) ∧ σ = [some (.ref p1), some (.ref p2), some (.ref p3), some (.int sd), o]) ⟨rfl, 0, _, Int.le_refl _, fun h => by omega, rfl⟩ ?_ ?_⟩
    · rintro i σ H' hi ⟨rfl, sd, o, hsd, hq, rfl⟩
      rw [List.length_map, hgl] at hi
      have c1 : atI (one.map V.int) (i : Int) = some (.int (Cir.part one i)) := at_part (by omega)
      have c2 : atI (two.map V.int) (i : Int) = some (.int (Cir.part two i)) := at_part (by omega)
      have c3 : atI (goal.map V.int) (i : Int) = some (.int (Cir.part goal i)) := at_part (by omega)
      refine ⟨_, rfl, _, rfl, _, _, _, _, rfl, rfl, h2, c2, _, rfl, _, rfl, _, _, _, _, rfl, rfl, h1, c1, rfl, _, rfl, ne_if (fun c => ?_) fun c => ?_⟩
      · obtain ⟨q, hq1, rfl⟩ := List.mem_map.mp ((TT.chg i).mp (Ne.symm c))
        have inn := TT.inn q hq1
        have s0 := TT.sp
        have nr := TT.near q hq1
        rcases (TT.ok q hq1).2 with w | w
        · have le := nr.1 w
          rw [w] at inn
          refine ⟨_, rfl, _, rfl, _, _, _, _, rfl, rfl, h1, c1, _, rfl, _, rfl, _, _, _, _, rfl, rfl, h2, c2, _, _, rfl, rfl, _, rfl, iteY (decide_eq_true (by omega)) ⟨_, rfl, _, rfl, _, _, _, _, rfl, rfl, h3, c3, _, _, rfl, rfl, _, rfl, ?_⟩⟩
          refine iteN (by rw [decide_eq_true (show Cir.part two q.1 ≤ Cir.part goal q.1 by omega)]; rfl) ?_
          refine ⟨_, rfl, _, rfl, _, _, _, _, rfl, rfl, h2, c2, _, rfl, _, rfl, _, _, _, _, rfl, rfl, h3, c3, rfl, _, rfl, eq_if (fun c => ?_) fun c => ?_⟩
          · exact ⟨_, rfl, _, _, rfl, rfl, rfl, sd + 1, _, by omega, fun _ => by omega, rfl⟩
          · refine ⟨rfl, sd, _, hsd, fun h => ?_, rfl⟩
            by_cases z : q0.1 = q.1
            · rw [z] at hit q0i
              omega
            · exact hq (by omega)
        · have le := nr.2 w
          rw [w] at inn
          refine ⟨_, rfl, _, rfl, _, _, _, _, rfl, rfl, h1, c1, _, rfl, _, rfl, _, _, _, _, rfl, rfl, h2, c2, _, _, rfl, rfl, _, rfl, iteN (decide_eq_false (by omega)) ⟨_, rfl, iteY rfl ?_⟩⟩
          refine ⟨_, rfl, _, rfl, _, _, _, _, rfl, rfl, h1, c1, _, rfl, _, rfl, _, _, _, _, rfl, rfl, h2, c2, _, _, rfl, rfl, _, rfl, iteY (decide_eq_true (by omega)) ⟨_, rfl, _, rfl, _, _, _, _, rfl, rfl, h3, c3, _, _, rfl, rfl, _, rfl, ?_⟩⟩
          refine iteN (by rw [decide_eq_true (show Cir.part goal q.1 ≤ Cir.part two q.1 by omega)]; rfl) ?_
          refine ⟨_, rfl, _, rfl, _, _, _, _, rfl, rfl, h2, c2, _, rfl, _, rfl, _, _, _, _, rfl, rfl, h3, c3, rfl, _, rfl, eq_if (fun c => ?_) fun c => ?_⟩
          · exact ⟨_, rfl, _, _, rfl, rfl, rfl, sd + 1, _, by omega, fun _ => by omega, rfl⟩
          · refine ⟨rfl, sd, _, hsd, fun h => ?_, rfl⟩
            by_cases z : q0.1 = q.1
            · rw [z] at hit q0i
              omega
            · exact hq (by omega)
      · refine ⟨rfl, sd, _, hsd, fun h => ?_, rfl⟩
        by_cases z : q0.1 = i
        · have := (TT.chg q0.1).mpr (List.mem_map.mpr ⟨q0, hq0, rfl⟩)
          rw [z] at this
          exact absurd c.symm this
        · exact hq (by omega)
    · rintro σ H' ⟨rfl, sd, o, hsd, hq, rfl⟩
      refine ⟨_, rfl, _, _, rfl, rfl, ?_⟩
      rw [List.length_map, hgl] at hq
      show Q (.bl (decide ((0 : Int) < sd))) H'
      rw [decide_eq_true (hq q0l)]
      exact k
theorem ok_law_leads {f : Addr} {fd : FuncData} (F : Fun K "_law_leads" "_law_leads" s_law_leads f fd) (T : Txt P K mg CA CU) (F_law_spare : FnB P w K mg base CX0 1 "_law_spare" ["count", "arcs", "amounts"] (spSpare K))
    (F_law_round : FnB P w K mg base CX0 1 "_law_round" ["count", "arcs", "one", "two"] (spLawRound K)) (F_law_nearer : FnB P w K mg base CX0 1 "_law_nearer" ["one", "two", "goal"] (spLawNearer K)) :
    FnOk P w K mg base CX0 2 f fd ["count", "arcs", "first", "second", "told"] (spLawLeads K) := by
  refine F.ok sc_law_leads (fun vs H Q E h => ?_) (fun cdv A outer s H vs Q E hr h => ?_)
  · obtain ⟨n, a, p1, p2, pt, arcs, xs, ys, B, rows, rfl, _⟩ := h
    rfl
  · obtain ⟨n, a, p1, p2, pt, arcs, xs, ys, B, rows, rfl, hA, h1, h2, hR, hn, hl, hlx, hly, hgood, L, k⟩ := h
    refine ⟨_, (pss_cons (ps_set (i := 6) sc_law_leads.nd rfl (Or.inl rfl) (pe_callB call_len_seq (by rfl) T.m_len (by decide +kernel) (pa_cons (pe_lc (own := [("k", 5)]) rfl sc_law_leads.nd (pi_range1 (by rfl) T.m_range (pa_cons (pe_callB call_len_seq (by rfl) T.m_len (by decide +kernel) (pa_cons (pv 1) pa_nil)) pa_nil)) (blkOk_by (own := [("k", 5)]) (N := n_law_leads) (sc := defScope s_law_leads) (by decide +kernel)) (fun _ _ _ _ _ => (pg_name (i := 5) sc_law_leads.nd rfl (Or.inl rfl))) (fun _ _ _ _ _ => pts_one (pt_cmpR op_ne (pe_ix (r := rIxL K) ix_list (pv 2) (pv 5) (fun _ _ => rfl)) (pe_ix (r := rIxL K) ix_list (pv 3) (pv 5) (fun _ _ => rfl)) (nomark _))) (fun _ _ _ _ _ => (pv 5))) pa_nil)))
    (pss_cons (ps_if (PW.pt (pw_or (pt_not (pt_val (pe_callB call_isi (by rfl) T.m_isinstance (by decide +kernel) (pa_cons (pv 4) (pa_cons (pe_bltn (v := .ty "list") (by rfl) T.m_list (by decide +kernel) rfl) pa_nil))))) (pw_or (pt_cmpR op_lt (pe_callB call_len_seq (by rfl) T.m_len (by decide +kernel) (pa_cons (pv 4) pa_nil)) pe_int (nomark _)) (pw_or1 (pt_cmpR op_gt (pe_callB call_len_seq (by rfl) T.m_len (by decide +kernel) (pa_cons (pv 4) pa_nil)) (pe_op op_add (pv 6) pe_int) (nomark _))))))
      (pss_one (ps_ret pe_bl))
      pss_nil)
    (pss_cons (ps_for PassesOwn.never rfl (pi_list (pv 4)) (pg_name (i := 7) sc_law_leads.nd rfl (Or.inl rfl))
      (pss_cons (ps_if (PW.pt (pw_or (pt_not (pt_val (pe_callB call_isi (by rfl) T.m_isinstance (by decide +kernel) (pa_cons (pv 7) (pa_cons (pe_bltn (v := .ty "list") (by rfl) T.m_list (by decide +kernel) rfl) pa_nil))))) (pw_or1 (pt_cmpR op_ne (pe_callB call_len_seq (by rfl) T.m_len (by decide +kernel) (pa_cons (pv 7) pa_nil)) (pe_callB call_len_seq (by rfl) T.m_len (by decide +kernel) (pa_cons (pv 1) pa_nil)) (nomark _)))))
        (pss_one (ps_ret pe_bl))
        pss_nil)
      (pss_cons (ps_for PassesOwn.never rfl (pi_list (pv 7)) (pg_name (i := 8) sc_law_leads.nd rfl (Or.inl rfl))
        (pss_one (ps_if (PW.pt (pw_or (pt_not (pt_val (pe_callB call_isi (by rfl) T.m_isinstance (by decide +kernel) (pa_cons (pv 8) (pa_cons (pe_bltn (v := .ty "int") (by rfl) T.m_int (by decide +kernel) rfl) pa_nil))))) (pw_or1 (pt_val (pe_callB call_isi (by rfl) T.m_isinstance (by decide +kernel) (pa_cons (pv 8) (pa_cons (pe_bltn (v := .ty "bool") (by rfl) T.m_bool (by decide +kernel) rfl) pa_nil)))))))
          (pss_one (ps_ret pe_bl))
          pss_nil)))
      (pss_one (ps_if (pt_cmpR (op_neD hr.units) (pe_callF F_law_spare (hr.mono (by decide)) rfl pass0 (pa_cons (pv 0) (pa_cons (pv 1) (pa_cons (pv 7) pa_nil)))) (pe_lc (own := [("k", 5)]) rfl sc_law_leads.nd (pi_range1 (by rfl) T.m_range (pa_cons (pv 0) pa_nil)) (blkOk_by (own := [("k", 5)]) (N := n_law_leads) (sc := defScope s_law_leads) (by decide +kernel)) (fun _ _ _ _ _ => (pg_name (i := 5) sc_law_leads.nd rfl (Or.inl rfl))) (fun _ _ _ _ _ => pts_nil) (fun _ _ _ _ _ => pe_int)) (nomark _))
        (pss_one (ps_ret pe_bl))
        pss_nil)))))
    (pss_cons (ps_for PassesOwn.never rfl (pi_range1 (by rfl) T.m_range (pa_cons (pe_op op_sub (pe_callB call_len_seq (by rfl) T.m_len (by decide +kernel) (pa_cons (pv 4) pa_nil)) pe_int) pa_nil)) (pg_name (i := 5) sc_law_leads.nd rfl (Or.inl rfl))
      (pss_one (ps_if (PW.pt (pw_or (pt_not (pt_val (pe_callF F_law_round (hr.mono (by decide)) rfl pass0 (pa_cons (pv 0) (pa_cons (pv 1) (pa_cons (pe_ix ix_list (pv 4) (pv 5) (fun _ _ => rfl)) (pa_cons (pe_ix ix_list (pv 4) (pe_op op_add (pv 5) pe_int) (fun _ _ => rfl)) pa_nil))))))) (pw_or1 (pt_not (pt_val (pe_callF F_law_nearer (hr.mono (by decide)) rfl pass0 (pa_cons (pe_ix ix_list (pv 4) (pv 5) (fun _ _ => rfl)) (pa_cons (pe_ix ix_list (pv 4) (pe_op op_add (pv 5) pe_int) (fun _ _ => rfl)) (pa_cons (pv 3) pa_nil)))))))))
        (pss_one (ps_ret pe_bl))
        pss_nil)))
    (pss_one (ps_ret (pe_and (pe_cmpR (op_eqD hr.units) (pe_ix ix_list (pv 4) pe_int (fun _ _ => rfl)) (pv 2) (nomark _)) (pe_one (pe_cmpR (op_eqD hr.units) (pe_ix ix_list (pv 4) (pe_un un_neg pe_int) (fun _ _ => rfl)) (pv 3) (nomark _)))))))))), ?_⟩
    obtain ⟨ts, hL, hts, hT⟩ := hA.at
    have hlm : (ts.map V.ref).length = arcs.length := by rw [List.length_map, hts]
    have rpos : 0 < rows.length := by
      have := L.head
      cases rows with
      | nil => cases this
      | cons _ _ => simp
    have dle : Cir.differ arcs.length xs ys ≤ arcs.length := by
      unfold Cir.differ Cir.changedL
      exact Nat.le_trans (List.length_filter_le _ _) (by simp)
    have few := L.few
    -- differ
    refine ⟨_, rfl, _, _, rfl, .inl hL, _, rfl, (rg_ok (by omega)).1, (rg_ok (by omega)).2, fun pc hpc => lc_rng (n := (ts.map V.ref).length) (fun i H2 => H2 = upd H pc (.lst ((Cir.changedL [] xs ys i).map vN))) rfl ?_ ?_⟩
    · rintro i H2 hi rfl
      rw [hlm] at hi
      have e := (Fr.refl [] H).new (o := .lst ((Cir.changedL [] xs ys i).map vN)) hpc
      have cl : (Cir.changedL [] xs ys i).length ≤ i := by
        unfold Cir.changedL
        exact Nat.le_trans (List.length_filter_le _ _) (by simp)
      refine ⟨rfl, _, rfl, _, rfl, _, _, _, _, rfl, rfl, e.l h1, at_part (by omega), _, rfl, _, rfl, _, _, _, _, rfl, rfl, e.l h2, at_part (by omega), rfl, _, rfl, ne_if (fun c => ?_) fun c => ?_⟩
      · refine ⟨_, rfl, _, upd_same, len_lt (by rw [List.length_map]; omega), ?_⟩
        rw [upd_upd, Cir.changedL_succ, if_pos c, List.map_append]
        rfl
      · rw [Cir.changedL_succ, if_neg (by simpa using c), List.append_nil]
    rintro H1 rfl
    rw [hlm]
    refine ⟨_, _, rfl, .inl (SqL.of upd_same), ?_⟩
    have e1 := (Fr.refl [] H).new (o := .lst ((Cir.changedL [] xs ys arcs.length).map vN)) hpc
    have hdl : ((Cir.changedL [] xs ys arcs.length).map vN).length = Cir.differ arcs.length xs ys := by rw [List.length_map]; rfl
    generalize upd H pc (.lst ((Cir.changedL [] xs ys arcs.length).map vN)) = H1 at e1 ⊢
    generalize ((Cir.changedL [] xs ys arcs.length).map vN).length = dd at hdl ⊢
    have hR1 := hR.fr e1
    obtain ⟨rs, g1, g2, g3, g4, g5⟩ := hR1
    have hrl : (rs.map V.ref).length = rows.length := by rw [List.length_map, g2]
    refine ⟨_, rfl, _, _, _, _, true, rfl, .ty _, .base (.lst g1), kit_ty (by decide +kernel), _, rfl, ?_⟩
    refine ⟨_, rfl, _, _, rfl, .inl (SqL.of g1), _, _, rfl, rfl, _, rfl, dec_iff (fun c => ?_) fun _ => ?_⟩
    · exfalso
      omega
    refine ⟨_, rfl, _, _, rfl, .inl (SqL.of g1), _, rfl, _, _, rfl, rfl, _, _, rfl, rfl, _, rfl, dec_iff (fun c => ?_) fun _ => ?_⟩
    · exfalso
      omega
    have rowAt : ∀ {i : Nat} {r : Addr}, rs[i]? = some r → ∃ row, rows[i]? = some row ∧ H1 r = some (.lst (row.map V.int)) := fun {i r} hi => by
      have hl : i < rows.length := by rw [← g2]; exact (List.getElem?_eq_some_iff.mp hi).1
      exact ⟨_, List.getElem?_eq_getElem hl, g5 i r _ hi (List.getElem?_eq_getElem hl)⟩
    refine ⟨_, rfl, pt, rfl, ⟨_, SqL.of g1⟩, for_list (K := K) (a := pt) (xs := rs.map V.ref)
      (fun i σ H' => Fr [] H1 H' ∧ ∃ o5 o7 o8 : Option V, σ = [some (.int (n : Int)), some (.ref a), some (.ref p1), some (.ref p2), some (.ref pt), o5, some (.int (dd : Int)), o7, o8])
      ⟨Fr.refl _ _, _, _, _, rfl⟩ (fun i σ H' _ ⟨z, _⟩ => SqL.of (z _ _ g1 (by simp))) ?_ ?_⟩
    · rintro i y σ H2 hy ⟨e2, o5, o7, o8, rfl⟩
      obtain ⟨r, hr1, rfl⟩ := get_mapf hy
      obtain ⟨row, hrow, hr2⟩ := rowAt hr1
      have hr3 := e2 _ _ hr2 (by simp)
      obtain ⟨w1, w2, _⟩ := L.rows row (List.mem_of_getElem? hrow)
      have e12 := e1.trans e2
      refine ⟨_, rfl, _, _, _, _, true, rfl, .ty _, .base (.lst hr3), kit_ty (by decide +kernel), _, rfl, ?_⟩
      refine ⟨_, rfl, _, _, rfl, .inl (SqL.of hr3), _, rfl, _, _, rfl, .inl (e12.l hL), rfl, _, rfl, ne_if (fun c => absurd (by rw [hlm, List.length_map, w1]) c) fun _ => ?_⟩
      refine ⟨_, rfl, r, rfl, ⟨_, SqL.of hr3⟩, for_list (K := K) (a := r) (xs := row.map V.int)
        (fun i σ H' => H' = H2 ∧ ∃ o8 : Option V, σ = [some (.int (n : Int)), some (.ref a), some (.ref p1), some (.ref p2), some (.ref pt), o5, some (.int (dd : Int)), some (.ref r), o8])
        ⟨rfl, _, rfl⟩ (fun i σ H' _ ⟨z, _⟩ => by rw [z]; exact SqL.of hr3) ?_ ?_⟩
      · rintro j z σ H' hz ⟨rfl, o8, rfl⟩
        obtain ⟨x, _, rfl⟩ := get_map_int hz
        refine ⟨_, rfl, _, _, _, _, true, rfl, .ty _, .base (.int _), kit_ty (by decide +kernel), _, rfl, ?_⟩
        refine ⟨_, rfl, _, _, _, _, false, rfl, .ty _, .base (.int _), kit_ty (by decide +kernel), _, rfl, ?_⟩
        exact ⟨rfl, _, rfl⟩
      · rintro σ H' ⟨rfl, o8, rfl⟩
        refine ⟨_, rfl, _, rfl, _, rfl, n, a, r, arcs, row, rfl, hA.fr e12, SqL.of hr3, w1.symm, by omega, by omega, hgood, fun p H3 np e3 h3 => ?_⟩
        refine ⟨_, rfl, _, rfl, (rg_ok (by omega)).1, (rg_ok (by omega)).2, fun q hq => lc_rng (n := n) (fun i H2 => H2 = upd H3 q (.lst (List.replicate i (V.int 0)))) rfl ?_ ?_⟩
        · rintro i H2 hi rfl
          refine ⟨rfl, _, upd_same, ?_, ?_⟩
          · rw [List.length_replicate]
            exact len_lt (by omega)
          · rw [upd_upd, List.replicate_succ']
        rintro H4 rfl
        have e0 : Cir.spareL n arcs row = List.replicate n 0 := by
          unfold Cir.spareL
          rw [List.eq_replicate_iff]
          refine ⟨by simp, fun z hz => ?_⟩
          obtain ⟨v, _, rfl⟩ := List.mem_map.mp hz
          exact w2 _
        rw [e0] at h3
        refine ⟨dInts (List.replicate n 0), dInts (List.replicate n 0), dp_ints (SqL.of (by rw [upd_ne (ne_of_none h3 hq)]; exact h3)), dp_ints (SqL.of (by rw [upd_same, List.map_replicate])), ints_shaped _, ints_shaped _, ?_⟩
        rw [ints_eqv]
        exact ⟨_, rfl, iteN rfl ⟨(e2.trans e3).new hq, _, _, _, rfl⟩⟩
    · rintro σ H2 ⟨e2, o5, o7, o8, rfl⟩
      have g1' := e2 _ _ g1 (by simp)
      have e12 := e1.trans e2
      refine ⟨_, rfl, _, _, rfl, .inl (SqL.of g1'), _, _, rfl, rfl, ((rows.length - 1 : Nat) : Int), congrArg (fun z => [V.int z]) (by rw [hrl]; omega), (rg_ok (by omega)).1, (rg_ok (by omega)).2, for_rng (n := rows.length - 1)
        (fun i σ H' => Fr [] H1 H' ∧ ∃ o5 : Option V, σ = [some (.int (n : Int)), some (.ref a), some (.ref p1), some (.ref p2), some (.ref pt), o5, some (.int (dd : Int)), o7, o8])
        ⟨e2, _, rfl⟩ ?_ ?_⟩
      · clear e2 e12 g1'
        rintro i σ H2 hi ⟨e2, o5, rfl⟩
        have g1' := e2 _ _ g1 (by simp)
        have e12 := e1.trans e2
        obtain ⟨r1, hr1⟩ : ∃ r1, rs[i]? = some r1 := ⟨_, List.getElem?_eq_getElem (by omega)⟩
        obtain ⟨r2, hr2⟩ : ∃ r2, rs[i + 1]? = some r2 := ⟨_, List.getElem?_eq_getElem (by omega)⟩
        obtain ⟨one, ho1, ho2⟩ := rowAt hr1
        obtain ⟨two, ht1, ht2⟩ := rowAt hr2
        obtain ⟨found, s', TT⟩ := L.turn i one two ho1 ht1
        have a1 : atI (rs.map V.ref) (i : Int) = some (.ref r1) := at_map hr1
        have a2 : atI (rs.map V.ref) ((i : Int) + 1) = some (.ref r2) := at_map (j := i + 1) hr2
        refine ⟨_, rfl, _, rfl, _, rfl, _, rfl, _, _, _, _, rfl, rfl, SqL.of g1', a1, _, rfl, _, rfl, _, _, rfl, rfl, _, _, _, _, rfl, rfl, SqL.of g1', a2, ?_⟩
        refine ⟨n, a, r1, r2, arcs, ys, one, two, found, s', rfl, hA.fr e12, SqL.of (e2 _ _ ho2 (by simp)), SqL.of (e2 _ _ ht2 (by simp)), hn, hl, hgood, TT, fun H3 e3 => ⟨_, rfl, iteN rfl ?_⟩⟩
        have e23 := e2.trans e3
        have g1'' := e23 _ _ g1 (by simp)
        refine ⟨_, rfl, _, rfl, _, _, _, _, rfl, rfl, SqL.of g1'', a1, _, rfl, _, rfl, _, _, rfl, rfl, _, _, _, _, rfl, rfl, SqL.of g1'', a2, _, rfl, ?_⟩
        refine ⟨r1, r2, p2, arcs, ys, one, two, found, s', rfl, SqL.of (e23 _ _ ho2 (by simp)), SqL.of (e23 _ _ ht2 (by simp)), (e1.trans e23).l h2, hl, hly.symm, TT, ⟨_, rfl, iteN rfl ⟨e23, _, rfl⟩⟩⟩
      · clear e2 e12 g1'
        rintro σ H2 ⟨e2, o5, rfl⟩
        have g1' := e2 _ _ g1 (by simp)
        have e12 := e1.trans e2
        obtain ⟨r1, hr1⟩ : ∃ r1, rs[0]? = some r1 := ⟨_, List.getElem?_eq_getElem (by omega)⟩
        obtain ⟨r2, hr2⟩ : ∃ r2, rs[rs.length - 1]? = some r2 := ⟨_, List.getElem?_eq_getElem (by omega)⟩
        obtain ⟨one, ho1, ho2⟩ := rowAt hr1
        obtain ⟨two, ht1, ht2⟩ := rowAt hr2
        have eo : one = xs := by
          have := L.head
          rw [List.head?_eq_getElem?, ho1] at this
          exact Option.some.inj this
        have et : two = ys := by
          have := L.last
          rw [List.getLast?_eq_getElem?, ← g2, ht1] at this
          exact Option.some.inj this
        subst eo et
        refine ⟨_, rfl, _, _, _, _, rfl, rfl, SqL.of g1', at_map (j := 0) hr1, _, rfl, dInts one, dInts one, dp_ints (SqL.of (e2 _ _ ho2 (by simp))), dp_ints (e12.l h1), ints_shaped _, ints_shaped _, ?_⟩
        rw [ints_eqv]
        refine ⟨_, rfl, ?_⟩
        refine iteY rfl ?_
        refine ⟨_, rfl, _, rfl, _, _, _, _, rfl, rfl, SqL.of g1', at_lastm (v := V.ref r2) (by rw [List.length_map, List.getElem?_map, hr2]; rfl), _, rfl, dInts two, dInts two, dp_ints (SqL.of (e2 _ _ ht2 (by simp))), dp_ints (e12.l h2), ints_shaped _, ints_shaped _, ?_⟩
        rw [ints_eqv]
        exact k _ e12
end
/-! _law_outcome(count, arcs, first, second): slots 0 count 1 arcs 2 first 3 second 4 told 5 e -/
abbrev s_law_outcome : Stmt := top 21
abbrev n_law_outcome : List Str := ["count", "arcs", "first", "second", "told", "e"]
theorem sc_law_outcome : FnScope n_law_outcome ["count", "arcs", "first", "second"] (defScope s_law_outcome) := ⟨rfl, rfl, rfl, by decide +kernel, rfl, by decide +kernel, by decide +kernel⟩
/-! _law_pair(bag, count, rounds, longest): slots 0 bag 1 count 2 rounds 3 longest 4 arcs 5 first 6 second 7 great 8 turn 9 order 10 size 11 k 12 other 13 kept 14 parts 15 ends 16 sign 17 at -/
abbrev s_law_pair : Stmt := top 15
abbrev n_law_pair : List Str := ["bag", "count", "rounds", "longest", "arcs", "first", "second", "great", "turn", "order", "size", "k", "other", "kept", "parts", "ends", "sign", "at"]
theorem sc_law_pair : FnScope n_law_pair ["bag", "count", "rounds", "longest"] (defScope s_law_pair) := ⟨rfl, rfl, rfl, by decide +kernel, rfl, by decide +kernel, by decide +kernel⟩
/-- what the classes of errors answer -/
structure IsX (K : PySem.W.Frag) (C : Addr) : Prop where
  c : PySem.W.findIn K (.ref C) "__class__" = some (some (.builtin "object.__class__"))
  m : PySem.W.mroIn K C (.type "object") = some true
structure TxtL (P : Program) (K : PySem.W.Frag) (mg : Str → Option Value) (CD CA CU CB : Addr) : Prop extends Txt P K mg CA CU where
  h1 : PySem.W.specialIn K (.builtin "object.__class__") "__get__" = some (some (.builtin "getset_descriptor.__get__"))
  h2 : PySem.W.takesIn K (.builtin "object.__class__") = some true
  g_DealError : mg "DealError" = some (.ref CD)
  iA : IsX K CA
  iU : IsX K CU
  kAD : PySem.W.kitOne K (.ref CA) (.ref CD) = some true
  kUD : PySem.W.kitOne K (.ref CU) (.ref CD) = some true
  kAU : PySem.W.kitOne K (.ref CA) (.ref CU) = some false
  kUA : PySem.W.kitOne K (.ref CU) (.ref CA) = some false
  eUA : PySem.W.exmOne K (.ref CU) (.ref CA) = some false
  g_BadNumber : mg "BadNumber" = some (.ref CB)
  kAB : PySem.W.kitOne K (.ref CA) (.ref CB) = some false
  kUB : PySem.W.kitOne K (.ref CU) (.ref CB) = some false
def dErr (s : Str) (i : Nat) : PyData := .list [.str s, .int (i : Int), .bool true, .bool false]
def dTold : PyData := .list [.str "told", .bool true]
def OutE (n : Nat) (arcs : List Cir.Arc) (xs ys : List Int) (d : PyData) : Prop :=
  (d = dTold ∧ (∀ k, k < arcs.length → Cir.Good n (Cir.arcOf arcs k)) ∧ (∀ v : Nat, v < n → Cir.net arcs xs v = 0) ∧ ∀ v : Nat, v < n → Cir.net arcs ys v = 0) ∨
  (∃ k : Nat, d = dErr "arc" k ∧ k < arcs.length ∧ ¬ Cir.Good n (Cir.arcOf arcs k) ∧ ∀ j, j < k → Cir.Good n (Cir.arcOf arcs j)) ∨
  (∃ v : Nat, d = dErr "node" v ∧ (∀ k, k < arcs.length → Cir.Good n (Cir.arcOf arcs k)) ∧ v < n ∧ Cir.net arcs xs v ≠ 0 ∧ ∀ u : Nat, u < v → Cir.net arcs xs u = 0) ∨
  (∃ v : Nat, d = dErr "node" v ∧ (∀ k, k < arcs.length → Cir.Good n (Cir.arcOf arcs k)) ∧ (∀ v : Nat, v < n → Cir.net arcs xs v = 0) ∧ v < n ∧ Cir.net arcs ys v ≠ 0 ∧ ∀ u : Nat, u < v → Cir.net arcs ys u = 0)
theorem least_uniq {P : Nat → Prop} {a b : Nat} (h1 : P a) (h2 : ∀ j, j < a → ¬ P j) (h3 : P b) (h4 : ∀ j, j < b → ¬ P j) : a = b := by
  by_cases c : a < b
  · exact absurd h1 (h4 a c)
  · by_cases d : b < a
    · exact absurd h3 (h2 b d)
    · omega
theorem OutE.uniq {n : Nat} {arcs : List Cir.Arc} {xs ys : List Int} {d d' : PyData} (h : OutE n arcs xs ys d) (h' : OutE n arcs xs ys d') : d = d' := by
  rcases h with ⟨rfl, g, b1, b2⟩ | ⟨k, rfl, k1, k2, k3⟩ | ⟨v, rfl, g, v1, v2, v3⟩ | ⟨v, rfl, g, b1, v1, v2, v3⟩ <;>
  rcases h' with ⟨rfl, g', b1', b2'⟩ | ⟨k', rfl, k1', k2', k3'⟩ | ⟨v', rfl, g', v1', v2', v3'⟩ | ⟨v', rfl, g', b1', v1', v2', v3'⟩
  · rfl
  · exact absurd (g k' k1') k2'
  · exact absurd (b1 v' v1') v2'
  · exact absurd (b2 v' v1') v2'
  · exact absurd (g' k k1) k2
  · rw [least_uniq (P := fun k => ¬ Cir.Good n (Cir.arcOf arcs k)) k2 (fun j hj h => h (k3 j hj)) k2' fun j hj h => h (k3' j hj)]
  · exact absurd (g' k k1) k2
  · exact absurd (g' k k1) k2
  · exact absurd (b1' v v1) v2
  · exact absurd (g k' k1') k2'
  · rw [least_uniq (P := fun v : Nat => Cir.net arcs xs v ≠ 0) v2 (fun j hj h => h (v3 j hj)) v2' fun j hj h => h (v3' j hj)]
  · exact absurd (b1' v v1) v2
  · exact absurd (b2' v v1) v2
  · exact absurd (g k' k1') k2'
  · exact absurd (b1 v' v1') v2'
  · rw [least_uniq (P := fun v : Nat => Cir.net arcs ys v ≠ 0) v2 (fun j hj h => h (v3 j hj)) v2' fun j hj h => h (v3' j hj)]
theorem lits_ok : TxS 4 "arc" ∧ TxS 4 "node" ∧ TxS 4 "told" := ⟨TxS.lit (by decide) (by decide), TxS.lit (by decide) (by decide), TxS.lit (by decide) (by decide)⟩
theorem dErr_ok {s : Str} {i : Nat} (hs : TxS 4 s) (hi : i < 100000) : OkD 1 300 (dErr s i) := by
  refine (OkD.list (e := 0) (L := 50) (n := 4) (fun d hd => ?_) (by simp)).more (by decide) (by decide)
  simp only [List.mem_cons, List.not_mem_nil, or_false] at hd
  rcases hd with rfl | rfl | rfl | rfl
  · exact (OkD.str hs).more (by decide) (by decide)
  · exact (OkD.int (k := 5) (by decide) (by decide) (by omega)).more (by decide) (by decide)
  · exact (OkD.bool _).more (by decide) (by decide)
  · exact (OkD.bool _).more (by decide) (by decide)
theorem dTold_ok : OkD 1 300 dTold := by
  refine (OkD.list (e := 0) (L := 50) (n := 2) (fun d hd => ?_) (by simp)).more (by decide) (by decide)
  simp only [List.mem_cons, List.not_mem_nil, or_false] at hd
  rcases hd with rfl | rfl
  · exact (OkD.str lits_ok.2.2).more (by decide) (by decide)
  · exact (OkD.bool _).more (by decide) (by decide)
theorem OutE.ok {n : Nat} {arcs : List Cir.Arc} {xs ys : List Int} {d : PyData} (h : OutE n arcs xs ys d) (hn : n ≤ 10000) (hl : arcs.length ≤ 10000) : OkD 1 300 d := by
  rcases h with ⟨rfl, _⟩ | ⟨k, rfl, k1, _⟩ | ⟨v, rfl, _, v1, _⟩ | ⟨v, rfl, _, _, v1, _⟩
  · exact dTold_ok
  · exact dErr_ok lits_ok.1 (by omega)
  · exact dErr_ok lits_ok.2.1 (by omega)
  · exact dErr_ok lits_ok.2.1 (by omega)
def spOutcome (K : PySem.W.Frag) : Sp := fun vs H Q _ => ∃ (n : Nat) (a af as : Addr) (arcs : List Cir.Arc) (xs ys : List Int), vs = [.int (n : Int), .ref a, .ref af, .ref as] ∧ ArcsAt K H a arcs ∧ SqL K H af (xs.map V.int) ∧ SqL K H as (ys.map V.int) ∧
  arcs.length = xs.length ∧ arcs.length = ys.length ∧ arcs.length ≤ 10000 ∧ n ≤ 10000 ∧
  ∀ (d : PyData) (p : Addr) (H' : Hp), OutE n arcs xs ys d → Fr [] H H' → Dp K H' (.ref p) d → Q (.ref p) H'
/-- the lists of a network that is drawn: arcs at pa, amounts at px and py -/
structure NetP (b c pa px py : Addr) (H H' : Hp) (ts : List Addr) (as : List Cir.Arc) (xs ys : List Int) : Prop where
  fr : Fr [b] H H'
  bag : BagC H' b c
  la : H' pa = some (.lst (ts.map V.ref))
  lx : H' px = some (.lst (xs.map V.int))
  ly : H' py = some (.lst (ys.map V.int))
  ln : ts.length = as.length
  tup : ∀ (k : Nat) (t : Addr) (p : Cir.Arc), ts[k]? = some t → as[k]? = some p → H' t = some (.tup [.int p.1, .int p.2])
  na : H pa = none
  nx : H px = none
  ny : H py = none
  nax : pa ≠ px
  nay : pa ≠ py
  nxy : px ≠ py
  bag0 : BagC H b c
section
variable {b c pa px py q : Addr} {H H1 H2 : Hp} {ts : List Addr} {as : List Cir.Arc} {xs ys : List Int} {o : HO}
theorem NetP.t (h : NetP b c pa px py H H1 ts as xs ys) {t : Addr} (ht : t ∈ ts) : ∃ l, H1 t = some (.tup l) := by
  obtain ⟨k, hk⟩ := List.mem_iff_getElem?.mp ht
  have hl : k < as.length := by
    rw [← h.ln]
    exact (List.getElem?_eq_some_iff.mp hk).1
  exact ⟨_, h.tup k t _ hk (Cir.get_arc hl)⟩
theorem NetP.pab (h : NetP b c pa px py H H1 ts as xs ys) : pa ≠ b := h.bag0.neb h.na
theorem NetP.pac (h : NetP b c pa px py H H1 ts as xs ys) : pa ≠ c := h.bag0.nec h.na
theorem NetP.pxb (h : NetP b c pa px py H H1 ts as xs ys) : px ≠ b := h.bag0.neb h.nx
theorem NetP.pxc (h : NetP b c pa px py H H1 ts as xs ys) : px ≠ c := h.bag0.nec h.nx
theorem NetP.pyb (h : NetP b c pa px py H H1 ts as xs ys) : py ≠ b := h.bag0.neb h.ny
theorem NetP.pyc (h : NetP b c pa px py H H1 ts as xs ys) : py ≠ c := h.bag0.nec h.ny
theorem NetP.take (h : NetP b c pa px py H H1 ts as xs ys) (e : Fr [b] H1 H2) (hB : BagC H2 b c) : NetP b c pa px py H H2 ts as xs ys := by
  refine ⟨h.fr.trans e, hB, e _ _ h.la (by simpa using h.pab), e _ _ h.lx (by simpa using h.pxb), e _ _ h.ly (by simpa using h.pyb), h.ln, fun k t p ht hp => e _ _ (h.tup k t p ht hp) ?_, h.na, h.nx, h.ny, h.nax, h.nay, h.nxy, h.bag0⟩
  obtain ⟨i, v, s, hb⟩ := h.bag.b
  have := ne_of (h.tup k t p ht hp) hb (by intro z; cases z)
  simpa using this
theorem NetP.side (h : NetP b c pa px py H H1 ts as xs ys) (ha : q ≠ pa) (hx : q ≠ px) (hy : q ≠ py) (hb : q ≠ b) (hc : q ≠ c) (h0 : H q = none) (ht : ∀ t ∈ ts, t ≠ q) : NetP b c pa px py H (upd H1 q o) ts as xs ys := by
  refine ⟨h.fr.put (.inr h0), h.bag.put hb hc, by rw [upd_ne ha.symm]; exact h.la, by rw [upd_ne hx.symm]; exact h.lx, by rw [upd_ne hy.symm]; exact h.ly, h.ln, fun k t p ht2 hp => ?_, h.na, h.nx, h.ny, h.nax, h.nay, h.nxy, h.bag0⟩
  rw [upd_ne (ht t (List.mem_of_getElem? ht2))]
  exact h.tup k t p ht2 hp
theorem fr_free {b q : Addr} {H H1 : Hp} (h : Fr [b] H H1) (hb : q ≠ b) (h1 : H1 q = none) : H q = none := by
  cases z : H q with
  | none => rfl
  | some u =>
    rw [h q u z (by simpa using hb)] at h1
    cases h1
theorem NetP.new (h : NetP b c pa px py H H1 ts as xs ys) (hq : H1 q = none) : NetP b c pa px py H (upd H1 q o) ts as xs ys := by
  refine h.side (ne_of_none h.la hq).symm (ne_of_none h.lx hq).symm (ne_of_none h.ly hq).symm (h.bag.neb hq) (h.bag.nec hq) (fr_free h.fr (h.bag.neb hq) hq) fun t ht => ?_
  obtain ⟨l, z⟩ := h.t ht
  exact ne_of_none z hq
theorem NetP.lst (h : NetP b c pa px py H H1 ts as xs ys) {l : List V} (hq : H1 q = some (.lst l)) (ha : q ≠ pa) (hx : q ≠ px) (hy : q ≠ py) (hb : q ≠ b) (hc : q ≠ c) (h0 : H q = none) : NetP b c pa px py H (upd H1 q o) ts as xs ys := by
  refine h.side ha hx hy hb hc h0 fun t ht => ?_
  obtain ⟨l', z⟩ := h.t ht
  exact ne_of z hq (by intro e; cases e)
theorem NetP.amt (h : NetP b c pa px py H H1 ts as xs ys) (k : Nat) (y : Int) : NetP b c pa px py H (upd H1 px (.lst ((xs.map V.int).set k (.int y)))) ts as (xs.set k y) ys := by
  refine ⟨h.fr.put (.inr h.nx), h.bag.put h.pxb h.pxc, by rw [upd_ne h.nax]; exact h.la, by rw [upd_same, List.map_set], by rw [upd_ne h.nxy.symm]; exact h.ly, h.ln, fun j t p ht hp => ?_, h.na, h.nx, h.ny, h.nax, h.nay, h.nxy, h.bag0⟩
  rw [upd_ne (ne_of (h.tup j t p ht hp) h.lx (by intro e; cases e))]
  exact h.tup j t p ht hp
theorem NetP.amt2 (h : NetP b c pa px py H H1 ts as xs ys) (k : Nat) (y : Int) : NetP b c pa px py H (upd H1 py (.lst ((ys.map V.int).set k (.int y)))) ts as xs (ys.set k y) := by
  refine ⟨h.fr.put (.inr h.ny), h.bag.put h.pyb h.pyc, by rw [upd_ne h.nay]; exact h.la, by rw [upd_ne h.nxy]; exact h.lx, by rw [upd_same, List.map_set], h.ln, fun j t p ht hp => ?_, h.na, h.nx, h.ny, h.nax, h.nay, h.nxy, h.bag0⟩
  rw [upd_ne (ne_of (h.tup j t p ht hp) h.ly (by intro e; cases e))]
  exact h.tup j t p ht hp
theorem NetP.arc (h : NetP b c pa px py H H1 ts as xs ys) {t0 : Addr} {e : Cir.Arc} (ht : H1 t0 = some (.tup [.int e.1, .int e.2])) :
    NetP b c pa px py H (upd (upd (upd H1 pa (.lst (ts.map V.ref ++ [.ref t0]))) px (.lst (xs.map V.int ++ [.int 0]))) py (.lst (ys.map V.int ++ [.int 0]))) (ts ++ [t0]) (as ++ [e]) (xs ++ [0]) (ys ++ [0]) := by
  have u : ∀ {t : Addr} {l : List V}, H1 t = some (.tup l) → (upd (upd (upd H1 pa (.lst (ts.map V.ref ++ [.ref t0]))) px (.lst (xs.map V.int ++ [.int 0]))) py (.lst (ys.map V.int ++ [.int 0]))) t = some (.tup l) := fun {t l} z => by
    rw [upd_ne (ne_of z h.ly (by intro e; cases e)), upd_ne (ne_of z h.lx (by intro e; cases e)), upd_ne (ne_of z h.la (by intro e; cases e))]
    exact z
  refine ⟨((h.fr.put (.inr h.na)).put (.inr h.nx)).put (.inr h.ny), ((h.bag.put h.pab h.pac).put h.pxb h.pxc).put h.pyb h.pyc, by rw [upd_ne h.nay, upd_ne h.nax, upd_same, List.map_append]; rfl, by rw [upd_ne h.nxy, upd_same, List.map_append]; rfl, by rw [upd_same, List.map_append]; rfl, by simp [h.ln], fun j t p ht2 hp => ?_, h.na, h.nx, h.ny, h.nax, h.nay, h.nxy, h.bag0⟩
  rcases Cir.getElem?_snoc_last ht2 with ⟨hl, z⟩ | ⟨rfl, rfl⟩
  · rw [List.getElem?_append_left (by rw [← h.ln]; exact hl)] at hp
    exact u (h.tup j t p z hp)
  · rw [h.ln, List.getElem?_append_right (Nat.le_refl _), Nat.sub_self] at hp
    cases Option.some.inj hp
    exact u ht
end
structure NetQ (n : Nat) (d : Int) (c : Nat) (as : List Cir.Arc) (xs : List Int) : Prop where
  len : as.length = xs.length
  good : ∀ k, k < as.length → Cir.Good n (Cir.arcOf as k)
  few : as.length ≤ c
  size : ∀ k, k < xs.length → -(2 * d * c) ≤ Cir.part xs k ∧ Cir.part xs k ≤ 2 * d * c
theorem NetQ.of {n c c' : Nat} {d : Int} {as : List Cir.Arc} {xs : List Int} (h : Cir.NetOk n d c as xs) (hd : 0 < d) (le : c ≤ c') : NetQ n d c' as xs := by
  refine ⟨h.len, h.good, Nat.le_trans h.few le, fun k hk => ?_⟩
  have := h.size k hk
  have m : 2 * d * (c : Int) ≤ 2 * d * (c' : Int) := Int.mul_le_mul_of_nonneg_left (by omega) (by omega)
  omega
/-- the greatest size of a drawn part -/
def BIG : Int := 10 ^ 30 + 3
def spPair (K : PySem.W.Frag) : Sp := fun vs H Q _ => ∃ (b c : Addr) (n r l : Nat), vs = [.ref b, .int (n : Int), .int (r : Int), .int (l : Int)] ∧ BagC H b c ∧ 2 ≤ n ∧ n ≤ 60 ∧ r ≤ 8 ∧ 2 ≤ l ∧ l ≤ 37 ∧
  ∀ (p pa px py : Addr) (ts : List Addr) (as : List Cir.Arc) (xs ys : List Int) (H' : Hp), NetP b c pa px py H H' ts as xs ys → H' p = some (.lst [.ref pa, .ref px, .ref py]) → NetQ n BIG 296 as xs → NetQ n BIG 296 as ys → (∀ v, Cir.net as xs v = 0) → (∀ v, Cir.net as ys v = 0) → Q (.ref p) H'
/-- x if c else y, read as one number -/
theorem tIf_q {t : TT} {ta tb : TE} {σ : L2.St} {H : Hp} {Q : VK} (c : Bool) (x y : Int) (ht : ∀ R : Bool → Hp → Prop, R c H → t σ H R) (hx : ∀ R : VK, R (.int x) H → ta σ H R) (hy : ∀ R : VK, R (.int y) H → tb σ H R)
    (h : Q (.int (if c = true then x else y)) H) : tIf t ta tb σ H Q := by
  refine ht _ ?_
  cases c with
  | true => exact iteT (hx _ (by simpa using h))
  | false => exact iteF (hy _ (by simpa using h))
/-- the node that the round reaches with its j-th arc -/
def ndAt (os : List Int) (sz j : Nat) : Int := if j < sz then Cir.part os j else Cir.part os 0
theorem dp_arcsP {K : PySem.W.Frag} {b c pa px py : Addr} {H H1 : Hp} {ts : List Addr} {as : List Cir.Arc} {xs ys : List Int} (h : NetP b c pa px py H H1 ts as xs ys) : Dp K H1 (.ref pa) (dPrs as) :=
  .lst (SqL.of h.la) (dpa_prs ts as h.ln fun k t p a b => SqT.of (h.tup k t p a b))
section
variable {P : Program} {w : World} {K : PySem.W.Frag} {mg : Str → Option Value} {base : Heap} {CD CA CU CB : Addr}
theorem ok_law_outcome {f : Addr} {fd : FuncData} (F : Fun K "_law_outcome" "_law_outcome" s_law_outcome f fd) (T : TxtL P K mg CD CA CU CB) (F_exchanges : FnB P w K mg base (L2.CX P w) 4 "exchanges" ["count", "arcs", "first", "second"] (spExch K CA CU)) :
    FnOk P w K mg base CX0 5 f fd ["count", "arcs", "first", "second"] (spOutcome K) := by
  refine F.ok sc_law_outcome (fun vs H Q E h => ?_) (fun cdv A outer s H vs Q E hr h => ?_)
  · obtain ⟨n, a, af, as, arcs, xs, ys, rfl, _⟩ := h
    rfl
  · obtain ⟨n, a, af, as, arcs, xs, ys, rfl, hA, hX, hY, hlx, hly, hl, hn, k⟩ := h
    obtain ⟨fA, TA⟩ := T.arc
    obtain ⟨fU, TU⟩ := T.unb
    have TX1 := xfB_ok TA.xf
    have TX2 := xfB_ok TU.xf
    have TN1 := TA.noF "arc" (by simp)
    have TN2 := TU.noF "node" (by simp)
    refine ⟨_, (Evl.pss_cut (ps_try_gen rfl rfl sc_law_outcome.nd takes0
      (fun W pn xe tk po => (pss_one (ps_set (i := 4) sc_law_outcome.nd rfl (Or.inl rfl) (pe_callFS F_exchanges (hr.mono (by decide)) rfl (fun σ => passAt tk σ) (pa_cons (pv 0) (pa_cons (pv 1) (pa_cons (pv 2) (pa_cons (pv 3) pa_nil))))))))
      (HdsG.named (i := 5) ⟨rfl, by decide, .inl TA.gC⟩ rfl rfl (fun a oe cls d pn hz hf => (pss_one (ps_ret (pe_lst (pa_cons pe_str (pa_cons (pe_xf TX1 TN1 hz hf (pv 5)) (pa_cons (pe_callB (call_isX T.h1 T.h2 hz hf) (by rfl) T.m_isinstance (by decide +kernel) (pa_cons (pv 5) (pa_cons (pe_glob (v := .ref _) rfl T.g_DealError rfl) pa_nil))) (pa_cons (pe_or (pe_callB (call_isX T.h1 T.h2 hz hf) (by rfl) T.m_isinstance (by decide +kernel) (pa_cons (pv 5) (pa_cons (pe_glob (v := .ref _) rfl TU.gC rfl) pa_nil))) (pe_one (pe_callB (call_isX T.h1 T.h2 hz hf) (by rfl) T.m_isinstance (by decide +kernel) (pa_cons (pv 5) (pa_cons (pe_glob (v := .ref _) rfl T.g_BadNumber rfl) pa_nil))))) pa_nil)))))))) (HdsG.named (i := 5) ⟨rfl, by decide, .inl TU.gC⟩ rfl rfl (fun a oe cls d pn hz hf => (pss_one (ps_ret (pe_lst (pa_cons pe_str (pa_cons (pe_xf TX2 TN2 hz hf (pv 5)) (pa_cons (pe_callB (call_isX T.h1 T.h2 hz hf) (by rfl) T.m_isinstance (by decide +kernel) (pa_cons (pv 5) (pa_cons (pe_glob (v := .ref _) rfl T.g_DealError rfl) pa_nil))) (pa_cons (pe_or (pe_callB (call_isX T.h1 T.h2 hz hf) (by rfl) T.m_isinstance (by decide +kernel) (pa_cons (pv 5) (pa_cons (pe_glob (v := .ref _) rfl TA.gC rfl) pa_nil))) (pe_one (pe_callB (call_isX T.h1 T.h2 hz hf) (by rfl) T.m_isinstance (by decide +kernel) (pa_cons (pv 5) (pa_cons (pe_glob (v := .ref _) rfl T.g_BadNumber rfl) pa_nil))))) pa_nil)))))))) (HdsG.plain ⟨rfl, by decide, .inl T.g_DealError⟩ (fun a oe cls d pn hz hf => (pss_one (ps_ret (pe_lst (pa_cons pe_str pa_nil))))) HdsG.nil))))
    (pss_one (ps_ret (pe_lst (pa_cons pe_str (pa_cons (pe_callB call_isi (by rfl) T.m_isinstance (by decide +kernel) (pa_cons (pv 4) (pa_cons (pe_bltn (v := .ty "list") (by rfl) T.m_list (by decide +kernel) rfl) pa_nil))) pa_nil)))))), ?_⟩
    have node : ∀ (v : Nat) (dd : Addr) (H1 : Hp), OutE n arcs xs ys (dErr "node" v) → Fr [] H H1 → H1 dd = some (.xd [(("node" : Str), .int (v : Int))]) → ∀ p, H1 p = none → Q (.ref p) (upd H1 p (.lst [.str "node", .int (v : Int), .bl true, .bl false])) := fun v dd H1 ho e1 hx p hp =>
      k _ _ _ ho (e1.new hp) (.lst (SqL.of upd_same) (.cons (.str _) (.cons (.int _) (.cons (.bl _) (.cons (.bl _) .nil)))))
    refine ⟨fun σ' H' => ∃ (p : Addr) (rs : List Addr), Fr [] H H' ∧ OutE n arcs xs ys dTold ∧ H' p = some (.lst (rs.map V.ref)) ∧ σ' = [some (.int (n : Int)), some (.ref a), some (.ref af), some (.ref as), some (.ref p), none], ?_, ?_⟩
    · refine ⟨_, rfl, _, rfl, _, rfl, _, rfl, n, a, af, as, arcs, xs, ys, rfl, hA, hX, hY, hlx, hly, hl, hn, fun hg hb1 hb2 p H1 np e1 h1 => ?_, fun i hi hb hlow dd H1 e1 hx => ?_, fun hg v hv hb hlow dd H1 e1 hx => ?_, fun hg h0 v hv hb hlow dd H1 e1 hx => ?_⟩
      · obtain ⟨rs, h1, _⟩ := h1
        exact ⟨p, rs, e1, .inl ⟨rfl, hg, hb1, hb2⟩, h1, rfl⟩
      · refine ⟨true, TA.te, fun _ e0 he0 => ?_, fun z => by cases z⟩
        refine ⟨_, rfl, rfl, rfl, dd, _, _, rfl, hx, rfl, ?_⟩
        refine ⟨_, rfl, CA, dd, _, _, .ref CD, true, rfl, rfl, rfl, (fun u h => h), T.kAD, hx, ⟨T.iA.c, T.iA.m, TA.xf⟩, ?_⟩
        refine ⟨_, rfl, CA, dd, _, _, .ref CU, false, rfl, rfl, rfl, (fun u h => h), T.kAU, hx, ⟨T.iA.c, T.iA.m, TA.xf⟩, ?_⟩
        refine ⟨_, rfl, iteF ⟨_, rfl, CA, dd, _, _, .ref CB, false, rfl, rfl, rfl, (fun u h => h), T.kAB, hx, ⟨T.iA.c, T.iA.m, TA.xf⟩, ?_⟩⟩
        refine ⟨by show 4 ≤ sizeLine; decide, fun p hp => ?_⟩
        exact k _ _ _ (.inr (.inl ⟨i, rfl, hi, hb, hlow⟩)) (e1.new hp) (.lst (SqL.of upd_same) (.cons (.str _) (.cons (.int _) (.cons (.bl _) (.cons (.bl _) .nil)))))
      · refine ⟨false, T.eUA, (fun z => by cases z), fun _ => ⟨true, TU.te, fun _ e0 he0 => ?_, fun z => by cases z⟩⟩
        refine ⟨_, rfl, rfl, rfl, dd, _, _, rfl, hx, rfl, ?_⟩
        refine ⟨_, rfl, CU, dd, _, _, .ref CD, true, rfl, rfl, rfl, (fun u h => h), T.kUD, hx, ⟨T.iU.c, T.iU.m, TU.xf⟩, ?_⟩
        refine ⟨_, rfl, CU, dd, _, _, .ref CA, false, rfl, rfl, rfl, (fun u h => h), T.kUA, hx, ⟨T.iU.c, T.iU.m, TU.xf⟩, ?_⟩
        refine ⟨_, rfl, iteF ⟨_, rfl, CU, dd, _, _, .ref CB, false, rfl, rfl, rfl, (fun u h => h), T.kUB, hx, ⟨T.iU.c, T.iU.m, TU.xf⟩, ?_⟩⟩
        exact ⟨by show 4 ≤ sizeLine; decide, fun p hp => node v dd H1 (.inr (.inr (.inl ⟨v, rfl, hg, hv, hb, hlow⟩))) e1 hx p hp⟩
      · refine ⟨false, T.eUA, (fun z => by cases z), fun _ => ⟨true, TU.te, fun _ e0 he0 => ?_, fun z => by cases z⟩⟩
        refine ⟨_, rfl, rfl, rfl, dd, _, _, rfl, hx, rfl, ?_⟩
        refine ⟨_, rfl, CU, dd, _, _, .ref CD, true, rfl, rfl, rfl, (fun u h => h), T.kUD, hx, ⟨T.iU.c, T.iU.m, TU.xf⟩, ?_⟩
        refine ⟨_, rfl, CU, dd, _, _, .ref CA, false, rfl, rfl, rfl, (fun u h => h), T.kUA, hx, ⟨T.iU.c, T.iU.m, TU.xf⟩, ?_⟩
        refine ⟨_, rfl, iteF ⟨_, rfl, CU, dd, _, _, .ref CB, false, rfl, rfl, rfl, (fun u h => h), T.kUB, hx, ⟨T.iU.c, T.iU.m, TU.xf⟩, ?_⟩⟩
        exact ⟨by show 4 ≤ sizeLine; decide, fun p hp => node v dd H1 (.inr (.inr (.inr ⟨v, rfl, hg, h0, hv, hb, hlow⟩))) e1 hx p hp⟩
    · rintro σ' H' ⟨p, rs, e1, ho, h1, rfl⟩
      refine ⟨_, rfl, _, _, _, _, true, rfl, .ty _, .base (.lst h1), kit_ty (by decide +kernel), ?_⟩
      refine ⟨by show 2 ≤ sizeLine; decide, fun q hq => ?_⟩
      exact k _ _ _ ho (e1.new hq) (.lst (SqL.of upd_same) (.cons (.str _) (.cons (.bl _) .nil)))
end
theorem big_pos : 0 < BIG := by decide
section
variable {P : Program} {w : World} {K : PySem.W.Frag} {mg : Str → Option Value} {base : Heap} {CA CU : Addr}
theorem ok_law_pair {f : Addr} {fd : FuncData} (F : Fun K "_law_pair" "_law_pair" s_law_pair f fd) (T : Txt P K mg CA CU) (F_law_take : FnB P w K mg base CX0 1 "_law_take" ["bag", "many"] spTake) :
    FnOk P w K mg base CX0 2 f fd ["bag", "count", "rounds", "longest"] (spPair K) := by
  refine F.ok sc_law_pair (fun vs H Q E h => ?_) (fun cdv A outer s H vs Q E hr h => ?_)
  · obtain ⟨b, c, n, r, l, rfl, _⟩ := h
    rfl
  · obtain ⟨b, c, n, r, l, rfl, hB, hn2, hn, hr8, hl2, hl37, k⟩ := h
    have hu65 : (A.deeper (envOfC "_law_pair" (defScope s_law_pair) s.heap.objs.size f cdv)).units + 65 < cLine := by have := hr.un; omega
    refine ⟨_, (pss_cons (ps_set (i := 4) sc_law_pair.nd rfl (Or.inl rfl) (pe_lst pa_nil))
    (pss_cons (ps_set (i := 5) sc_law_pair.nd rfl (Or.inl rfl) (pe_lst pa_nil))
    (pss_cons (ps_set (i := 6) sc_law_pair.nd rfl (Or.inl rfl) (pe_lst pa_nil))
    (pss_cons (ps_set (i := 7) sc_law_pair.nd rfl (Or.inl rfl) pe_int)
    (Evl.pss_cut (ps_if (pt_cmpR op_eq (pe_callF F_law_take (hr.mono (by decide)) rfl pass0 (pa_cons (pv 0) (pa_cons pe_int pa_nil))) pe_int (nomark _))
      (pss_one (ps_set (i := 7) sc_law_pair.nd rfl (Or.inl rfl) (pe_op op_pow pe_int pe_int)))
      pss_nil)
    (pss_cons (ps_for PassesOwn.never rfl (pi_range1 (by rfl) T.m_range (pa_cons (pv 2) pa_nil)) (pg_name (i := 8) sc_law_pair.nd rfl (Or.inl rfl))
      (pss_cons (ps_set (i := 9) sc_law_pair.nd rfl (Or.inl rfl) (pe_listRg rfl (by rfl) T.m_list (prg_1 (by rfl) T.m_range (pv 1))))
      (pss_cons (ps_set (i := 10) sc_law_pair.nd rfl (Or.inl rfl) (pe_op op_add pe_int (pe_callF F_law_take (hr.mono (by decide)) rfl pass0 (pa_cons (pv 0) (pa_cons (pe_op op_sub (pe_callB (call_min2 rfl) (by rfl) T.m_min (by decide +kernel) (pa_cons (pv 1) (pa_cons (pv 3) pa_nil))) pe_int) pa_nil)))))
      (pss_cons (ps_for PassesOwn.never rfl (pi_range1 (by rfl) T.m_range (pa_cons (pv 10) pa_nil)) (pg_name (i := 11) sc_law_pair.nd rfl (Or.inl rfl))
        (pss_cons (ps_set (i := 12) sc_law_pair.nd rfl (Or.inl rfl) (pe_op op_add (pv 11) (pe_callF F_law_take (hr.mono (by decide)) rfl pass0 (pa_cons (pv 0) (pa_cons (pe_op op_sub (pv 1) (pv 11)) pa_nil)))))
        (pss_cons (ps_set (i := 13) sc_law_pair.nd rfl (Or.inl rfl) (pe_ix ix_list (pv 9) (pv 11) (fun _ _ => rfl)))
        (pss_cons (ps_asg (pe_ix ix_list (pv 9) (pv 12) (fun _ _ => rfl)) (pg_sub (pv 9) (pv 11) set_list))
        (pss_one (ps_asg (pv 13) (pg_sub (pv 9) (pv 12) set_list)))))))
      (pss_cons (ps_set (i := 14) sc_law_pair.nd rfl (Or.inl rfl) (pe_lst (pa_cons (pe_op op_sub (pe_callF F_law_take (hr.mono (by decide)) rfl pass0 (pa_cons (pv 0) (pa_cons pe_int pa_nil))) pe_int) (pa_cons (pe_op op_add (pe_op op_sub (pe_callF F_law_take (hr.mono (by decide)) rfl pass0 (pa_cons (pv 0) (pa_cons pe_int pa_nil))) pe_int) (pe_op op_mul (pv 7) (pe_op op_sub (pe_callF F_law_take (hr.mono (by decide)) rfl pass0 (pa_cons (pv 0) (pa_cons pe_int pa_nil))) pe_int))) pa_nil))))
      (pss_one (ps_for PassesOwn.never rfl (pi_range1 (by rfl) T.m_range (pa_cons (pv 10) pa_nil)) (pg_name (i := 11) sc_law_pair.nd rfl (Or.inl rfl))
        (pss_cons (ps_set (i := 15) sc_law_pair.nd rfl (Or.inl rfl) (pe_tup (pa_cons (pe_ix ix_list (pv 9) (pv 11) (fun _ _ => rfl)) (pa_cons (pe_ix ix_list (pv 9) (pe_ifExp (pt_cmpR op_lt (pe_op op_add (pv 11) pe_int) (pv 10) (nomark _)) (pe_op op_add (pv 11) pe_int) pe_int) (fun _ _ => rfl)) pa_nil))))
        (pss_cons (ps_set (i := 16) sc_law_pair.nd rfl (Or.inl rfl) pe_int)
        (Evl.pss_cut (ps_if (pt_cmpR op_eq (pe_callF F_law_take (hr.mono (by decide)) rfl pass0 (pa_cons (pv 0) (pa_cons pe_int pa_nil))) pe_int (nomark _))
          (pss_cons (ps_set (i := 15) sc_law_pair.nd rfl (Or.inl rfl) (pe_tup (pa_cons (pe_ix ix_tup (pv 15) pe_int (fun _ _ => rfl)) (pa_cons (pe_ix ix_tup (pv 15) pe_int (fun _ _ => rfl)) pa_nil))))
          (pss_one (ps_set (i := 16) sc_law_pair.nd rfl (Or.inl rfl) (pe_un un_neg pe_int))))
          pss_nil)
        (pss_cons (ps_set (i := 17) sc_law_pair.nd rfl (Or.inl rfl) (pe_callB call_len_seq (by rfl) T.m_len (by decide +kernel) (pa_cons (pv 4) pa_nil)))
        (Evl.pss_cut (ps_if (PW.pt (pw_and (pt_cmpR (op_inD hu65) (pv 15) (pv 4) rfl) (pw_and1 (pt_cmpR op_gt (pe_callF F_law_take (hr.mono (by decide)) rfl pass0 (pa_cons (pv 0) (pa_cons pe_int pa_nil))) pe_int (nomark _)))))
          (pss_one (ps_set (i := 17) sc_law_pair.nd rfl (Or.inl rfl) (pe_bm PySem.F.plainAttrs_list PySem.F.slot_list_index PySem.F.type_list_index (mt_indexD hu65) (pv 4) (pa_cons (pv 15) pa_nil))))
          pss_nil)
        (Evl.pss_cut (ps_if (pt_cmpR op_eq (pv 17) (pe_callB call_len_seq (by rfl) T.m_len (by decide +kernel) (pa_cons (pv 4) pa_nil)) (nomark _))
          (pss_cons (ps_expr (pe_bm PySem.F.plainAttrs_list PySem.F.slot_list_append PySem.F.type_list_append mt_append (pv 4) (pa_cons (pv 15) pa_nil)))
          (pss_cons (ps_expr (pe_bm PySem.F.plainAttrs_list PySem.F.slot_list_append PySem.F.type_list_append mt_append (pv 5) (pa_cons pe_int pa_nil)))
          (pss_one (ps_expr (pe_bm PySem.F.plainAttrs_list PySem.F.slot_list_append PySem.F.type_list_append mt_append (pv 6) (pa_cons pe_int pa_nil))))))
          pss_nil)
        (pss_cons (ps_asg (pe_op op_add (pe_ix ix_list (pv 5) (pv 17) (fun _ _ => rfl)) (pe_op op_mul (pv 16) (pe_ix ix_list (pv 14) pe_int (fun _ _ => rfl)))) (pg_sub (pv 5) (pv 17) set_list))
        (pss_one (ps_asg (pe_op op_add (pe_ix ix_list (pv 6) (pv 17) (fun _ _ => rfl)) (pe_op op_mul (pv 16) (pe_ix ix_list (pv 14) pe_int (fun _ _ => rfl)))) (pg_sub (pv 6) (pv 17) set_list)))))))))))))))))
    (pss_one (ps_ret (pe_lst (pa_cons (pv 4) (pa_cons (pv 5) (pa_cons (pv 6) pa_nil)))))))))))), ?_⟩
    refine ⟨by show 0 ≤ sizeLine; exact Nat.zero_le _, fun pa hpa => ⟨by show 0 ≤ sizeLine; exact Nat.zero_le _, fun px hpx => ⟨by show 0 ≤ sizeLine; exact Nat.zero_le _, fun py hpy => ?_⟩⟩⟩
    have N0 : NetP b c pa px py H (upd (upd (upd H pa (.lst [])) px (.lst [])) py (.lst [])) [] [] [] [] := by
      have nax : pa ≠ px := ne_of_none upd_same hpx
      have nxy : px ≠ py := ne_of_none upd_same hpy
      have nay : pa ≠ py := ne_of_none (o := .lst []) (by rw [upd_ne nax]; exact upd_same) hpy
      have hx0 : H px = none := ((Fr.refl [] H).new hpa).free hpx
      have hy0 : H py = none := (((Fr.refl [] H).new hpa).new hpx).free hpy
      exact ⟨(((Fr.refl _ H).new hpa).new hpx).new hpy, ((hB.new hpa).new hpx).new hpy, by rw [upd_ne nay, upd_ne nax]; exact upd_same, by rw [upd_ne nxy]; exact upd_same, upd_same, rfl, fun k t p a => by simp at a, hpa, hx0, hy0, nax, nay, nxy, hB⟩
    generalize upd (upd (upd H pa (.lst [])) px (.lst [])) py (.lst []) = H1 at N0 ⊢
    clear hpa hpx hpy
    refine ⟨fun σ' H' => ∃ g : Int, 0 ≤ g ∧ g ≤ 10 ^ 30 ∧ NetP b c pa px py H H' [] [] [] [] ∧ σ' = [some (.ref b), some (.int (n : Int)), some (.int (r : Int)), some (.int (l : Int)), some (.ref pa), some (.ref px), some (.ref py), some (.int g), none, none, none, none, none, none, none, none, none, none], ?_, ?_⟩
    · refine ⟨_, rfl, b, c, 8, rfl, N0.bag, by decide, by decide, fun z H2 z0 z1 e2 B2 => ⟨rfl, _, rfl, eq_if (fun _ => ?_) fun _ => ⟨0, by decide, by decide, N0.take e2 B2, rfl⟩⟩⟩
      exact ⟨_, _, rfl, rfl, ⟨by decide, by decide, by decide⟩, 10 ^ (30 : Int).toNat, by decide, by decide, N0.take e2 B2, rfl⟩
    clear N0
    rintro σ' H1 ⟨g, g0, g1, N0, rfl⟩
    refine ⟨_, rfl, _, rfl, (rg_ok (by omega)).1, (rg_ok (by omega)).2, for_rng (n := r)
      (fun i σ H' => ∃ (ts : List Addr) (as : List Cir.Arc) (xs ys : List Int), NetP b c pa px py H H' ts as xs ys ∧ Cir.NetOk n BIG (37 * i) as xs ∧ Cir.NetOk n BIG (37 * i) as ys ∧ (∀ v, Cir.net as xs v = 0) ∧ (∀ v, Cir.net as ys v = 0) ∧ ∃ o8 o9 o10 o11 o12 o13 o14 o15 o16 o17 : Option V,
        σ = [some (.ref b), some (.int (n : Int)), some (.int (r : Int)), some (.int (l : Int)), some (.ref pa), some (.ref px), some (.ref py), some (.int g), o8, o9, o10, o11, o12, o13, o14, o15, o16, o17])
      ⟨[], [], [], [], N0, Cir.NetOk.zero _ _, Cir.NetOk.zero _ _, fun v => rfl, fun v => rfl, _, _, _, _, _, _, _, _, _, _, rfl⟩ ?_ ?_⟩
    · rintro i σ H1 hi ⟨ts, as, xs, ys, N, ok, ok', bal, bal', o8, o9, o10, o11, o12, o13, o14, o15, o16, o17, rfl⟩
      refine ⟨_, rfl, _, rfl, RgOk.of_le (by omega) (by omega) (by omega) (by omega), fun po hpo => ?_⟩
      have N2 := N.new (o := .lst (rgV 0 (n : Int))) hpo
      have pA : po ≠ pa := (ne_of_none N.la hpo).symm
      have pX : po ≠ px := (ne_of_none N.lx hpo).symm
      have pY : po ≠ py := (ne_of_none N.ly hpo).symm
      have pB : po ≠ b := N.bag.neb hpo
      have pC : po ≠ c := N.bag.nec hpo
      have p0 : H po = none := fr_free N.fr pB hpo
      have hp2 : (upd H1 po (.lst (rgV 0 (n : Int)))) po = some (.lst (((List.range n).map fun (i : Nat) => (i : Int)).map V.int)) := by
        rw [upd_same, List.map_map]
        unfold rgV
        rw [show ((n : Int) - 0).toNat = n by omega]
        simp
      generalize upd H1 po (.lst (rgV 0 (n : Int))) = H2 at N2 hp2 ⊢
      have o2 := Cir.Ord.base n
      generalize (List.range n).map (fun (i : Nat) => (i : Int)) = os at hp2 o2
      -- size
      refine ⟨_, rfl, _, rfl, _, rfl, _, _, rfl, _, _, rfl, rfl, b, c, _, rfl, N2.bag, ?_, ?_, fun t H3 t0 t1 e3 B3 => ?_⟩
      · split <;> omega
      · refine log_ok (Nat.lt_of_le_of_lt (m := 100) ?_ (by decide))
        split <;> omega
      have N3 := N2.take e3 B3
      have hp3 := e3 _ _ hp2 (by simpa using pB)
      obtain ⟨tn, rfl⟩ : ∃ tn : Nat, t = (tn : Int) := ⟨t.toNat, by omega⟩
      have hsz : 2 + tn ≤ n ∧ 2 + tn ≤ 37 := by
        by_cases h25 : (l : Int) < (n : Int)
        · rw [if_pos h25] at t1
          omega
        · rw [if_neg h25] at t1
          omega
      refine ⟨_, _, rfl, rfl, ?_⟩
      refine ⟨_, rfl, _, rfl, (rg_ok (n := 2 + tn) (by omega)).1, (rg_ok (n := 2 + tn) (by omega)).2, for_rng (n := 2 + tn)
        (fun j σ H' => NetP b c pa px py H H' ts as xs ys ∧ ∃ os : List Int, H' po = some (.lst (os.map V.int)) ∧ Cir.Ord n os ∧ ∃ o11 o12 o13 o14 o15 o16 o17 : Option V,
          σ = [some (.ref b), some (.int (n : Int)), some (.int (r : Int)), some (.int (l : Int)), some (.ref pa), some (.ref px), some (.ref py), some (.int g), some (.int (i : Int)), some (.ref po), some (.int ((2 + tn : Nat) : Int)), o11, o12, o13, o14, o15, o16, o17])
        ⟨N3, os, hp3, o2, _, _, _, _, _, _, _, rfl⟩ ?_ ?_⟩
      · clear hp3 hp2 N3 o2 B3 e3 t0 t1
        generalize hsn : 2 + tn = sz at hsz ⊢
        rintro j σ H4 hj ⟨N4, os, hp4, o4, o11, o12, o13, o14, o15, o16, o17, rfl⟩
        refine ⟨_, rfl, _, rfl, _, rfl, _, rfl, _, _, rfl, rfl, b, c, _, rfl, N4.bag, by omega, log_ok (Nat.lt_of_le_of_lt (m := 100) (by omega) (by decide)), fun t H5 t0 t1 e5 B5 => ?_⟩
        have N5 := N4.take e5 B5
        have hp5 := e5 _ _ hp4 (by simpa using pB)
        obtain ⟨tm, rfl⟩ : ∃ tm : Nat, t = (tm : Int) := ⟨t.toNat, by omega⟩
        have hjn : j < os.length := by rw [o4.len]; omega
        have hon : j + tm < os.length := by rw [o4.len]; omega
        refine ⟨_, _, rfl, rfl, ?_⟩
        refine ⟨_, rfl, _, rfl, _, _, _, _, rfl, rfl, SqL.of hp5, at_part hjn, ?_⟩
        refine ⟨_, rfl, _, rfl, _, _, _, _, rfl, rfl, SqL.of hp5, at_part hon, _, rfl, _, rfl, _, _, _, _, rfl, rfl, hp5, ix_nat (by rw [List.length_map]; exact hjn), ?_⟩
        refine ⟨_, rfl, _, rfl, _, rfl, _, _, _, _, rfl, rfl, upd_same, ix_nat (by rw [List.length_set, List.length_map]; exact hon), ?_⟩
        rw [upd_upd]
        refine ⟨N5.lst hp5 pA pX pY pB pC p0, (os.set j (Cir.part os (j + tm))).set (j + tm) (Cir.part os j), ?_, o4.swap (by omega) (by omega), _, _, _, _, _, _, _, rfl⟩
        rw [upd_same, List.map_set, List.map_set]
      · clear hp3 hp2 N3 o2 B3 e3 t0 t1
        generalize hsn : 2 + tn = sz at hsz ⊢
        rintro σ H4 ⟨N4, os, hp4, o4, o11, o12, o13, o14, o15, o16, o17, rfl⟩
        -- parts
        refine ⟨_, rfl, b, c, 7, rfl, N4.bag, by decide, by decide, fun q0 H5 q00 q01 e5 B5 => ⟨_, _, rfl, rfl, ?_⟩⟩
        have N5 := N4.take e5 B5
        have hp5 := e5 _ _ hp4 (by simpa using pB)
        refine ⟨_, rfl, b, c, 7, rfl, N5.bag, by decide, by decide, fun q1 H6 q10 q11 e6 B6 => ⟨_, _, rfl, rfl, ?_⟩⟩
        have N6 := N5.take e6 B6
        have hp6 := e6 _ _ hp5 (by simpa using pB)
        refine ⟨_, rfl, _, rfl, b, c, 3, rfl, N6.bag, by decide, by decide, fun q2 H7 q20 q21 e7 B7 => ⟨_, _, rfl, rfl, ?_⟩⟩
        have N7 := N6.take e7 B7
        have hp7 := e7 _ _ hp6 (by simpa using pB)
        have w0 : -(2 * BIG) ≤ q0 - 3 ∧ q0 - 3 ≤ 2 * BIG := by unfold BIG; omega
        have w1 : -(2 * BIG) ≤ q1 - 3 + g * (q2 - 1) ∧ q1 - 3 + g * (q2 - 1) ≤ 2 * BIG := by
          have : q2 = 0 ∨ q2 = 1 ∨ q2 = 2 := by omega
          unfold BIG
          rcases this with rfl | rfl | rfl <;> omega
        refine ⟨_, _, rfl, rfl, .inr ⟨by omega, by omega⟩, _, _, rfl, rfl, by show 2 ≤ sizeLine; decide, fun pp hpp => ?_⟩
        dsimp only
        generalize q0 - 3 = w0' at w0 ⊢
        generalize q1 - 3 + g * (q2 - 1) = w1' at w1 ⊢
        have N8 := N7.new (o := .lst [.int w0', .int w1']) hpp
        have hp8 : (upd H7 pp (.lst [.int w0', .int w1'])) po = some (.lst (os.map V.int)) := by rw [upd_ne (ne_of_none hp7 hpp)]; exact hp7
        have hpp8 : (upd H7 pp (.lst [.int w0', .int w1'])) pp = some (.lst [.int w0', .int w1']) := upd_same
        have ppA : pp ≠ pa := (ne_of_none N7.la hpp).symm
        have ppX : pp ≠ px := (ne_of_none N7.lx hpp).symm
        have ppY : pp ≠ py := (ne_of_none N7.ly hpp).symm
        have ppB : pp ≠ b := N7.bag.neb hpp
        generalize upd H7 pp (.lst [.int w0', .int w1']) = H8 at N8 hp8 hpp8 ⊢
        clear N4 N5 N6 N7 hp4 hp5 hp6 hp7 e5 e6 e7 B5 B6 B7 hpp
        refine ⟨_, rfl, _, rfl, (rg_ok (by omega)).1, (rg_ok (by omega)).2, for_rng (n := sz)
          (fun j σ H' => ∃ (ts : List Addr) (as : List Cir.Arc) (xs ys : List Int), NetP b c pa px py H H' ts as xs ys ∧ Cir.NetOk n BIG (37 * i + j) as xs ∧ Cir.NetOk n BIG (37 * i + j) as ys ∧ (∀ v, Cir.net as xs v = w0' * (Cir.ind (ndAt os sz j) v - Cir.ind (ndAt os sz 0) v)) ∧ (∀ v, Cir.net as ys v = w1' * (Cir.ind (ndAt os sz j) v - Cir.ind (ndAt os sz 0) v)) ∧
            H' po = some (.lst (os.map V.int)) ∧ H' pp = some (.lst [.int w0', .int w1']) ∧
            ∃ o11 o15 o16 o17 : Option V, σ = [some (.ref b), some (.int (n : Int)), some (.int (r : Int)), some (.int (l : Int)), some (.ref pa), some (.ref px), some (.ref py), some (.int g), some (.int (i : Int)), some (.ref po), some (.int (sz : Int)), o11, o12, o13, some (.ref pp), o15, o16, o17])
          ⟨ts, as, xs, ys, N8, ok, ok', fun v => by rw [bal v, Int.sub_self, Int.mul_zero], fun v => by rw [bal' v, Int.sub_self, Int.mul_zero], hp8, hpp8, _, _, _, _, rfl⟩ ?_ ?_⟩
        · clear N8 hp8 hpp8 N2 N ok ok' bal bal' o11 o15 o16 o17
          rintro j σ H7 hj ⟨ts, as, xs, ys, N, ok, ok', bal, bal', hp, hpp, o11, o15, o16, o17, rfl⟩
          have hjn : j < os.length := by rw [o4.len]; omega
          have enj : ndAt os sz j = Cir.part os j := if_pos hj
          refine ⟨_, rfl, _, rfl, _, _, _, _, rfl, rfl, SqL.of hp, at_part hjn, _, rfl, ?_⟩
          refine tIf_q (decide ((j : Int) + 1 < (sz : Int))) ((j : Int) + 1) 0 (fun R h => ⟨_, rfl, _, _, rfl, rfl, _, rfl, _, _, rfl, rfl, _, rfl, h⟩) (fun R h => ⟨_, rfl, _, _, rfl, rfl, h⟩) (fun R h => h) ?_
          have at2 : atI (os.map V.int) (if decide ((j : Int) + 1 < (sz : Int)) = true then (j : Int) + 1 else 0) = some (.int (ndAt os sz (j + 1))) := by
            by_cases lt : j + 1 < sz
            · rw [if_pos (decide_eq_true (by omega))]
              unfold ndAt
              rw [if_pos lt]
              exact at_part (k := j + 1) (by rw [o4.len]; omega)
            · rw [if_neg (by simp; omega)]
              unfold ndAt
              rw [if_neg lt]
              exact at_part (k := 0) (by rw [o4.len]; omega)
          have good : Cir.Good n (Cir.part os j, ndAt os sz (j + 1)) := by
            have a1 := o4.at (i := j) (by omega)
            unfold ndAt
            by_cases lt : j + 1 < sz
            · rw [if_pos lt]
              exact ⟨a1, o4.at (by omega), o4.ne (by omega) (by omega) (by omega)⟩
            · rw [if_neg lt]
              exact ⟨a1, o4.at (by omega), o4.ne (by omega) (by omega) (by omega)⟩
          generalize (if decide ((j : Int) + 1 < (sz : Int)) = true then (j : Int) + 1 else 0) = ix at at2 ⊢
          refine ⟨_, _, _, _, rfl, rfl, SqL.of hp, at2, by show 2 ≤ sizeLine; decide, fun t0 ht0 => ?_⟩
          have N8 := N.new (o := .tup [.int (Cir.part os j), .int (ndAt os sz (j + 1))]) ht0
          have hp8 : (upd H7 t0 (.tup [.int (Cir.part os j), .int (ndAt os sz (j + 1))])) po = some (.lst (os.map V.int)) := by rw [upd_ne (ne_of_none hp ht0)]; exact hp
          have hpp8 : (upd H7 t0 (.tup [.int (Cir.part os j), .int (ndAt os sz (j + 1))])) pp = some (.lst [.int w0', .int w1']) := by rw [upd_ne (ne_of_none hpp ht0)]; exact hpp
          have ht8 : (upd H7 t0 (.tup [.int (Cir.part os j), .int (ndAt os sz (j + 1))])) t0 = some (.tup [.int (Cir.part os j), .int (ndAt os sz (j + 1))]) := upd_same
          generalize upd H7 t0 (.tup [.int (Cir.part os j), .int (ndAt os sz (j + 1))]) = H8 at N8 hp8 hpp8 ht8 ⊢
          clear at2
          -- ends, sign
          refine ⟨fun σ' H' => ∃ (t0 : Addr) (e : Cir.Arc) (sg : Int), H' t0 = some (.tup [.int e.1, .int e.2]) ∧ (sg = 1 ∨ sg = -1) ∧ Cir.Good n e ∧ (∀ v, sg * Cir.dlt e v = Cir.ind (ndAt os sz (j + 1)) v - Cir.ind (ndAt os sz j) v) ∧ NetP b c pa px py H H' ts as xs ys ∧ H' po = some (.lst (os.map V.int)) ∧ H' pp = some (.lst [.int w0', .int w1']) ∧
            σ' = [some (.ref b), some (.int (n : Int)), some (.int (r : Int)), some (.int (l : Int)), some (.ref pa), some (.ref px), some (.ref py), some (.int g), some (.int (i : Int)), some (.ref po), some (.int (sz : Int)), some (.int (j : Int)), o12, o13, some (.ref pp), some (.ref t0), some (.int sg), o17], ?_, ?_⟩
          · refine ⟨_, rfl, b, c, 3, rfl, N8.bag, by decide, by decide, fun z H9 z0 z1 e9 B9 => ⟨rfl, _, rfl, ?_⟩⟩
            have N9 := N8.take e9 B9
            have hp9 := e9 _ _ hp8 (by simpa using pB)
            have hpp9 := e9 _ _ hpp8 (by simpa using ppB)
            have ht9 : H9 t0 = some (.tup [.int (Cir.part os j), .int (ndAt os sz (j + 1))]) := e9 _ _ ht8 (by
              obtain ⟨i, v, s, hb⟩ := N8.bag.b
              simpa using ne_of ht8 hb (by intro z; cases z))
            refine eq_if (fun _ => ?_) fun _ => ?_
            · refine ⟨_, rfl, _, _, _, _, rfl, rfl, SqT.of ht9, rfl, _, rfl, _, _, _, _, rfl, rfl, SqT.of ht9, rfl, by show 2 ≤ sizeLine; decide, fun t1 ht1 => ⟨_, rfl, ?_⟩⟩
              refine ⟨t1, (ndAt os sz (j + 1), Cir.part os j), -1, upd_same, .inr rfl, ⟨good.2.1, good.1, Ne.symm good.2.2⟩, fun v => ?_, N9.new ht1, by rw [upd_ne (ne_of_none hp9 ht1)]; exact hp9, by rw [upd_ne (ne_of_none hpp9 ht1)]; exact hpp9, rfl⟩
              unfold Cir.dlt
              rw [enj]
              dsimp only
              omega
            · refine ⟨t0, (Cir.part os j, ndAt os sz (j + 1)), 1, ht9, .inl rfl, good, fun v => ?_, N9, hp9, hpp9, rfl⟩
              unfold Cir.dlt
              rw [enj]
              dsimp only
              omega
          clear N8 hp8 hpp8 ht8 ht0 t0 good N hp hpp
          rintro σ' H8 ⟨t0, e, sg, ht8, hsg, good, ed, N8, hp8, hpp8, rfl⟩
          refine ⟨_, rfl, _, _, rfl, .inl (SqL.of N8.la), ?_⟩
          have hll : (ts.map V.ref).length = as.length := by rw [List.length_map, N8.ln]
          have few := ok.few
          refine ⟨fun σ' H' => ∃ at_ : Nat, (at_ = as.length ∨ at_ < as.length ∧ Cir.arcOf as at_ = e) ∧ NetP b c pa px py H H' ts as xs ys ∧ H' po = some (.lst (os.map V.int)) ∧ H' pp = some (.lst [.int w0', .int w1']) ∧ H' t0 = some (.tup [.int e.1, .int e.2]) ∧
            σ' = [some (.ref b), some (.int (n : Int)), some (.int (r : Int)), some (.int (l : Int)), some (.ref pa), some (.ref px), some (.ref py), some (.int g), some (.int (i : Int)), some (.ref po), some (.int (sz : Int)), some (.int (j : Int)), o12, o13, some (.ref pp), some (.ref t0), some (.int sg), some (.int (at_ : Int))], ?_, ?_⟩
          · refine ⟨_, rfl, _, rfl, dPr e, as.map dPr, dp_pr (SqT.of ht8), dp_arcsP N8, pr_shaped _, prs_shaped _, ?_⟩
            rw [any_pr]
            refine ⟨_, rfl, dec_iff (fun mem => ?_) fun _ => ?_⟩
            · refine ⟨_, rfl, b, c, 3, rfl, N8.bag, by decide, by decide, fun z H9 z0 z1 e9 B9 => ?_⟩
              have N9 := N8.take e9 B9
              have hp9 := e9 _ _ hp8 (by simpa using pB)
              have hpp9 := e9 _ _ hpp8 (by simpa using ppB)
              have ht9 : H9 t0 = some (.tup [.int e.1, .int e.2]) := e9 _ _ ht8 (by
                obtain ⟨i, v, s, hb⟩ := N8.bag.b
                simpa using ne_of ht8 hb (by intro z; cases z))
              refine ⟨_, _, rfl, rfl, _, rfl, dec_iff (fun _ => ?_) fun _ => ⟨as.length, .inl rfl, N9, hp9, hpp9, ht9, by rw [hll]; rfl⟩⟩
              have ex : ∃ k, k < as.length ∧ as[k]? = some e := by
                obtain ⟨k, hk⟩ := List.mem_iff_getElem?.mp mem
                exact ⟨k, (List.getElem?_eq_some_iff.mp hk).1, hk⟩
              obtain ⟨k, k1, k2, k3⟩ := least as.length ex
              refine ⟨_, rfl, .inl ⟨rfl, _, SqL.of N9.la⟩, _, rfl, pa, .ref t0, dPr e, as.map dPr, k, dPr e, rfl, rfl, dp_arcsP N9, dp_pr (SqT.of ht9), prs_shaped _, pr_shaped _, by rw [List.getElem?_map, k2]; rfl, by rw [pr_eqv]; simp, fun m z' hm hz' => ?_, ?_⟩
              · rw [List.getElem?_map] at hz'
                have hml : m < as.length := by omega
                rw [Cir.get_arc hml] at hz'
                have ez : z' = dPr (Cir.arcOf as m) := (Option.some.inj hz').symm
                rw [ez, pr_eqv]
                exact decide_eq_false fun q => k3 m hm (by rw [Cir.get_arc hml, q])
              · exact ⟨k, .inr ⟨k1, Cir.arc_get k2⟩, N9, hp9, hpp9, ht9, rfl⟩
            · exact ⟨as.length, .inl rfl, N8, hp8, hpp8, ht8, by rw [hll]; rfl⟩
          clear N8 hp8 hpp8 ht8
          rintro σ' H9 ⟨at_, hat, N9, hp9, hpp9, ht9, rfl⟩
          have sgb : ∀ w : Int, -(2 * BIG) ≤ w ∧ w ≤ 2 * BIG → -(2 * BIG) ≤ sg * w ∧ sg * w ≤ 2 * BIG := fun w hw => by
            rcases hsg with rfl | rfl <;> omega
          have sw0 := sgb w0' w0
          have sw1 := sgb w1' w1
          refine ⟨fun σ' H' => ∃ (ts : List Addr) (as' : List Cir.Arc) (xs' ys' : List Int), NetP b c pa px py H H' ts as' xs' ys' ∧ H' po = some (.lst (os.map V.int)) ∧ H' pp = some (.lst [.int w0', .int w1']) ∧ at_ < xs'.length ∧ at_ < ys'.length ∧
            (Cir.NetOk n BIG (37 * i + j + 1) as' (xs'.set at_ (Cir.part xs' at_ + sg * w0')) ∧ ∀ v, Cir.net as' (xs'.set at_ (Cir.part xs' at_ + sg * w0')) v = Cir.net as xs v + sg * w0' * Cir.dlt e v) ∧
            (Cir.NetOk n BIG (37 * i + j + 1) as' (ys'.set at_ (Cir.part ys' at_ + sg * w1')) ∧ ∀ v, Cir.net as' (ys'.set at_ (Cir.part ys' at_ + sg * w1')) v = Cir.net as ys v + sg * w1' * Cir.dlt e v) ∧
            σ' = [some (.ref b), some (.int (n : Int)), some (.int (r : Int)), some (.int (l : Int)), some (.ref pa), some (.ref px), some (.ref py), some (.int g), some (.int (i : Int)), some (.ref po), some (.int (sz : Int)), some (.int (j : Int)), o12, o13, some (.ref pp), some (.ref t0), some (.int sg), some (.int (at_ : Int))], ?_, ?_⟩
          · refine ⟨_, rfl, _, rfl, _, _, rfl, .inl (SqL.of N9.la), rfl, _, rfl, eq_if (fun eq => ?_) fun ne => ?_⟩
            · rw [hll] at eq
              have ea : at_ = as.length := by omega
              refine ⟨_, rfl, .inl ⟨rfl, _, SqL.of N9.la⟩, _, rfl, _, _, _, rfl, rfl, N9.la, len_lt (by omega), ?_⟩
              have lx1 : (upd H9 pa (.lst (ts.map V.ref ++ [.ref t0]))) px = some (.lst (xs.map V.int)) := by rw [upd_ne N9.nax.symm]; exact N9.lx
              refine ⟨_, rfl, .inl ⟨rfl, _, SqL.of lx1⟩, _, _, _, rfl, rfl, lx1, len_lt (by rw [List.length_map, ← ok.len]; omega), ?_⟩
              have ly1 : (upd (upd H9 pa (.lst (ts.map V.ref ++ [.ref t0]))) px (.lst (xs.map V.int ++ [.int 0]))) py = some (.lst (ys.map V.int)) := by rw [upd_ne N9.nxy.symm, upd_ne N9.nay.symm]; exact N9.ly
              refine ⟨_, rfl, .inl ⟨rfl, _, SqL.of ly1⟩, _, _, _, rfl, rfl, ly1, len_lt (by rw [List.length_map, ← ok'.len]; omega), ?_⟩
              refine ⟨ts ++ [t0], as ++ [e], xs ++ [0], ys ++ [0], N9.arc ht9, ?_, ?_, by rw [ea, ok.len]; simp, by rw [ea, ok'.len]; simp, ?_, ?_, rfl⟩
              · rw [upd_ne pY, upd_ne pX, upd_ne pA]
                exact hp9
              · rw [upd_ne ppY, upd_ne ppX, upd_ne ppA]
                exact hpp9
              · have es : (xs ++ [0]).set at_ (Cir.part (xs ++ [0]) at_ + sg * w0') = xs ++ [sg * w0'] := by
                  rw [ea, ok.len, Cir.part_snoc, Int.zero_add, List.set_append_right _ _ (Nat.le_refl _), Nat.sub_self]
                  rfl
                rw [es]
                exact ok.new big_pos sw0.1 sw0.2 good
              · have es : (ys ++ [0]).set at_ (Cir.part (ys ++ [0]) at_ + sg * w1') = ys ++ [sg * w1'] := by
                  rw [ea, ok'.len, Cir.part_snoc, Int.zero_add, List.set_append_right _ _ (Nat.le_refl _), Nat.sub_self]
                  rfl
                rw [es]
                exact ok'.new big_pos sw1.1 sw1.2 good
            · rw [hll] at ne
              rcases hat with rfl | ⟨h1, h2⟩
              · exact absurd rfl ne
              · refine ⟨ts, as, xs, ys, N9, hp9, hpp9, by rw [← ok.len]; exact h1, by rw [← ok'.len]; exact h1, ?_, ?_, rfl⟩
                · rw [← h2]
                  exact ok.old big_pos sw0.1 sw0.2 h1
                · rw [← h2]
                  exact ok'.old big_pos sw1.1 sw1.2 h1
          clear N9 hp9 hpp9 ht9 hat
          rintro σ' H10 ⟨ts, as', xs', ys', N10, hp10, hpp10, hl10, hl11, ⟨ok10, net10⟩, ⟨ok11, net11⟩, rfl⟩
          have sg64 : -(2 ^ 64) < sg ∧ sg < 2 ^ 64 := by rcases hsg with rfl | rfl <;> decide
          refine ⟨_, rfl, _, rfl, _, _, _, _, rfl, rfl, SqL.of N10.lx, at_part hl10, _, rfl, _, rfl, _, _, _, _, rfl, rfl, SqL.of hpp10, rfl, _, _, rfl, rfl, .inl sg64, _, _, rfl, rfl, _, rfl, _, rfl, _, _, _, _, rfl, rfl, N10.lx, ix_nat (by rw [List.length_map]; exact hl10), ?_⟩
          have N12 := N10.amt at_ (Cir.part xs' at_ + sg * w0')
          have hpp12 : (upd H10 px (.lst ((xs'.map V.int).set at_ (.int (Cir.part xs' at_ + sg * w0'))))) pp = some (.lst [.int w0', .int w1']) := by rw [upd_ne ppX]; exact hpp10
          refine ⟨_, rfl, _, rfl, _, _, _, _, rfl, rfl, SqL.of N12.ly, at_part hl11, _, rfl, _, rfl, _, _, _, _, rfl, rfl, SqL.of hpp12, rfl, _, _, rfl, rfl, .inl sg64, _, _, rfl, rfl, _, rfl, _, rfl, _, _, _, _, rfl, rfl, N12.ly, ix_nat (by rw [List.length_map]; exact hl11), ?_⟩
          have fin : ∀ (w x : Int) (v : Int), x = w * (Cir.ind (ndAt os sz j) v - Cir.ind (ndAt os sz 0) v) → x + sg * w * Cir.dlt e v = w * (Cir.ind (ndAt os sz (j + 1)) v - Cir.ind (ndAt os sz 0) v) := fun w x v hx => by
            rw [hx, Int.mul_comm sg w, Int.mul_assoc, ed v, ← Int.mul_add]
            congr 1
            omega
          refine ⟨ts, as', _, _, N12.amt2 at_ (Cir.part ys' at_ + sg * w1'), ok10, ok11, fun v => by rw [net10 v]; exact fin _ _ v (bal v), fun v => by rw [net11 v]; exact fin _ _ v (bal' v), ?_, ?_, _, _, _, _, rfl⟩
          · rw [upd_ne pY, upd_ne pX]
            exact hp10
          · rw [upd_ne ppY]
            exact hpp12
        · rintro σ H7 ⟨ts, as, xs, ys, N, ok, ok', bal, bal', hp, hpp, o11, o15, o16, o17, rfl⟩
          have z : ∀ v, Cir.ind (ndAt os sz sz) v - Cir.ind (ndAt os sz 0) v = 0 := fun v => by
            unfold ndAt
            rw [if_neg (by omega), if_pos (by omega), Int.sub_self]
          refine ⟨ts, as, xs, ys, N, ok.more (by omega) big_pos (by omega), ok'.more (by omega) big_pos (by omega), fun v => by rw [bal v, z v, Int.mul_zero], fun v => by rw [bal' v, z v, Int.mul_zero], _, _, _, _, _, _, _, _, _, _, rfl⟩
    · rintro σ H1 ⟨ts, as, xs, ys, N, ok, ok', bal, bal', o8, o9, o10, o11, o12, o13, o14, o15, o16, o17, rfl⟩
      refine ⟨_, rfl, _, rfl, _, rfl, by show 3 ≤ sizeLine; decide, fun p hp => ?_⟩
      exact k p pa px py ts as xs ys _ (N.new hp) upd_same (NetQ.of ok big_pos (by omega)) (NetQ.of ok' big_pos (by omega)) bal bal'
end
/-! _law_refused(bag, count, arcs, first, second): slots 0 bag 1 count 2 arcs 3 first 4 second 5 changed 6 due 7 side 8 row 9 turn 10 at 11 spare 12 wrong 13 places 14 tail 15 head 16 ends 17 node -/
abbrev s_law_refused : Stmt := top 22
abbrev n_law_refused : List Str := ["bag", "count", "arcs", "first", "second", "changed", "due", "side", "row", "turn", "at", "spare", "wrong", "places", "tail", "head", "ends", "node"]
theorem sc_law_refused : FnScope n_law_refused ["bag", "count", "arcs", "first", "second"] (defScope s_law_refused) := ⟨rfl, rfl, rfl, by decide +kernel, rfl, by decide +kernel, by decide +kernel⟩
/-! law(script): slots 0 script 1 bag 2 large 3 count 4 arcs 5 first 6 second 7 passed 8 told 9 kept 10 turn 11 row -/
abbrev s_law : Stmt := top 23
abbrev n_law : List Str := ["script", "bag", "large", "count", "arcs", "first", "second", "passed", "told", "kept", "turn", "row"]
theorem sc_law : FnScope n_law ["script"] (defScope s_law) := ⟨rfl, rfl, rfl, by decide +kernel, rfl, by decide +kernel, by decide +kernel⟩
/-- the lists of a network, and the bag -/
structure NetR (b c pa px py : Addr) (H : Hp) (ts : List Addr) (as : List Cir.Arc) (xs ys : List Int) : Prop where
  bag : BagC H b c
  la : H pa = some (.lst (ts.map V.ref))
  lx : H px = some (.lst (xs.map V.int))
  ly : H py = some (.lst (ys.map V.int))
  ln : ts.length = as.length
  tup : ∀ (k : Nat) (t : Addr) (p : Cir.Arc), ts[k]? = some t → as[k]? = some p → H t = some (.tup [.int p.1, .int p.2])
  nab : pa ≠ b
  nxb : px ≠ b
  nyb : py ≠ b
section
variable {b c pa px py q : Addr} {H H1 H2 : Hp} {ts : List Addr} {as : List Cir.Arc} {xs ys : List Int} {o : HO}
theorem NetP.r (h : NetP b c pa px py H H1 ts as xs ys) : NetR b c pa px py H1 ts as xs ys := ⟨h.bag, h.la, h.lx, h.ly, h.ln, h.tup, h.pab, h.pxb, h.pyb⟩
theorem NetR.take (h : NetR b c pa px py H1 ts as xs ys) {S : List Addr} (e : Fr S H1 H2) (hB : BagC H2 b c) (h1 : pa ∉ S) (h2 : px ∉ S) (h3 : py ∉ S) (h4 : ∀ t ∈ ts, t ∉ S) : NetR b c pa px py H2 ts as xs ys :=
  ⟨hB, e _ _ h.la h1, e _ _ h.lx h2, e _ _ h.ly h3, h.ln, fun k t p ht hp => e _ _ (h.tup k t p ht hp) (h4 t (List.mem_of_getElem? ht)), h.nab, h.nxb, h.nyb⟩
theorem NetR.tb (h : NetR b c pa px py H1 ts as xs ys) : ∀ t ∈ ts, t ≠ b := fun t ht => by
  obtain ⟨k, hk⟩ := List.mem_iff_getElem?.mp ht
  have hl : k < as.length := by
    rw [← h.ln]
    exact (List.getElem?_eq_some_iff.mp hk).1
  obtain ⟨i, v, s, hb⟩ := h.bag.b
  exact ne_of (h.tup k t _ hk (Cir.get_arc hl)) hb (by intro z; cases z)
theorem NetR.bagS (h : NetR b c pa px py H1 ts as xs ys) (e : Fr [b] H1 H2) (hB : BagC H2 b c) : NetR b c pa px py H2 ts as xs ys :=
  h.take e hB (by simpa using h.nab) (by simpa using h.nxb) (by simpa using h.nyb) fun t ht => by simpa using h.tb t ht
theorem NetR.new (h : NetR b c pa px py H1 ts as xs ys) (hq : H1 q = none) : NetR b c pa px py (upd H1 q o) ts as xs ys :=
  h.take ((Fr.refl [] H1).new hq) (h.bag.new hq) (by simp) (by simp) (by simp) fun t _ => by simp
theorem NetR.arcs {K : PySem.W.Frag} (h : NetR b c pa px py H1 ts as xs ys) : ArcsAt K H1 pa as := ⟨ts, SqL.of h.la, h.ln, fun k t p a b => SqT.of (h.tup k t p a b)⟩
end
/-- a list of these flat values is this data -/
def FlatL (vs : List V) (d : PyData) : Prop := ∀ (K : PySem.W.Frag) (H : Hp) (p : Addr), H p = some (.lst vs) → Dp K H (.ref p) d
theorem flat_told : FlatL [.str "told", .bl true] dTold := fun _ _ _ h => .lst (SqL.of h) (.cons (.str _) (.cons (.bl _) .nil))
theorem flat_err (s : Str) (i : Nat) : FlatL [.str s, .int (i : Int), .bl true, .bl false] (dErr s i) := fun _ _ _ h => .lst (SqL.of h) (.cons (.str _) (.cons (.int _) (.cons (.bl _) (.cons (.bl _) .nil))))
theorem filter_head {p : Nat → Bool} {n v : Nat} {l : List Nat} (h : (List.range n).filter p = v :: l) : v < n ∧ p v = true ∧ ∀ u, u < v → p u = false := by
  have hm : v ∈ (List.range n).filter p := by rw [h]; exact List.mem_cons_self
  obtain ⟨h1, h2⟩ := List.mem_filter.mp hm
  refine ⟨List.mem_range.mp h1, h2, fun u hu => ?_⟩
  cases e : p u with
  | false => rfl
  | true =>
    have hum : u ∈ (List.range n).filter p := List.mem_filter.mpr ⟨List.mem_range.mpr (by have := List.mem_range.mp h1; omega), e⟩
    have pw : ((List.range n).filter p).Pairwise (· < ·) := List.pairwise_lt_range.filter _
    rw [h] at hum pw
    rcases List.mem_cons.mp hum with z | z
    · omega
    · have := (List.pairwise_cons.mp pw).1 u z
      omega
theorem filter_nil {p : Nat → Bool} {n : Nat} (h : (List.range n).filter p = []) : ∀ u, u < n → p u = false := fun u hu => by
  have := List.filter_eq_nil_iff.mp h u (List.mem_range.mpr hu)
  simpa using this
theorem arc_ext {xs ys : List Cir.Arc} (hl : xs.length = ys.length) (h : ∀ k, k < xs.length → Cir.arcOf xs k = Cir.arcOf ys k) : xs = ys := by
  apply List.ext_getElem?
  intro i
  by_cases hi : i < xs.length
  · rw [Cir.get_arc hi, Cir.get_arc (by omega), h i hi]
  · rw [List.getElem?_eq_none (by omega), List.getElem?_eq_none (by omega)]
theorem arcOf_set_ne {as : List Cir.Arc} {k j : Nat} {e : Cir.Arc} (h : k ≠ j) : Cir.arcOf (as.set k e) j = Cir.arcOf as j := by
  unfold Cir.arcOf
  rw [List.getD_eq_getElem?_getD, List.getD_eq_getElem?_getD, List.getElem?_set_ne h]
theorem arcOf_set {as : List Cir.Arc} {k : Nat} {e : Cir.Arc} (h : k < as.length) : Cir.arcOf (as.set k e) k = e := Cir.arc_get (by rw [List.getElem?_set_self h])
def spRefused (K : PySem.W.Frag) : Sp := fun vs H Q _ => ∃ (b c pa px py : Addr) (n : Nat) (ts : List Addr) (as : List Cir.Arc) (xs ys : List Int), vs = [.ref b, .int (n : Int), .ref pa, .ref px, .ref py] ∧ NetR b c pa px py H ts as xs ys ∧ n ≤ 60 ∧ 0 < as.length ∧ as.length ≤ 1000 ∧
  as.length = xs.length ∧ as.length = ys.length ∧ (∀ k, k < as.length → Cir.Good n (Cir.arcOf as k)) ∧ (∀ v, Cir.net as xs v = 0) ∧ (∀ v, Cir.net as ys v = 0) ∧ ∀ H', Fr [b] H H' → BagC H' b c → Q (.bl true) H'
def spLaw (K : PySem.W.Frag) : Sp := fun vs H Q _ => ∃ (a : Addr) (ns : List Int), vs = [.ref a] ∧ SqL K H a (ns.map V.int) ∧ ns.length ≤ 63 ∧ ∀ H', Q (.bl true) H'
def dAll (as : List Cir.Arc) (xs ys : List Int) : PyData := .list [dPrs as, dInts xs, dInts ys]
theorem dAll_ok (as : List Cir.Arc) (xs ys : List Int) : SeqAt.shaped (dAll as xs ys) = true ∧ PyData.eqv (dAll as xs ys) (dAll as xs ys) = true := by
  have l1 : (dPrs as).canLay0 = true := by simp only [dPrs, PyData.canLay0]; exact prs_lay as
  have l2 : ∀ zs, (dInts zs).canLay0 = true := fun zs => by simp only [dInts, PyData.canLay0]; exact ints_lay zs
  have lay : (dAll as xs ys).canLay0 = true := by simp [dAll, PyData.canLay0, PyData.canLayAll0, l1, l2]
  refine ⟨shaped_of lay ?_, SeqAt.eqv_refl _ lay⟩
  have d1 := prs_depth as
  have d2 := ints_depth xs
  have d3 := ints_depth ys
  simp only [dAll, PyData.depth, PyData.depthAll, dPrs, dInts]
  omega
theorem dp_all {K : PySem.W.Frag} {H : Hp} {p p1 p2 p3 : Addr} {ts : List Addr} {as : List Cir.Arc} {xs ys : List Int} (h : H p = some (.lst [.ref p1, .ref p2, .ref p3])) (h1 : H p1 = some (.lst (ts.map V.ref))) (hl : ts.length = as.length)
    (ht : ∀ (k : Nat) (t : Addr) (p : Cir.Arc), ts[k]? = some t → as[k]? = some p → H t = some (.tup [.int p.1, .int p.2])) (h2 : H p2 = some (.lst (xs.map V.int))) (h3 : H p3 = some (.lst (ys.map V.int))) : Dp K H (.ref p) (dAll as xs ys) :=
  .lst (SqL.of h) (.cons (.lst (SqL.of h1) (dpa_prs ts as hl fun k t p a b => SqT.of (ht k t p a b))) (.cons (dp_ints (SqL.of h2)) (.cons (dp_ints (SqL.of h3)) .nil)))
theorem dp_rowsN {K : PySem.W.Frag} {z : Addr → Prop} {H : Hp} {p : Addr} {rows : List (List Int)} (h : RowsN z H p rows) : Dp K H (.ref p) (dIss rows) := by
  obtain ⟨rs, h1, h2, h3, h4, h5⟩ := h
  exact .lst (SqL.of h1) (dpa_rows_ints rs rows h2 fun k r row a b => SqL.of (h5 k r row a b))
section
variable {P : Program} {w : World} {K : PySem.W.Frag} {mg : Str → Option Value} {base : Heap} {CD CA CU CB : Addr}
theorem ok_law_refused {f : Addr} {fd : FuncData} (F : Fun K "_law_refused" "_law_refused" s_law_refused f fd) (T : TxtL P K mg CD CA CU CB) (F_law_take : FnB P w K mg base CX0 1 "_law_take" ["bag", "many"] spTake)
    (F_law_spare : FnB P w K mg base CX0 1 "_law_spare" ["count", "arcs", "amounts"] (spSpare K)) (F_law_same : FnGB P w K mg base CX0 1 "_law_same" ["left", "right"] (spSameX K))
    (F_law_outcome : FnB P w K mg base CX0 5 "_law_outcome" ["count", "arcs", "first", "second"] (spOutcome K)) : FnG P w K mg base CX0 6 f fd ["bag", "count", "arcs", "first", "second"] (spRefused K) := by
  refine F.okG sc_law_refused (fun vs H Q E h => ?_) (fun cdv A outer s H vs Q E hr hgu h => ?_)
  · obtain ⟨b, c, pa, px, py, n, ts, as, xs, ys, rfl, _⟩ := h
    rfl
  · obtain ⟨b, c, pa, px, py, n, ts, as, xs, ys, rfl, N, hn, hpos, hl, hlx, hly, hgood, bal, bal', k⟩ := h
    refine ⟨_, (pss_cons (ps_set (i := 5) sc_law_refused.nd rfl (Or.inl rfl) (pe_lst (pa_cons (pe_callTy call_list_of (by rfl) T.m_list (by decide +kernel) (pa_cons (pv 2) pa_nil)) (pa_cons (pe_callTy call_list_of (by rfl) T.m_list (by decide +kernel) (pa_cons (pv 3) pa_nil)) (pa_cons (pe_callTy call_list_of (by rfl) T.m_list (by decide +kernel) (pa_cons (pv 4) pa_nil)) pa_nil)))))
    (pss_cons (ps_set (i := 6) sc_law_refused.nd rfl (Or.inl rfl) (pe_lst (pa_cons pe_str (pa_cons pe_bl pa_nil))))
    (pss_cons (ps_for PassesOwn.never rfl (pi_list (pe_lst (pa_cons pe_int (pa_cons pe_int pa_nil)))) (pg_name (i := 7) sc_law_refused.nd rfl (Or.inl rfl))
      (pss_cons (ps_set (i := 8) sc_law_refused.nd rfl (Or.inl rfl) (pe_ix ix_list (pv 5) (pv 7) (fun _ _ => rfl)))
      (pss_cons (ps_for PassesOwn.never rfl (pi_range1 (by rfl) T.m_range (pa_cons (pe_callF F_law_take (hr.mono (by decide)) rfl pass0 (pa_cons (pv 0) (pa_cons pe_int pa_nil))) pa_nil)) (pg_name (i := 9) sc_law_refused.nd rfl (Or.inl rfl))
        (pss_cons (ps_set (i := 10) sc_law_refused.nd rfl (Or.inl rfl) (pe_callF F_law_take (hr.mono (by decide)) rfl pass0 (pa_cons (pv 0) (pa_cons (pe_callB call_len_seq (by rfl) T.m_len (by decide +kernel) (pa_cons (pv 2) pa_nil)) pa_nil))))
        (pss_one (ps_asg (pe_op op_sub (pe_op op_add (pe_ix ix_list (pv 8) (pv 10) (fun _ _ => rfl)) (pe_callF F_law_take (hr.mono (by decide)) rfl pass0 (pa_cons (pv 0) (pa_cons pe_int pa_nil)))) pe_int) (pg_sub (pv 8) (pv 10) set_list)))))
      (pss_cons (ps_set (i := 11) sc_law_refused.nd rfl (Or.inr rfl) (pe_callF F_law_spare (hr.mono (by decide)) rfl pass0 (pa_cons (pv 1) (pa_cons (pv 2) (pa_cons (pv 8) pa_nil)))))
      (pss_cons (ps_setLc (i := 12) (own := [("node", 17)]) rfl sc_law_refused.nd rfl rfl (sw_true rfl rfl rfl (by decide +kernel)) (pi_range1 (by rfl) T.m_range (pa_cons (pv 1) pa_nil)) (blkOk_by (own := [("node", 17)]) (N := n_law_refused) (sc := defScope s_law_refused) (by decide +kernel)) (fun _ _ _ _ _ => (pg_name (i := 17) sc_law_refused.nd rfl (Or.inl rfl))) (fun _ _ _ _ _ => pts_one (pt_cmpR op_ne (pe_ix (r := rIxL K) ix_list (pv 11) (pv 17) (fun _ _ => rfl)) pe_int (nomark _))) (fun _ _ _ _ _ => (pv 17)))
      (pss_one (ps_if (pt_cmpR op_gt (pe_callB call_len_seq (by rfl) T.m_len (by decide +kernel) (pa_cons (pv 12) pa_nil)) pe_int (nomark _))
        (pss_one (ps_set (i := 6) sc_law_refused.nd rfl (Or.inl rfl) (pe_lst (pa_cons pe_str (pa_cons (pe_ix ix_list (pv 12) pe_int (fun _ _ => rfl)) (pa_cons pe_bl (pa_cons pe_bl pa_nil)))))))
        pss_nil)))))))
    (pss_cons (ps_set (i := 8) sc_law_refused.nd rfl (Or.inl rfl) (pe_ix ix_list (pv 5) pe_int (fun _ _ => rfl)))
    (pss_cons (ps_set (i := 13) sc_law_refused.nd rfl (Or.inl rfl) (pe_lst pa_nil))
    (pss_cons (ps_for PassesOwn.never rfl (pi_range1 (by rfl) T.m_range (pa_cons (pe_callF F_law_take (hr.mono (by decide)) rfl pass0 (pa_cons (pv 0) (pa_cons pe_int pa_nil))) pa_nil)) (pg_name (i := 9) sc_law_refused.nd rfl (Or.inl rfl))
      (pss_cons (ps_set (i := 10) sc_law_refused.nd rfl (Or.inl rfl) (pe_callF F_law_take (hr.mono (by decide)) rfl pass0 (pa_cons (pv 0) (pa_cons (pe_callB call_len_seq (by rfl) T.m_len (by decide +kernel) (pa_cons (pv 2) pa_nil)) pa_nil))))
      (pss_cons (ps_asg (pe_ix ix_list (pv 2) (pv 10) (fun _ _ => rfl)) (pg_tup rfl (pgs_cons (pg_name (i := 14) sc_law_refused.nd rfl (Or.inl rfl)) (pgs_cons (pg_name (i := 15) sc_law_refused.nd rfl (Or.inl rfl)) pgs_nil))))
      (pss_cons (ps_set (i := 16) sc_law_refused.nd rfl (Or.inl rfl) (pe_lst (pa_cons (pe_tup (pa_cons (pv 14) (pa_cons (pv 14) pa_nil))) (pa_cons (pe_tup (pa_cons (pv 1) (pa_cons (pv 15) pa_nil))) (pa_cons (pe_tup (pa_cons (pv 14) (pa_cons (pe_un un_neg pe_int) pa_nil))) (pa_cons (pe_tup (pa_cons (pe_un un_neg pe_int) (pa_cons (pv 15) pa_nil))) (pa_cons (pe_tup (pa_cons (pv 14) (pa_cons (pv 1) pa_nil))) (pa_cons (pe_tup (pa_cons (pv 15) (pa_cons (pv 15) pa_nil))) pa_nil))))))))
      (pss_cons (ps_asg (pe_ix ix_list (pv 16) (pe_callF F_law_take (hr.mono (by decide)) rfl pass0 (pa_cons (pv 0) (pa_cons pe_int pa_nil))) (fun _ _ => rfl)) (pg_sub (pv 8) (pv 10) set_list))
      (pss_one (ps_expr (pe_bm PySem.F.plainAttrs_list PySem.F.slot_list_append PySem.F.type_list_append mt_append (pv 13) (pa_cons (pv 10) pa_nil)))))))))
    (Evl.pss_cut (ps_if (pt_cmpR op_gt (pe_callB call_len_seq (by rfl) T.m_len (by decide +kernel) (pa_cons (pv 13) pa_nil)) pe_int (nomark _))
      (pss_one (ps_set (i := 6) sc_law_refused.nd rfl (Or.inl rfl) (pe_lst (pa_cons pe_str (pa_cons (pe_callB (cr_min rfl) (by rfl) T.m_min (by decide +kernel) (pa_cons (pv 13) pa_nil)) (pa_cons pe_bl (pa_cons pe_bl pa_nil)))))))
      pss_nil)
    (pss_one (ps_ret (pe_callG F_law_same (hr.mono (by decide)) hgu rfl pass0 (pa_cons (pe_callF F_law_outcome (hr.mono (by decide)) rfl pass0 (pa_cons (pv 1) (pa_cons (pe_ix ix_list (pv 5) pe_int (fun _ _ => rfl)) (pa_cons (pe_ix ix_list (pv 5) pe_int (fun _ _ => rfl)) (pa_cons (pe_ix ix_list (pv 5) pe_int (fun _ _ => rfl)) pa_nil))))) (pa_cons (pv 6) pa_nil)))))))))))), ?_⟩
    have hts : (ts.map V.ref).length = as.length := by rw [List.length_map, N.ln]
    have hlt : as.length < 2 ^ 250 := Nat.lt_of_le_of_lt hl (by decide)
    -- changed, due
    refine ⟨_, rfl, _, _, rfl, .inl (SqL.of N.la), fun qa hqa => ?_⟩
    have f1 := (Fr.refl [] H).new (o := .lst (ts.map V.ref)) hqa
    have a1 : (upd H qa (.lst (ts.map V.ref))) qa = some (.lst (ts.map V.ref)) := upd_same
    have N1 := N.new (o := .lst (ts.map V.ref)) hqa
    generalize upd H qa (.lst (ts.map V.ref)) = H1 at f1 a1 N1 ⊢
    refine ⟨_, rfl, _, _, rfl, .inl (SqL.of N1.lx), fun qx hqx => ?_⟩
    have f2 := f1.new (o := .lst (xs.map V.int)) hqx
    have x1 : (upd H1 qx (.lst (xs.map V.int))) qx = some (.lst (xs.map V.int)) := upd_same
    have nax : qa ≠ qx := ne_of_none a1 hqx
    have a1 : (upd H1 qx (.lst (xs.map V.int))) qa = some (.lst (ts.map V.ref)) := by rw [upd_ne nax]; exact a1
    have N2 := N1.new (o := .lst (xs.map V.int)) hqx
    generalize upd H1 qx (.lst (xs.map V.int)) = H2 at f2 a1 x1 N2 ⊢
    refine ⟨_, rfl, _, _, rfl, .inl (SqL.of N2.ly), fun qy hqy => ?_⟩
    have f3 := f2.new (o := .lst (ys.map V.int)) hqy
    have y1 : (upd H2 qy (.lst (ys.map V.int))) qy = some (.lst (ys.map V.int)) := upd_same
    have nay : qa ≠ qy := ne_of_none a1 hqy
    have nxy : qx ≠ qy := ne_of_none x1 hqy
    have a1 : (upd H2 qy (.lst (ys.map V.int))) qa = some (.lst (ts.map V.ref)) := by rw [upd_ne nay]; exact a1
    have x1 : (upd H2 qy (.lst (ys.map V.int))) qx = some (.lst (xs.map V.int)) := by rw [upd_ne nxy]; exact x1
    have N3 := N2.new (o := .lst (ys.map V.int)) hqy
    generalize upd H2 qy (.lst (ys.map V.int)) = H3 at f3 a1 x1 y1 N3 ⊢
    refine ⟨by show 3 ≤ sizeLine; decide, fun qc hqc => ?_⟩
    have f4 := f3.new (o := .lst [.ref qa, .ref qx, .ref qy]) hqc
    have c1 : (upd H3 qc (.lst [.ref qa, .ref qx, .ref qy])) qc = some (.lst [.ref qa, .ref qx, .ref qy]) := upd_same
    have nca : qc ≠ qa := (ne_of_none a1 hqc).symm
    have ncx : qc ≠ qx := (ne_of_none x1 hqc).symm
    have ncy : qc ≠ qy := (ne_of_none y1 hqc).symm
    have a1 : (upd H3 qc (.lst [.ref qa, .ref qx, .ref qy])) qa = some (.lst (ts.map V.ref)) := by rw [upd_ne nca.symm]; exact a1
    have x1 : (upd H3 qc (.lst [.ref qa, .ref qx, .ref qy])) qx = some (.lst (xs.map V.int)) := by rw [upd_ne ncx.symm]; exact x1
    have y1 : (upd H3 qc (.lst [.ref qa, .ref qx, .ref qy])) qy = some (.lst (ys.map V.int)) := by rw [upd_ne ncy.symm]; exact y1
    have N4 := N3.new (o := .lst [.ref qa, .ref qx, .ref qy]) hqc
    have nqab : qa ≠ b := N.bag.neb hqa
    have nqxb : qx ≠ b := N1.bag.neb hqx
    have nqyb : qy ≠ b := N2.bag.neb hqy
    have nqcb : qc ≠ b := N3.bag.neb hqc
    have nqac : qa ≠ c := N.bag.nec hqa
    have nqxc : qx ≠ c := N1.bag.nec hqx
    have nqyc : qy ≠ c := N2.bag.nec hqy
    have za : H qa = none := hqa
    have zx : H qx = none := f1.free hqx
    have zy : H qy = none := f2.free hqy
    generalize upd H3 qc (.lst [.ref qa, .ref qx, .ref qy]) = H4 at f4 a1 x1 y1 c1 N4 ⊢
    refine ⟨by show 2 ≤ sizeLine; decide, fun pd hpd => ?_⟩
    have f5 := f4.new (o := .lst [.str "told", .bl true]) hpd
    have d1 : (upd H4 pd (.lst [.str "told", .bl true])) pd = some (.lst [.str "told", .bl true]) := upd_same
    have npd : pd ≠ b ∧ pd ≠ qx ∧ pd ≠ qy ∧ pd ≠ qa := ⟨N4.bag.neb hpd, (ne_of_none x1 hpd).symm, (ne_of_none y1 hpd).symm, (ne_of_none a1 hpd).symm⟩
    have e45 := (Fr.refl [] H4).new (o := .lst [.str "told", .bl true]) hpd
    have N5 := N4.new (o := .lst [.str "told", .bl true]) hpd
    generalize upd H4 pd (.lst [.str "told", .bl true]) = H5 at f5 d1 e45 N5 ⊢
    have a1 := e45 _ _ a1 (by simp)
    have x1 := e45 _ _ x1 (by simp)
    have y1 := e45 _ _ y1 (by simp)
    have c1 := e45 _ _ c1 (by simp)
    clear N1 N2 N3 N4 hqa hqx hqy hqc f1 f2 f3 f4 e45 hpd
    -- the sides
    refine ⟨by show 2 ≤ sizeLine; decide, fun pl hpl => ?_⟩
    have e56 := (Fr.refl [] H5).new (o := .lst [.int 2, .int 1]) hpl
    have hl2 : (upd H5 pl (.lst [.int 2, .int 1])) pl = some (.lst [.int 2, .int 1]) := upd_same
    have N6 := N5.new (o := .lst [.int 2, .int 1]) hpl
    have nplx : pl ≠ qx := (ne_of_none x1 hpl).symm
    have nply : pl ≠ qy := (ne_of_none y1 hpl).symm
    have nplb : pl ≠ b := N5.bag.neb hpl
    have f6 := f5.trans e56
    generalize upd H5 pl (.lst [.int 2, .int 1]) = H6 at e56 hl2 N6 f6 ⊢
    refine ⟨pl, rfl, ⟨_, SqL.of hl2⟩, for_list (K := K) (a := pl) (xs := [V.int 2, .int 1])
      (fun i σ H' => ∃ (xs' ys' : List Int) (d : PyData) (pd : Addr), Fr [b] H H' ∧ NetR b c pa px py H' ts as xs ys ∧ H' pl = some (.lst [.int 2, .int 1]) ∧ H' qa = some (.lst (ts.map V.ref)) ∧ H' qx = some (.lst (xs'.map V.int)) ∧ H' qy = some (.lst (ys'.map V.int)) ∧ H' qc = some (.lst [.ref qa, .ref qx, .ref qy]) ∧
        as.length = xs'.length ∧ as.length = ys'.length ∧ OutE n as xs' ys' d ∧ (∃ vs, H' pd = some (.lst vs) ∧ FlatL vs d) ∧ (pd ≠ b ∧ pd ≠ qx ∧ pd ≠ qy ∧ pd ≠ qa) ∧ (i ≤ 1 → xs' = xs) ∧ (i = 0 → ys' = ys) ∧ ∃ o7 o8 o9 o10 o11 o12 o13 o14 o15 o16 o17 : Option V,
        σ = [some (.ref b), some (.int (n : Int)), some (.ref pa), some (.ref px), some (.ref py), some (.ref qc), some (.ref pd), o7, o8, o9, o10, o11, o12, o13, o14, o15, o16, o17])
      ⟨xs, ys, dTold, pd, f6.nil, N6, hl2, e56 _ _ a1 (by simp), e56 _ _ x1 (by simp), e56 _ _ y1 (by simp), e56 _ _ c1 (by simp), hlx, hly, .inl ⟨rfl, hgood, fun v _ => bal v, fun v _ => bal' v⟩, ⟨_, e56 _ _ d1 (by simp), flat_told⟩, npd, fun _ => rfl, fun _ => rfl, _, _, _, _, _, _, _, _, _, _, _, rfl⟩
      (fun i σ H' _ h => by obtain ⟨_, _, _, _, _, _, z, _⟩ := h; exact SqL.of z) ?_ ?_⟩
    · clear N6 N5 hl2 f6 e56 f5 a1 x1 y1 c1 d1 hpl
      rintro i y σ H7 hy ⟨xs', ys', d, pd, f7, N7, l7, a7, x7, y7, c7, lx7, ly7, out7, ⟨vd, d7, fl7⟩, npd, hi1, hi0, o7, o8, o9, o10, o11, o12, o13, o14, o15, o16, o17, rfl⟩
      have hside : ∃ (side : Int) (q : Addr) (zs : List Int), y = .int side ∧ atI [V.ref qa, .ref qx, .ref qy] side = some (.ref q) ∧ H7 q = some (.lst (zs.map V.int)) ∧ as.length = zs.length ∧ ((q = qy ∧ i = 0) ∨ (q = qx ∧ i = 1)) := by
        have hi := (List.getElem?_eq_some_iff.mp hy).1
        have h01 : i = 0 ∨ i = 1 := by simp at hi; omega
        rcases h01 with rfl | rfl
        · exact ⟨2, qy, ys', (Option.some.inj hy).symm, rfl, y7, ly7, .inl ⟨rfl, rfl⟩⟩
        · exact ⟨1, qx, xs', (Option.some.inj hy).symm, rfl, x7, lx7, .inr ⟨rfl, rfl⟩⟩
      obtain ⟨side, q, zs, rfl, hat, hq7, hzs, hqi⟩ := hside
      have zq : H q = none := by rcases hqi with ⟨e, _⟩ | ⟨e, _⟩ <;> rw [e] <;> assumption
      have qb : q ≠ b := by rcases hqi with ⟨e, _⟩ | ⟨e, _⟩ <;> rw [e] <;> assumption
      have qcc : q ≠ c := by rcases hqi with ⟨e, _⟩ | ⟨e, _⟩ <;> rw [e] <;> assumption
      have nq : ∀ {p : Addr} {o : HO}, H p = some o → p ≠ q := fun h => ne_of_none h zq
      have ntq : ∀ t ∈ ts, t ≠ q := fun t ht => by
        obtain ⟨k, hk⟩ := List.mem_iff_getElem?.mp ht
        have hl : k < as.length := by rw [← N.ln]; exact (List.getElem?_eq_some_iff.mp hk).1
        exact nq (N.tup k t _ hk (Cir.get_arc hl))
      refine ⟨_, rfl, _, rfl, _, _, _, _, rfl, rfl, SqL.of c7, hat, ?_⟩
      refine ⟨_, rfl, b, c, 3, rfl, N7.bag, by decide, by decide, fun tz H8 z0 z1 e8 B8 => ?_⟩
      obtain ⟨tn, rfl⟩ : ∃ tn : Nat, tz = (tn : Int) := ⟨tz.toNat, by omega⟩
      have hq8 := e8 _ _ hq7 (by simpa using qb)
      refine ⟨_, rfl, (rg_ok (by omega)).1, (rg_ok (by omega)).2, for_rng (n := tn)
        (fun j σ H' => ∃ zs' : List Int, Fr [b, q] H7 H' ∧ BagC H' b c ∧ H' q = some (.lst (zs'.map V.int)) ∧ as.length = zs'.length ∧ ∃ o9 o10 : Option V,
          σ = [some (.ref b), some (.int (n : Int)), some (.ref pa), some (.ref px), some (.ref py), some (.ref qc), some (.ref pd), some (.int side), some (.ref q), o9, o10, o11, o12, o13, o14, o15, o16, o17])
        ⟨zs, e8.sub (by simp), B8, hq8, hzs, _, _, rfl⟩ ?_ ?_⟩
      · rintro j σ H9 hj ⟨zs', e9, B9, hq9, hl9, o9, o10, rfl⟩
        have la9 := e9 _ _ N7.la (by simp [N.nab, nq N.la])
        refine ⟨_, rfl, _, rfl, _, _, rfl, .inl (SqL.of la9), b, c, _, rfl, B9, by rw [hts]; omega, by rw [hts]; exact log_ok hlt, fun at_ H10 w0 w1 e10 B10 => ?_⟩
        rw [hts] at w1
        obtain ⟨at_, rfl⟩ : ∃ q : Nat, at_ = (q : Int) := ⟨at_.toNat, by omega⟩
        have hq10 := e10 _ _ hq9 (by simpa using qb)
        have e10' : Fr [b, q] H7 H10 := e9.trans (e10.sub (by simp))
        refine ⟨_, rfl, _, rfl, _, _, _, _, rfl, rfl, SqL.of hq10, at_part (by omega), _, rfl, b, c, 5, rfl, B10, by decide, by decide, fun z H11 w2 w3 e11 B11 => ?_⟩
        have hq11 := e11 _ _ hq10 (by simpa using qb)
        have e11' : Fr [b, q] H7 H11 := e10'.trans (e11.sub (by simp))
        refine ⟨_, _, rfl, rfl, _, _, rfl, rfl, _, rfl, _, rfl, _, _, _, _, rfl, rfl, hq11, ix_nat (by rw [List.length_map]; omega), ?_⟩
        exact ⟨zs'.set at_ _, e11'.put (.inl (by simp)), B11.put qb qcc, by rw [upd_same, List.map_set], by rw [List.length_set]; exact hl9, _, _, rfl⟩
      · clear hq8 e8 B8 z0 z1
        rintro σ H9 ⟨zs', e9, B9, hq9, hl9, o9, o10, rfl⟩
        have N9 : NetR b c pa px py H9 ts as xs ys := N7.take e9 B9 (by simp [N.nab, nq N.la]) (by simp [N.nxb, nq N.lx]) (by simp [N.nyb, nq N.ly]) fun t ht => by simp [N.tb t ht, ntq t ht]
        refine ⟨_, rfl, _, rfl, _, rfl, n, pa, q, as, zs', rfl, N9.arcs, SqL.of hq9, hl9, by omega, by omega, hgood, fun ps H10 hps e10 h10 => ?_⟩
        refine ⟨_, rfl, _, rfl, (rg_ok (by omega)).1, (rg_ok (by omega)).2, fun pw hpw => lc_rng (n := n) (fun i H2 => H2 = upd H10 pw (.lst (((List.range i).filter fun (v : Nat) => decide (Cir.net as zs' (v : Int) ≠ 0)).map vN))) rfl ?_ ?_⟩
        · rintro v H2 hv rfl
          have h10' : (upd H10 pw (.lst (((List.range v).filter fun (v : Nat) => decide (Cir.net as zs' (v : Int) ≠ 0)).map vN))) ps = some (.lst ((Cir.spareL n as zs').map V.int)) := by rw [upd_ne (ne_of_none h10 hpw)]; exact h10
          have fl : ((List.range v).filter fun (v : Nat) => decide (Cir.net as zs' (v : Int) ≠ 0)).length ≤ v := Nat.le_trans (List.length_filter_le _ _) (by simp)
          refine ⟨rfl, _, rfl, _, rfl, _, _, _, _, rfl, rfl, SqL.of h10', at_int (v := V.int (Cir.net as zs' v)) (by omega) (by rw [List.getElem?_map, Cir.spareL_get (by omega) (by omega)]; rfl), rfl, _, rfl, ne_if (fun c => ?_) fun c => ?_⟩
          · refine ⟨_, rfl, _, upd_same, len_lt (by rw [List.length_map]; omega), ?_⟩
            rw [upd_upd, List.range_succ, List.filter_append, List.map_append, List.filter_cons, if_pos (decide_eq_true c)]
            rfl
          · rw [List.range_succ, List.filter_append, List.filter_cons, if_neg (by simpa using c)]
            simp
        rintro H2 rfl
        have e11 : Fr [] H9 (upd H10 pw (.lst (((List.range n).filter fun (v : Nat) => decide (Cir.net as zs' (v : Int) ≠ 0)).map vN))) := e10.new hpw
        have hw11 : (upd H10 pw (.lst (((List.range n).filter fun (v : Nat) => decide (Cir.net as zs' (v : Int) ≠ 0)).map vN))) pw = some (.lst (((List.range n).filter fun (v : Nat) => decide (Cir.net as zs' (v : Int) ≠ 0)).map vN)) := upd_same
        have fh := fun v l => filter_head (p := fun v : Nat => decide (Cir.net as zs' (v : Int) ≠ 0)) (n := n) (v := v) (l := l)
        have fn := filter_nil (p := fun v : Nat => decide (Cir.net as zs' (v : Int) ≠ 0)) (n := n)
        generalize (List.range n).filter (fun (v : Nat) => decide (Cir.net as zs' (v : Int) ≠ 0)) = wr at hw11 e11 fh fn ⊢
        generalize upd H10 pw (.lst (wr.map vN)) = H11 at hw11 e11 ⊢
        have np11 : ∀ p, H11 p = none → p ≠ b ∧ p ≠ qx ∧ p ≠ qy ∧ p ≠ qa := fun p hp => by
          have ob : ∀ {x : Addr} {o : HO}, H7 x = some o → p ≠ x := fun {x o} hx => by
            by_cases z : x = b ∨ x = q
            · rcases z with rfl | rfl
              · obtain ⟨i, v, s, hb⟩ := B9.b
                exact (ne_of_none (e11 _ _ hb (by simp)) hp).symm
              · exact (ne_of_none (e11 _ _ hq9 (by simp)) hp).symm
            · simp only [not_or] at z
              exact (ne_of_none (e11 _ _ (e9 _ _ hx (by simp [z])) (by simp)) hp).symm
          obtain ⟨i, v, s, hb⟩ := N7.bag.b
          exact ⟨ob hb, ob x7, ob y7, ob a7⟩
        -- what stands behind the side
        have fin : ∀ (d' : PyData) (pd' : Addr) (H12 : Hp), Fr [] H9 H12 → (∃ vs, H12 pd' = some (.lst vs) ∧ FlatL vs d') → (pd' ≠ b ∧ pd' ≠ qx ∧ pd' ≠ qy ∧ pd' ≠ qa) →
            (∀ xs2 ys2 : List Int, ((q = qy ∧ i = 0) → xs2 = xs ∧ ys2 = zs') → ((q = qx ∧ i = 1) → xs2 = zs' ∧ ys2 = ys') → OutE n as xs2 ys2 d') →
            ∀ o9 o10 o11 o12 : Option V, ∃ (xs' ys' : List Int) (d : PyData) (pd : Addr), Fr [b] H H12 ∧ NetR b c pa px py H12 ts as xs ys ∧ H12 pl = some (.lst [.int 2, .int 1]) ∧ H12 qa = some (.lst (ts.map V.ref)) ∧ H12 qx = some (.lst (xs'.map V.int)) ∧ H12 qy = some (.lst (ys'.map V.int)) ∧ H12 qc = some (.lst [.ref qa, .ref qx, .ref qy]) ∧
              as.length = xs'.length ∧ as.length = ys'.length ∧ OutE n as xs' ys' d ∧ (∃ vs, H12 pd = some (.lst vs) ∧ FlatL vs d) ∧ (pd ≠ b ∧ pd ≠ qx ∧ pd ≠ qy ∧ pd ≠ qa) ∧ (i + 1 ≤ 1 → xs' = xs) ∧ (i + 1 = 0 → ys' = ys) ∧ ∃ o7' o8' o9' o10' o11' o12' o13' o14' o15' o16' o17' : Option V,
              [some (.ref b), some (.int (n : Int)), some (.ref pa), some (.ref px), some (.ref py), some (.ref qc), some (.ref pd'), some (.int side), some (.ref q), o9, o10, o11, o12, o13, o14, o15, o16, o17] =
                [some (.ref b), some (.int (n : Int)), some (.ref pa), some (.ref px), some (.ref py), some (.ref qc), some (.ref pd), o7', o8', o9', o10', o11', o12', o13', o14', o15', o16', o17'] := by
          intro d' pd' H12 e12 hd' hne' hout o9 o10 o11 o12
          have fr12 : Fr [b] H H12 := fun x o hx hn => e12 x o (e9 x o (f7 x o hx hn) (by
            simp only [List.mem_cons, List.not_mem_nil, or_false] at hn ⊢
            rintro (z | z)
            · exact hn z
            · exact nq hx z)) (by simp)
          have N12 := N9.take e12 (N9.bag.fr e12 (by simp) (by simp)) (by simp) (by simp) (by simp) fun t _ => by simp
          have npq : pl ≠ q := by rcases hqi with ⟨e, _⟩ | ⟨e, _⟩ <;> rw [e] <;> assumption
          have naq : qa ≠ q := by rcases hqi with ⟨e, _⟩ | ⟨e, _⟩ <;> rw [e] <;> assumption
          have ncq : qc ≠ q := by rcases hqi with ⟨e, _⟩ | ⟨e, _⟩ <;> rw [e] <;> assumption
          have l12 := e12 _ _ (e9 _ _ l7 (by simp [nplb, npq])) (by simp)
          have a12 := e12 _ _ (e9 _ _ a7 (by simp [nqab, naq])) (by simp)
          have c12 := e12 _ _ (e9 _ _ c7 (by simp [nqcb, ncq])) (by simp)
          have q12 := e12 _ _ hq9 (by simp)
          rcases hqi with ⟨rfl, rfl⟩ | ⟨rfl, rfl⟩
          · have x12 := e12 _ _ (e9 _ _ x7 (by simp [nqxb, nxy])) (by simp)
            have ex := hi1 (by omega)
            subst ex
            exact ⟨xs', zs', d', pd', fr12, N12, l12, a12, x12, q12, c12, lx7, hl9, hout _ _ (fun _ => ⟨rfl, rfl⟩) (fun h => by omega), hd', hne', fun _ => rfl, fun h => by omega, _, _, _, _, _, _, _, _, _, _, _, rfl⟩
          · have y12 := e12 _ _ (e9 _ _ y7 (by simp [nqyb, nxy.symm])) (by simp)
            exact ⟨zs', ys', d', pd', fr12, N12, l12, a12, q12, y12, c12, hl9, ly7, hout _ _ (fun h => by omega) (fun _ => ⟨rfl, rfl⟩), hd', hne', fun h => by omega, fun h => by omega, _, _, _, _, _, _, _, _, _, _, _, rfl⟩
        have npq : pd ≠ q := by rcases hqi with ⟨e, _⟩ | ⟨e, _⟩ <;> rw [e] <;> simp [npd]
        have d9 := e9 _ _ d7 (by simp [npd.1, npq])
        refine ⟨_, rfl, _, _, rfl, .inl (SqL.of hw11), _, _, rfl, rfl, _, rfl, dec_iff (fun c => ?_) fun c => ?_⟩
        · cases hwr : wr with
          | nil => rw [hwr] at c; exact absurd c (by decide)
          | cons v l =>
            rw [hwr] at hw11
            obtain ⟨v1, v2, v3⟩ := fh v l hwr
            have v2 := of_decide_eq_true v2
            have v3 := fun u hu => Classical.byContradiction (of_decide_eq_false (v3 u hu))
            refine ⟨_, rfl, _, _, _, _, rfl, rfl, SqL.of hw11, at_map (f := vN) (j := 0) rfl, by show 4 ≤ sizeLine; decide, fun pd' hpd' => ?_⟩
            refine fin (dErr "node" v) pd' _ (e11.new hpd') ⟨_, upd_same, flat_err _ _⟩ (np11 pd' hpd') (fun xs2 ys2 h0 h1 => ?_) _ _ _ _
            rcases hqi with h | h
            · obtain ⟨rfl, rfl⟩ := h0 h
              exact .inr (.inr (.inr ⟨v, rfl, hgood, fun u _ => bal u, v1, v2, v3⟩))
            · obtain ⟨rfl, rfl⟩ := h1 h
              exact .inr (.inr (.inl ⟨v, rfl, hgood, v1, v2, v3⟩))
        · have hwr : wr = [] := by
            cases wr with
            | nil => rfl
            | cons v l => exact absurd (by rw [List.length_map, List.length_cons]; omega) c
          have z := fn hwr
          have z := fun u hu => Classical.byContradiction (of_decide_eq_false (z u hu))
          refine fin d pd _ e11 ⟨_, e11 _ _ d9 (by simp), fl7⟩ npd (fun xs2 ys2 h0 h1 => ?_) _ _ _ _
          rcases hqi with h | h
          · obtain ⟨rfl, rfl⟩ := h0 h
            have ex := hi1 (by omega)
            have ey := hi0 h.2
            subst ex ey
            have : d = dTold := out7.uniq (.inl ⟨rfl, hgood, fun v _ => bal v, fun v _ => bal' v⟩)
            exact .inl ⟨this, hgood, fun v _ => bal v, z⟩
          · obtain ⟨rfl, rfl⟩ := h1 h
            have ex := hi1 (by omega)
            subst ex
            rcases out7 with ⟨e, g, b1, b2⟩ | ⟨k', e, k1, k2, k3⟩ | ⟨v, e, g, v1, v2, v3⟩ | ⟨v, e, g, b1, v1, v2, v3⟩
            · exact .inl ⟨e, g, z, b2⟩
            · exact absurd (hgood k' k1) k2
            · exact absurd (bal v) v2
            · exact .inr (.inr (.inr ⟨v, e, g, z, v1, v2, v3⟩))
    · clear N6 N5 hl2 f6 e56 f5 a1 x1 y1 c1 d1 hpl npd
      rintro σ H7 ⟨xs', ys', d, pd, f7, N7, l7, a7, x7, y7, c7, lx7, ly7, out7, ⟨vd, d7, fl7⟩, npd, _, _, o7, o8, o9, o10, o11, o12, o13, o14, o15, o16, o17, rfl⟩
      refine ⟨_, rfl, _, _, _, _, rfl, rfl, SqL.of c7, rfl, by show 0 ≤ sizeLine; exact Nat.zero_le _, fun pp hpp => ?_⟩
      have e78 := (Fr.refl [] H7).new (o := .lst []) hpp
      have p8 : (upd H7 pp (.lst [])) pp = some (.lst []) := upd_same
      have N8 := N7.new (o := .lst []) hpp
      have npb : pp ≠ b := N7.bag.neb hpp
      have npc : pp ≠ c := N7.bag.nec hpp
      have npa : pp ≠ qa := (ne_of_none a7 hpp).symm
      have npx : pp ≠ qx := (ne_of_none x7 hpp).symm
      have npy : pp ≠ qy := (ne_of_none y7 hpp).symm
      have npq : pp ≠ qc := (ne_of_none c7 hpp).symm
      have npd2 : pp ≠ pd := (ne_of_none d7 hpp).symm
      have zp : H pp = none := fr_free f7 npb hpp
      generalize upd H7 pp (.lst []) = H8 at e78 p8 N8 ⊢
      have a8 := e78 _ _ a7 (by simp)
      have nq : ∀ {p q : Addr} {o : HO}, H p = some o → H q = none → p ≠ q := fun h z => ne_of_none h z
      have ntS : ∀ t ∈ ts, t ≠ qa ∧ t ≠ pp := fun t ht => by
        obtain ⟨k, hk⟩ := List.mem_iff_getElem?.mp ht
        have hl : k < as.length := by rw [← N.ln]; exact (List.getElem?_eq_some_iff.mp hk).1
        exact ⟨nq (N.tup k t _ hk (Cir.get_arc hl)) za, nq (N.tup k t _ hk (Cir.get_arc hl)) zp⟩
      refine ⟨_, rfl, b, c, 3, rfl, N8.bag, by decide, by decide, fun tz H9 z0 z1 e9 B9 => ?_⟩
      obtain ⟨tn, rfl⟩ : ∃ tn : Nat, tz = (tn : Int) := ⟨tz.toNat, by omega⟩
      refine ⟨_, rfl, (rg_ok (by omega)).1, (rg_ok (by omega)).2, for_rng (n := tn)
        (fun j σ H' => ∃ (ts' : List Addr) (as' : List Cir.Arc) (pl' : List Nat), Fr [b, qa, pp] H8 H' ∧ BagC H' b c ∧ H' qa = some (.lst (ts'.map V.ref)) ∧ ts'.length = as'.length ∧ as'.length = as.length ∧
          (∀ (k : Nat) (t : Addr) (p : Cir.Arc), ts'[k]? = some t → as'[k]? = some p → H' t = some (.tup [.int p.1, .int p.2])) ∧ H' pp = some (.lst (pl'.map vN)) ∧ pl'.length ≤ j ∧
          (∀ k ∈ pl', k < as.length ∧ ¬ Cir.Good n (Cir.arcOf as' k)) ∧ (∀ k, k ∉ pl' → Cir.arcOf as' k = Cir.arcOf as k) ∧ ∃ o9 o10 o14 o15 o16 : Option V,
          σ = [some (.ref b), some (.int (n : Int)), some (.ref pa), some (.ref px), some (.ref py), some (.ref qc), some (.ref pd), o7, some (.ref qa), o9, o10, o11, o12, some (.ref pp), o14, o15, o16, o17])
        ⟨ts, as, [], e9.sub (by simp), B9, e9 _ _ a8 (by simpa using nqab), N.ln, rfl, fun k t p a b => e9 _ _ (N8.tup k t p a b) (by simpa using N.tb t (List.mem_of_getElem? a)), e9 _ _ p8 (by simpa using npb), Nat.le_refl _, fun k hk => by simp at hk, fun k _ => rfl, _, _, _, _, _, rfl⟩ ?_ ?_⟩
      · clear e9 B9 z0
        rintro j σ H10 hj ⟨ts', as', pl', e10, B10, a10, l10, m10, t10, p10, pj, bad, same, o9, o10, o14, o15, o16, rfl⟩
        have la10 := e10 _ _ N8.la (by simp [N.nab, nq N.la za, nq N.la zp])
        refine ⟨_, rfl, _, rfl, _, _, rfl, .inl (SqL.of la10), b, c, _, rfl, B10, by rw [hts]; omega, by rw [hts]; exact log_ok hlt, fun at_ H11 w0 w1 e11 B11 => ?_⟩
        rw [hts] at w1
        obtain ⟨at_, rfl⟩ : ∃ q : Nat, at_ = (q : Int) := ⟨at_.toNat, by omega⟩
        have hat : at_ < as.length := by omega
        have e11' : Fr [b, qa, pp] H8 H11 := e10.trans (e11.sub (by simp))
        have a11 := e11 _ _ a10 (by simpa using nqab)
        have p11 := e11 _ _ p10 (by simpa using npb)
        have t11 : ∀ (k : Nat) (t : Addr) (p : Cir.Arc), ts'[k]? = some t → as'[k]? = some p → H11 t = some (.tup [.int p.1, .int p.2]) := fun k t p a b' => e11 _ _ (t10 k t p a b') (by
          obtain ⟨i, v, s, hb⟩ := B10.b
          simpa using ne_of (t10 k t p a b') hb (by intro z; cases z))
        have la11 := e11 _ _ la10 (by simpa using N.nab)
        obtain ⟨t0, ht0⟩ : ∃ t0, ts[at_]? = some t0 := ⟨_, List.getElem?_eq_getElem (by rw [N.ln]; exact hat)⟩
        have tt0 := e11' _ _ (N8.tup at_ t0 _ ht0 (Cir.get_arc hat)) (by simp [N.tb t0 (List.mem_of_getElem? ht0), ntS t0 (List.mem_of_getElem? ht0)])
        clear e10 B10 a10 p10 t10 la10 e11
        refine ⟨_, rfl, _, rfl, _, _, _, _, rfl, rfl, SqL.of la11, at_map ht0, _, _, rfl, SqT.of tt0, rfl, _, _, rfl, _, _, rfl, rfl, ?_⟩
        have g := hgood at_ hat
        generalize (Cir.arcOf as at_).1 = tl_ at g tt0 ⊢
        generalize (Cir.arcOf as at_).2 = hd_ at g tt0 ⊢
        have F0 := Fr.refl [] H11
        refine ⟨_, rfl, _, rfl, by show 2 ≤ sizeLine; decide, fun u0 hu0 => ?_⟩
        have f0 := (Fr.refl [] H11).new (o := (.tup [.int (tl_), .int (tl_)])) hu0
        have g0 : (upd H11 u0 (.tup [.int (tl_), .int (tl_)])) u0 = some (.tup [.int (tl_), .int (tl_)]) := upd_same
        generalize upd H11 u0 (.tup [.int (tl_), .int (tl_)]) = G0 at f0 g0 ⊢
        have F1 := F0.trans f0
        refine ⟨_, rfl, _, rfl, by show 2 ≤ sizeLine; decide, fun u1 hu1 => ?_⟩
        have f1 := (Fr.refl [] G0).new (o := (.tup [.int ((n : Int)), .int (hd_)])) hu1
        have g1 : (upd G0 u1 (.tup [.int ((n : Int)), .int (hd_)])) u1 = some (.tup [.int ((n : Int)), .int (hd_)]) := upd_same
        generalize upd G0 u1 (.tup [.int ((n : Int)), .int (hd_)]) = G1 at f1 g1 ⊢
        have g0 := f1 _ _ g0 (by simp)
        have F2 := F1.trans f1
        refine ⟨_, rfl, _, rfl, by show 2 ≤ sizeLine; decide, fun u2 hu2 => ?_⟩
        have f2 := (Fr.refl [] G1).new (o := (.tup [.int (tl_), .int (-1)])) hu2
        have g2 : (upd G1 u2 (.tup [.int (tl_), .int (-1)])) u2 = some (.tup [.int (tl_), .int (-1)]) := upd_same
        generalize upd G1 u2 (.tup [.int (tl_), .int (-1)]) = G2 at f2 g2 ⊢
        have g0 := f2 _ _ g0 (by simp)
        have g1 := f2 _ _ g1 (by simp)
        have F3 := F2.trans f2
        refine ⟨_, rfl, _, rfl, by show 2 ≤ sizeLine; decide, fun u3 hu3 => ?_⟩
        have f3 := (Fr.refl [] G2).new (o := (.tup [.int (-1), .int (hd_)])) hu3
        have g3 : (upd G2 u3 (.tup [.int (-1), .int (hd_)])) u3 = some (.tup [.int (-1), .int (hd_)]) := upd_same
        generalize upd G2 u3 (.tup [.int (-1), .int (hd_)]) = G3 at f3 g3 ⊢
        have g0 := f3 _ _ g0 (by simp)
        have g1 := f3 _ _ g1 (by simp)
        have g2 := f3 _ _ g2 (by simp)
        have F4 := F3.trans f3
        refine ⟨_, rfl, _, rfl, by show 2 ≤ sizeLine; decide, fun u4 hu4 => ?_⟩
        have f4 := (Fr.refl [] G3).new (o := (.tup [.int (tl_), .int ((n : Int))])) hu4
        have g4 : (upd G3 u4 (.tup [.int (tl_), .int ((n : Int))])) u4 = some (.tup [.int (tl_), .int ((n : Int))]) := upd_same
        generalize upd G3 u4 (.tup [.int (tl_), .int ((n : Int))]) = G4 at f4 g4 ⊢
        have g0 := f4 _ _ g0 (by simp)
        have g1 := f4 _ _ g1 (by simp)
        have g2 := f4 _ _ g2 (by simp)
        have g3 := f4 _ _ g3 (by simp)
        have F5 := F4.trans f4
        refine ⟨_, rfl, _, rfl, by show 2 ≤ sizeLine; decide, fun u5 hu5 => ?_⟩
        have f5 := (Fr.refl [] G4).new (o := (.tup [.int (hd_), .int (hd_)])) hu5
        have g5 : (upd G4 u5 (.tup [.int (hd_), .int (hd_)])) u5 = some (.tup [.int (hd_), .int (hd_)]) := upd_same
        generalize upd G4 u5 (.tup [.int (hd_), .int (hd_)]) = G5 at f5 g5 ⊢
        have g0 := f5 _ _ g0 (by simp)
        have g1 := f5 _ _ g1 (by simp)
        have g2 := f5 _ _ g2 (by simp)
        have g3 := f5 _ _ g3 (by simp)
        have g4 := f5 _ _ g4 (by simp)
        have F6 := F5.trans f5
        refine ⟨by show 6 ≤ sizeLine; decide, fun pe hpe => ?_⟩
        have F7 := F6.new (o := .lst [.ref u0, .ref u1, .ref u2, .ref u3, .ref u4, .ref u5]) hpe
        have E7 := (Fr.refl [] G5).new (o := .lst [.ref u0, .ref u1, .ref u2, .ref u3, .ref u4, .ref u5]) hpe
        have hpe7 : (upd G5 pe (.lst [.ref u0, .ref u1, .ref u2, .ref u3, .ref u4, .ref u5])) pe = some (.lst [.ref u0, .ref u1, .ref u2, .ref u3, .ref u4, .ref u5]) := upd_same
        generalize upd G5 pe (.lst [.ref u0, .ref u1, .ref u2, .ref u3, .ref u4, .ref u5]) = G7 at F7 E7 hpe7 ⊢
        have B7 := B11.fr F7 (by simp) (by simp)
        have hpeb : pe ≠ b := by
          obtain ⟨i, v, s, hb⟩ := (B11.fr F6 (by simp) (by simp) : BagC G5 b c).b
          exact (ne_of_none hb hpe).symm
        refine ⟨_, rfl, _, rfl, b, c, 6, rfl, B7, by decide, by decide, fun z G8 w2 w3 e8 B8 => ?_⟩
        have pick : ∃ (tz : Addr) (e : Cir.Arc), atI [V.ref u0, .ref u1, .ref u2, .ref u3, .ref u4, .ref u5] z = some (.ref tz) ∧ G7 tz = some (.tup [.int e.1, .int e.2]) ∧ ¬ Cir.Good n e := by
          have hz : z = 0 ∨ z = 1 ∨ z = 2 ∨ z = 3 ∨ z = 4 ∨ z = 5 := by omega
          rcases hz with rfl | rfl | rfl | rfl | rfl | rfl
          · exact ⟨u0, (tl_, tl_), rfl, E7 _ _ g0 (by simp), fun h => h.2.2 rfl⟩
          · exact ⟨u1, ((n : Int), hd_), rfl, E7 _ _ g1 (by simp), fun h => absurd h.1.2 (Int.lt_irrefl _)⟩
          · exact ⟨u2, (tl_, -1), rfl, E7 _ _ g2 (by simp), fun h => absurd h.2.1.1 (by show ¬ (0 : Int) ≤ -1; decide)⟩
          · exact ⟨u3, (-1, hd_), rfl, E7 _ _ g3 (by simp), fun h => absurd h.1.1 (by show ¬ (0 : Int) ≤ -1; decide)⟩
          · exact ⟨u4, (tl_, (n : Int)), rfl, E7 _ _ g4 (by simp), fun h => absurd h.2.1.2 (Int.lt_irrefl _)⟩
          · exact ⟨u5, (hd_, hd_), rfl, E7 _ _ g5 (by simp), fun h => h.2.2 rfl⟩
        obtain ⟨tz, e, hz1, hz2, hbad⟩ := pick
        have tzb : tz ≠ b := by
          obtain ⟨i, v, s, hb⟩ := B7.b
          exact ne_of hz2 hb (by intro z; cases z)
        have hz3 := e8 _ _ hz2 (by simpa using tzb)
        have a8' := e8 _ _ (F7 _ _ a11 (by simp)) (by simpa using nqab)
        have p8' := e8 _ _ (F7 _ _ p11 (by simp)) (by simpa using npb)
        have e8' : Fr [b, qa, pp] H8 G8 := (e11'.trans F7.nil).trans (e8.sub (by simp))
        have t8 : ∀ (k : Nat) (t : Addr) (p : Cir.Arc), ts'[k]? = some t → as'[k]? = some p → G8 t = some (.tup [.int p.1, .int p.2]) := fun k t p a b' => e8 _ _ (F7 _ _ (t11 k t p a b') (by simp)) (by
          obtain ⟨i, v, s, hb⟩ := B11.b
          simpa using ne_of (t11 k t p a b') hb (by intro z; cases z))
        refine ⟨_, _, _, _, rfl, rfl, SqL.of (e8 _ _ hpe7 (by simpa using hpeb)), hz1, _, rfl, _, rfl, _, _, _, _, rfl, rfl, a8', ix_nat (by rw [List.length_map]; omega), ?_⟩
        have p9 : (upd G8 qa (.lst ((ts'.map V.ref).set at_ (.ref tz)))) pp = some (.lst (pl'.map vN)) := by rw [upd_ne npa]; exact p8'
        refine ⟨_, rfl, .inl ⟨rfl, _, SqL.of p9⟩, _, rfl, _, _, _, rfl, rfl, p9, len_lt (by rw [List.length_map]; omega), ?_⟩
        refine ⟨ts'.set at_ tz, as'.set at_ e, pl' ++ [at_], (e8'.put (.inl (by simp))).put (.inl (by simp)), (B8.put nqab nqac).put npb npc, by rw [upd_ne (Ne.symm npa), upd_same, List.map_set], by rw [List.length_set, List.length_set]; exact l10, by rw [List.length_set]; exact m10, fun k t p a b' => ?_, by rw [upd_same, List.map_append]; rfl, by simp; omega, fun k hk => ?_, fun k hk => ?_, _, _, _, _, _, rfl⟩
        · have nt : ∀ {x : Addr} {l : List V}, G8 x = some (.tup l) → x ≠ pp ∧ x ≠ qa := fun h => ⟨ne_of h p8' (by intro z; cases z), ne_of h a8' (by intro z; cases z)⟩
          by_cases ck : k = at_
          · subst ck
            rw [List.getElem?_set_self (by omega)] at a b'
            cases Option.some.inj a
            cases Option.some.inj b'
            rw [upd_ne (nt hz3).1, upd_ne (nt hz3).2]
            exact hz3
          · rw [List.getElem?_set_ne (Ne.symm ck)] at a b'
            have h := t8 k t p a b'
            rw [upd_ne (nt h).1, upd_ne (nt h).2]
            exact h
        · by_cases ck : k = at_
          · subst ck
            exact ⟨hat, by rw [arcOf_set (by omega)]; exact hbad⟩
          · rcases List.mem_append.mp hk with hk | hk
            · rw [arcOf_set_ne (Ne.symm ck)]
              exact bad k hk
            · exact absurd (List.mem_singleton.mp hk) ck
        · simp only [List.mem_append, List.mem_singleton, not_or] at hk
          rw [arcOf_set_ne (Ne.symm hk.2)]
          exact same k hk.1
      · clear e9 B9 z0
        rintro σ H10 ⟨ts', as', pl', e10, B10, a10, l10, m10, t10, p10, pj, bad, same, o9, o10, o14, o15, o16, rfl⟩
        have x10 := e10 _ _ (e78 _ _ x7 (by simp)) (by simp [nqxb, nax.symm, npx.symm])
        have y10 := e10 _ _ (e78 _ _ y7 (by simp)) (by simp [nqyb, nay.symm, npy.symm])
        have c10 := e10 _ _ (e78 _ _ c7 (by simp)) (by simp [nqcb, nca, npq.symm])
        have d10 := e10 _ _ (e78 _ _ d7 (by simp)) (by simp [npd, npd2.symm])
        have fr10 : Fr [b] H H10 := fun x o hx hn => e10 x o (e78 x o (f7 x o hx hn) (by simp)) (by
          have h1 := nq hx za
          have h2 := nq hx zp
          simp only [List.mem_cons, List.not_mem_nil, or_false] at hn ⊢
          simp [hn, h1, h2])
        refine ⟨fun σ' H' => ∃ (pd : Addr) (d : PyData), Fr [] H10 H' ∧ OutE n as' xs' ys' d ∧ Dp K H' (.ref pd) d ∧
          σ' = [some (.ref b), some (.int (n : Int)), some (.ref pa), some (.ref px), some (.ref py), some (.ref qc), some (.ref pd), o7, some (.ref qa), o9, o10, o11, o12, some (.ref pp), o14, o15, o16, o17], ?_, ?_⟩
        · refine ⟨_, rfl, _, _, rfl, .inl (SqL.of p10), _, _, rfl, rfl, _, rfl, dec_iff (fun cc => ?_) fun cc => ?_⟩
          · rw [List.length_map] at cc
            refine ⟨_, rfl, pp, pl'.map (fun (k : Nat) => (k : Int)), rfl, SqL.of (by rw [List.map_map]; exact p10), by rw [List.length_map]; omega, fun m hm hle => ?_⟩
            obtain ⟨k0, hk0, rfl⟩ := List.mem_map.mp hm
            have hle' : ∀ k ∈ pl', k0 ≤ k := fun k hk => by
              have := hle (k : Int) (List.mem_map.mpr ⟨k, hk, rfl⟩)
              omega
            refine ⟨by show 4 ≤ sizeLine; decide, fun pe hpe => ?_⟩
            refine ⟨pe, dErr "arc" k0, (Fr.refl [] H10).new hpe, .inr (.inl ⟨k0, rfl, by rw [m10]; exact (bad k0 hk0).1, (bad k0 hk0).2, fun j hj => ?_⟩), flat_err _ _ K _ _ upd_same, rfl⟩
            have hjn : j ∉ pl' := fun h => by have := hle' j h; omega
            rw [same j hjn]
            have := (bad k0 hk0).1
            exact hgood j (by omega)
          · rw [List.length_map] at cc
            have pe : pl' = [] := List.eq_nil_of_length_eq_zero (by omega)
            have ea : as' = as := arc_ext m10 fun k _ => same k (by rw [pe]; simp)
            exact ⟨pd, d, Fr.refl _ _, by rw [ea]; exact out7, fl7 K _ _ d10, rfl⟩
        rintro σ' H11 ⟨pd', d', e11, out11, d11, rfl⟩
        have A11 : ArcsAt K H11 qa as' := ⟨ts', SqL.of (e11 _ _ a10 (by simp)), l10, fun k t p a b' => SqT.of (e11 _ _ (t10 k t p a b') (by simp))⟩
        refine ⟨_, rfl, _, rfl, _, _, _, _, rfl, rfl, SqL.of (e11 _ _ c10 (by simp)), rfl, _, rfl, _, _, _, _, rfl, rfl, SqL.of (e11 _ _ c10 (by simp)), rfl, _, rfl, _, _, _, _, rfl, rfl, SqL.of (e11 _ _ c10 (by simp)), rfl, ?_⟩
        refine ⟨n, qa, qx, qy, as', xs', ys', rfl, A11, SqL.of (e11 _ _ x10 (by simp)), SqL.of (e11 _ _ y10 (by simp)), by rw [m10]; exact lx7, by rw [m10]; exact ly7, by omega, by omega, fun d2 p2 H12 ho2 e12 hd2 => ?_⟩
        have ed := ho2.uniq out11
        subst ed
        have ok := ho2.ok (by omega) (by omega)
        refine ⟨_, rfl, _, _, d2, rfl, hd2, dp_fr e12 _ _ d11, ok.shaped, ok.show_, ok.line, ?_⟩
        exact k _ ((fr10.trans e11.nil).trans e12.nil) ((B10.fr e11 (by simp) (by simp)).fr e12 (by simp) (by simp))
end
section
variable {P : Program} {w : World} {K : PySem.W.Frag} {mg : Str → Option Value} {base : Heap} {CD CA CU CB : Addr}
theorem ok_law {f : Addr} {fd : FuncData} (F : Fun K "law" "law" s_law f fd) (T : TxtL P K mg CD CA CU CB) (F_law_bag : FnB P w K mg base CX0 1 "_law_bag" ["script"] (spBag K)) (F_law_take : FnB P w K mg base CX0 1 "_law_take" ["bag", "many"] spTake)
    (F_law_pair : FnB P w K mg base CX0 2 "_law_pair" ["bag", "count", "rounds", "longest"] (spPair K)) (F_exchanges : FnB P w K mg base (L2.CX P w) 4 "exchanges" ["count", "arcs", "first", "second"] (spExch K CA CU))
    (F_law_leads : FnB P w K mg base CX0 2 "_law_leads" ["count", "arcs", "first", "second", "told"] (spLawLeads K)) (F_law_same : FnGB P w K mg base CX0 1 "_law_same" ["left", "right"] (spSameX K))
    (F_law_refused : FnGB P w K mg base CX0 6 "_law_refused" ["bag", "count", "arcs", "first", "second"] (spRefused K)) : FnG P w K mg base CX0 7 f fd ["script"] (spLaw K) := by
  refine F.okG sc_law (fun vs H Q E h => ?_) (fun cdv A outer s H vs Q E hr hgu h => ?_)
  · obtain ⟨a, ns, rfl, _⟩ := h
    rfl
  · obtain ⟨a, ns, rfl, hS, hlen, k⟩ := h
    refine ⟨_, (pss_cons (ps_set (i := 1) sc_law.nd rfl (Or.inl rfl) (pe_callF F_law_bag (hr.mono (by decide)) rfl pass0 (pa_cons (pv 0) pa_nil)))
    (pss_cons (ps_set (i := 2) sc_law.nd rfl (Or.inl rfl) (pe_cmpR op_eq (pe_callF F_law_take (hr.mono (by decide)) rfl pass0 (pa_cons (pv 1) (pa_cons pe_int pa_nil))) pe_int (nomark _)))
    (pss_cons (ps_set (i := 3) sc_law.nd rfl (Or.inl rfl) (pe_op op_add pe_int (pe_callF F_law_take (hr.mono (by decide)) rfl pass0 (pa_cons (pv 1) (pa_cons (pe_ifExp (pt_val (pv 2)) pe_int pe_int) pa_nil)))))
    (pss_cons (ps_asg (pe_callF F_law_pair (hr.mono (by decide)) rfl pass0 (pa_cons (pv 1) (pa_cons (pv 3) (pa_cons (pe_ix ix_list (pe_lst (pa_cons pe_int (pa_cons pe_int (pa_cons pe_int (pa_cons pe_int (pa_cons pe_int (pa_cons pe_int (pa_cons pe_int (pa_cons pe_int (pa_cons pe_int pa_nil)))))))))) (pe_callF F_law_take (hr.mono (by decide)) rfl pass0 (pa_cons (pv 1) (pa_cons pe_int pa_nil))) (fun _ _ => rfl)) (pa_cons (pe_ifExp (pt_val (pv 2)) pe_int pe_int) pa_nil))))) (pg_unl rfl (pgs_cons (pg_name (i := 4) sc_law.nd rfl (Or.inl rfl)) (pgs_cons (pg_name (i := 5) sc_law.nd rfl (Or.inl rfl)) (pgs_cons (pg_name (i := 6) sc_law.nd rfl (Or.inl rfl)) pgs_nil)))))
    (Evl.pss_cut (ps_if (pt_cmpR op_eq (pe_callF F_law_take (hr.mono (by decide)) rfl pass0 (pa_cons (pv 1) (pa_cons pe_int pa_nil))) pe_int (nomark _))
      (pss_one (ps_set (i := 6) sc_law.nd rfl (Or.inl rfl) (pe_callTy call_list_of (by rfl) T.m_list (by decide +kernel) (pa_cons (pv 5) pa_nil))))
      pss_nil)
    (pss_cons (ps_set (i := 7) sc_law.nd rfl (Or.inl rfl) (pe_lst (pa_cons (pe_callTy call_list_of (by rfl) T.m_list (by decide +kernel) (pa_cons (pv 4) pa_nil)) (pa_cons (pe_callTy call_list_of (by rfl) T.m_list (by decide +kernel) (pa_cons (pv 5) pa_nil)) (pa_cons (pe_callTy call_list_of (by rfl) T.m_list (by decide +kernel) (pa_cons (pv 6) pa_nil)) pa_nil)))))
    (pss_cons (ps_set (i := 8) sc_law.nd rfl (Or.inl rfl) (pe_callF F_exchanges (hr.mono (by decide)) rfl passN (pa_cons (pv 3) (pa_cons (pe_ix ix_list (pv 7) pe_int (fun _ _ => rfl)) (pa_cons (pe_ix ix_list (pv 7) pe_int (fun _ _ => rfl)) (pa_cons (pe_ix ix_list (pv 7) pe_int (fun _ _ => rfl)) pa_nil))))))
    (pss_cons (ps_if (PW.pt (pw_or (pt_cmpR (op_neD hr.units) (pv 7) (pe_lst (pa_cons (pv 4) (pa_cons (pv 5) (pa_cons (pv 6) pa_nil)))) (nomark _)) (pw_or1 (pt_not (pt_val (pe_callF F_law_leads (hr.mono (by decide)) rfl pass0 (pa_cons (pv 3) (pa_cons (pv 4) (pa_cons (pv 5) (pa_cons (pv 6) (pa_cons (pv 8) pa_nil)))))))))))
      (pss_one (ps_ret pe_bl))
      pss_nil)
    (pss_cons (ps_setLc (i := 9) (own := [("row", 11)]) rfl sc_law.nd rfl rfl (sw_true rfl rfl rfl (by decide +kernel)) (pi_list (pv 8)) (blkOk_by (own := [("row", 11)]) (N := n_law) (sc := defScope s_law) (by decide +kernel)) (fun _ _ _ _ _ => (pg_name (i := 11) sc_law.nd rfl (Or.inl rfl))) (fun _ _ _ _ _ => pts_nil) (fun _ _ _ _ _ => (pe_callTy (r := rListOf K) call_list_ofK (by rfl) T.m_list (by decide +kernel) (pa_cons (pv 11) pa_nil))))
    (pss_cons (ps_expr (pe_bm PySem.F.plainAttrs_list PySem.F.slot_list_append PySem.F.type_list_append mt_append (pe_ix ix_list (pv 8) pe_int (fun _ _ => rfl)) (pa_cons pe_int pa_nil)))
    (pss_cons (ps_expr (pe_bm PySem.F.plainAttrs_list PySem.F.slot_list_append PySem.F.type_list_append mt_append (pv 8) (pa_cons (pe_lst pa_nil) pa_nil)))
    (pss_cons (ps_if (pt_not (pt_val (pe_callG F_law_same (hr.mono (by decide)) hgu rfl pass0 (pa_cons (pe_callF F_exchanges (hr.mono (by decide)) rfl passN (pa_cons (pv 3) (pa_cons (pe_callTy call_list_of (by rfl) T.m_list (by decide +kernel) (pa_cons (pv 4) pa_nil)) (pa_cons (pe_callTy call_list_of (by rfl) T.m_list (by decide +kernel) (pa_cons (pv 5) pa_nil)) (pa_cons (pe_callTy call_list_of (by rfl) T.m_list (by decide +kernel) (pa_cons (pv 6) pa_nil)) pa_nil))))) (pa_cons (pv 9) pa_nil)))))
      (pss_one (ps_ret pe_bl))
      pss_nil)
    (pss_cons (ps_if (pt_cmpR op_eq (pe_callB call_len_seq (by rfl) T.m_len (by decide +kernel) (pa_cons (pv 4) pa_nil)) pe_int (nomark _))
      (pss_one (ps_ret pe_bl))
      pss_nil)
    (pss_cons (ps_for PassesOwn.never rfl (pi_range1 (by rfl) T.m_range (pa_cons pe_int pa_nil)) (pg_name (i := 10) sc_law.nd rfl (Or.inl rfl))
      (pss_one (ps_if (pt_not (pt_val (pe_callG F_law_refused (hr.mono (by decide)) hgu rfl pass0 (pa_cons (pv 1) (pa_cons (pv 3) (pa_cons (pv 4) (pa_cons (pv 5) (pa_cons (pv 6) pa_nil))))))))
        (pss_one (ps_ret pe_bl))
        pss_nil)))
    (pss_one (ps_ret pe_bl)))))))))))))))), ?_⟩
    refine ⟨_, rfl, a, ns, rfl, hS, by omega, fun b c H1 hb hc e1 B1 => ?_⟩
    refine ⟨_, rfl, b, c, 10, rfl, B1, by decide, by decide, fun t H2 t0 t1 e2 B2 => ⟨rfl, ?_⟩⟩
    dsimp only
    generalize decide (V.int t = V.int 0) = lb
    clear B1 e1 hb hc e2 t0 t1 t
    refine ⟨_, rfl, ?_⟩
    refine tIf_q lb 59 7 (fun R h => ⟨_, rfl, _, rfl, h⟩) (fun R h => h) (fun R h => h) ?_
    have m1 : 0 < (if lb = true then (59 : Int) else 7) ∧ (if lb = true then (59 : Int) else 7) ≤ 59 := by cases lb <;> decide
    refine ⟨b, c, _, rfl, B2, m1.1, log_ok (Nat.lt_of_le_of_lt (m := 100) (by omega) (by decide)), fun t H3 t0 t1 e3 B3 => ⟨_, _, rfl, rfl, ?_⟩⟩
    obtain ⟨n, hn, hn2, hn60⟩ : ∃ n : Nat, 2 + t = (n : Int) ∧ 2 ≤ n ∧ n ≤ 60 := ⟨(2 + t).toNat, by omega, by omega, by omega⟩
    dsimp only
    rw [hn]
    clear B2 e3 t0 t1 m1 hn t
    refine ⟨_, rfl, _, rfl, by show 9 ≤ sizeLine; decide, fun pq hpq => ?_⟩
    have B4 := B3.new (o := .lst [.int 2, .int 1, .int 3, .int 4, .int 5, .int 6, .int 7, .int 8, .int 0]) hpq
    have q4 : (upd H3 pq (.lst [.int 2, .int 1, .int 3, .int 4, .int 5, .int 6, .int 7, .int 8, .int 0])) pq = some (.lst [.int 2, .int 1, .int 3, .int 4, .int 5, .int 6, .int 7, .int 8, .int 0]) := upd_same
    have npqb : pq ≠ b := B3.neb hpq
    generalize upd H3 pq (.lst [.int 2, .int 1, .int 3, .int 4, .int 5, .int 6, .int 7, .int 8, .int 0]) = H4 at B4 q4 ⊢
    refine ⟨_, rfl, b, c, 9, rfl, B4, by decide, by decide, fun t H5 t0 t1 e5 B5 => ?_⟩
    obtain ⟨r, hr1, hr8⟩ : ∃ r : Nat, atI [V.int 2, .int 1, .int 3, .int 4, .int 5, .int 6, .int 7, .int 8, .int 0] t = some (.int (r : Int)) ∧ r ≤ 8 := by
      have hz : t = 0 ∨ t = 1 ∨ t = 2 ∨ t = 3 ∨ t = 4 ∨ t = 5 ∨ t = 6 ∨ t = 7 ∨ t = 8 := by omega
      rcases hz with rfl | rfl | rfl | rfl | rfl | rfl | rfl | rfl | rfl
      · exact ⟨2, rfl, by decide⟩
      · exact ⟨1, rfl, by decide⟩
      · exact ⟨3, rfl, by decide⟩
      · exact ⟨4, rfl, by decide⟩
      · exact ⟨5, rfl, by decide⟩
      · exact ⟨6, rfl, by decide⟩
      · exact ⟨7, rfl, by decide⟩
      · exact ⟨8, rfl, by decide⟩
      · exact ⟨0, rfl, by decide⟩
    refine ⟨_, _, _, _, rfl, rfl, SqL.of (e5 _ _ q4 (by simpa using npqb)), hr1, ?_⟩
    refine tIf_q lb 37 8 (fun R h => ⟨_, rfl, _, rfl, h⟩) (fun R h => h) (fun R h => h) ?_
    obtain ⟨l, hl, hl2, hl37⟩ : ∃ l : Nat, (if lb = true then (37 : Int) else 8) = (l : Int) ∧ 2 ≤ l ∧ l ≤ 37 := by
      cases lb
      · exact ⟨8, rfl, by decide, by decide⟩
      · exact ⟨37, rfl, by decide, by decide⟩
    rw [hl]
    refine ⟨b, c, n, r, l, rfl, B5, hn2, hn60, hr8, hl2, hl37, fun p pa px py ts as xs ys H6 N hp okx oky bal bal' => ?_⟩
    refine ⟨p, _, rfl, SqL.of hp, rfl, _, _, rfl, _, _, rfl, _, _, rfl, rfl, ?_⟩
    replace N := N.r
    clear hp hl hl2 hl37 hr1 hr8 e5 q4 B5 B4 B3 hpq npqb t0 t1 t H2 H3
    have good := okx.good
    have hlx := okx.len
    have hly := oky.len
    have few := okx.few
    have bx : ∀ k, k < as.length → -(2 * BIG * ((296 : Nat) : Int)) ≤ Cir.part xs k ∧ Cir.part xs k ≤ 2 * BIG * ((296 : Nat) : Int) := fun k hk => okx.size k (by omega)
    have by_ : ∀ k, k < as.length → -(2 * BIG * ((296 : Nat) : Int)) ≤ Cir.part ys k ∧ Cir.part ys k ≤ 2 * BIG * ((296 : Nat) : Int) := fun k hk => oky.size k (by omega)
    clear okx oky
    -- second
    refine ⟨fun σ' H' => ∃ (py : Addr) (ys : List Int), NetR b c pa px py H' ts as xs ys ∧ as.length = ys.length ∧ (∀ k, k < as.length → -(2 * BIG * ((296 : Nat) : Int)) ≤ Cir.part ys k ∧ Cir.part ys k ≤ 2 * BIG * ((296 : Nat) : Int)) ∧ (∀ v, Cir.net as ys v = 0) ∧
      σ' = [some (.ref a), some (.ref b), some (.bl lb), some (.int (n : Int)), some (.ref pa), some (.ref px), some (.ref py), none, none, none, none, none], ?_, ?_⟩
    · refine ⟨_, rfl, b, c, 8, rfl, N.bag, by decide, by decide, fun z H7 z0 z1 e7 B7 => ⟨rfl, _, rfl, ?_⟩⟩
      have N7 := N.bagS e7 B7
      refine eq_if (fun _ => ?_) fun _ => ⟨py, ys, N7, hly, by_, bal', rfl⟩
      refine ⟨_, rfl, _, _, rfl, .inl (SqL.of N7.lx), fun q hq => ?_⟩
      have N8 := N7.new (o := .lst (xs.map V.int)) hq
      exact ⟨q, xs, ⟨N8.bag, N8.la, N8.lx, upd_same, N8.ln, N8.tup, N8.nab, N8.nxb, N7.bag.neb hq⟩, hlx, bx, bal, rfl⟩
    clear N hly by_ bal' ys py
    rintro σ' H7 ⟨py, ys, N, hly, by_, bal', rfl⟩
    have L := Cir.exchanges_ok (n := n) good hlx hly bal bal' bx by_
    -- passed
    refine ⟨_, rfl, _, _, rfl, .inl (SqL.of N.la), fun qa hqa => ?_⟩
    have a1 : (upd H7 qa (.lst (ts.map V.ref))) qa = some (.lst (ts.map V.ref)) := upd_same
    have N1 := N.new (o := .lst (ts.map V.ref)) hqa
    generalize upd H7 qa (.lst (ts.map V.ref)) = H8 at a1 N1 ⊢
    refine ⟨_, rfl, _, _, rfl, .inl (SqL.of N1.lx), fun qx hqx => ?_⟩
    have x1 : (upd H8 qx (.lst (xs.map V.int))) qx = some (.lst (xs.map V.int)) := upd_same
    have a1 : (upd H8 qx (.lst (xs.map V.int))) qa = some (.lst (ts.map V.ref)) := by rw [upd_ne (ne_of_none a1 hqx)]; exact a1
    have N2 := N1.new (o := .lst (xs.map V.int)) hqx
    generalize upd H8 qx (.lst (xs.map V.int)) = H9 at a1 x1 N2 ⊢
    refine ⟨_, rfl, _, _, rfl, .inl (SqL.of N2.ly), fun qy hqy => ?_⟩
    have f3 := (Fr.refl [] H9).new (o := .lst (ys.map V.int)) hqy
    have y1 : (upd H9 qy (.lst (ys.map V.int))) qy = some (.lst (ys.map V.int)) := upd_same
    have a1 := f3 _ _ a1 (by simp)
    have x1 := f3 _ _ x1 (by simp)
    have N3 := N2.new (o := .lst (ys.map V.int)) hqy
    generalize upd H9 qy (.lst (ys.map V.int)) = H10 at a1 x1 y1 N3 ⊢
    refine ⟨by show 3 ≤ sizeLine; decide, fun qc hqc => ?_⟩
    have f4 := (Fr.refl [] H10).new (o := .lst [.ref qa, .ref qx, .ref qy]) hqc
    have c1 : (upd H10 qc (.lst [.ref qa, .ref qx, .ref qy])) qc = some (.lst [.ref qa, .ref qx, .ref qy]) := upd_same
    have a1 := f4 _ _ a1 (by simp)
    have x1 := f4 _ _ x1 (by simp)
    have y1 := f4 _ _ y1 (by simp)
    have N4 := N3.new (o := .lst [.ref qa, .ref qx, .ref qy]) hqc
    generalize upd H10 qc (.lst [.ref qa, .ref qx, .ref qy]) = H11 at a1 x1 y1 c1 N4 ⊢
    clear N N1 N2 N3 f3 f4 hqa hqx hqy hqc
    -- told
    have A4 : ArcsAt K H11 qa as := ⟨ts, SqL.of a1, N4.ln, fun k t p a b => SqT.of (N4.tup k t p a b)⟩
    refine ⟨_, rfl, _, rfl, _, _, _, _, rfl, rfl, SqL.of c1, rfl, _, rfl, _, _, _, _, rfl, rfl, SqL.of c1, rfl, _, rfl, _, _, _, _, rfl, rfl, SqL.of c1, rfl, ?_⟩
    refine ⟨n, qa, qx, qy, as, xs, ys, rfl, A4, SqL.of x1, SqL.of y1, hlx, hly, by omega, by omega, fun _ _ _ pt H12 hpt e12 hR => ?_, fun k hk hb => absurd (good k hk) hb, fun _ v hv hb => absurd (bal v) hb, fun _ _ v hv hb => absurd (bal' v) hb⟩
    have N5 := N4.take e12 (N4.bag.fr e12 (by simp) (by simp)) (by simp) (by simp) (by simp) fun t _ => by simp
    have a1 := e12 _ _ a1 (by simp)
    have x1 := e12 _ _ x1 (by simp)
    have y1 := e12 _ _ y1 (by simp)
    have c1 := e12 _ _ c1 (by simp)
    have frsh : ∀ {x : Addr} {o : HO} {r : Addr}, H11 x = some o → H11 r = none → r ≠ x := fun h z => (ne_of_none h z).symm
    -- as they were
    refine ⟨_, rfl, _, rfl, _, rfl, _, rfl, by show 3 ≤ sizeLine; decide, fun pz hpz => ?_⟩
    have f6 := (Fr.refl [] H12).new (o := .lst [.ref pa, .ref px, .ref py]) hpz
    have z6 : (upd H12 pz (.lst [.ref pa, .ref px, .ref py])) pz = some (.lst [.ref pa, .ref px, .ref py]) := upd_same
    have N6 := N5.new (o := .lst [.ref pa, .ref px, .ref py]) hpz
    have R6 := hR.fr f6
    generalize upd H12 pz (.lst [.ref pa, .ref px, .ref py]) = H13 at f6 z6 N6 R6 ⊢
    have ok := dAll_ok as xs ys
    refine ⟨dAll as xs ys, dAll as xs ys, dp_all (f6 _ _ c1 (by simp)) (f6 _ _ a1 (by simp)) N6.ln N6.tup (f6 _ _ x1 (by simp)) (f6 _ _ y1 (by simp)), dp_all z6 N6.la N6.ln N6.tup N6.lx N6.ly, ok.1, ok.1, ?_⟩
    rw [ok.2]
    refine ⟨_, rfl, iteN rfl ?_⟩
    refine ⟨_, rfl, _, rfl, _, rfl, _, rfl, _, rfl, n, pa, px, py, pt, as, xs, ys, _, _, rfl, N6.arcs, SqL.of N6.lx, SqL.of N6.ly, R6.imp (fun _ _ => trivial), by omega, by omega, hlx, hly, good, L, fun H14 e14 => ⟨_, rfl, iteN rfl ?_⟩⟩
    have N7 := N6.take e14 (N6.bag.fr e14 (by simp) (by simp)) (by simp) (by simp) (by simp) fun t _ => by simp
    have R7 := R6.fr e14
    generalize hrows : Cir.exchangesF n as xs ys = rows at L R7
    clear hR R6 f6 z6 a1 x1 y1 c1 e14 hpz N5 N6 ok A4 e12
    have rl : rows.length ≤ 297 := by
      have h1 := L.few
      have h2 : Cir.differ as.length xs ys ≤ as.length := by
        unfold Cir.differ Cir.changedL
        exact Nat.le_trans (List.length_filter_le _ _) (by simp)
      omega
    have rpos : 0 < rows.length := by
      have := L.head
      cases rows with
      | nil => cases this
      | cons _ _ => simp
    obtain ⟨rs, g1, g2, g3, g4, g5⟩ := R7
    have rowAt : ∀ {i : Nat} {r : Addr}, rs[i]? = some r → ∃ row, rows[i]? = some row ∧ H14 r = some (.lst (row.map V.int)) := fun {i r} hi => by
      have hl : i < rows.length := by rw [← g2]; exact (List.getElem?_eq_some_iff.mp hi).1
      exact ⟨_, List.getElem?_eq_getElem hl, g5 i r _ hi (List.getElem?_eq_getElem hl)⟩
    -- kept
    refine ⟨_, rfl, pt, rfl, ⟨_, SqL.of g1⟩, fun pk hpk => lc_list (K := K) (a := pt) (xs := rs.map V.ref) (fun i H' => Fr [] H14 H' ∧ RowsN (fun r => H14 r = none) H' pk (rows.take i)) ⟨(Fr.refl _ H14).new hpk, [], upd_same, rfl, List.nodup_nil, fun r h => by simp at h, fun k r row a => by simp at a⟩
      (fun i H2 _ z => SqL.of (z.1 _ _ g1 (by simp))) ?_ ?_⟩
    · rintro i y H2 hy ⟨e, R⟩
      obtain ⟨r, hr, rfl⟩ := get_mapf hy
      obtain ⟨row, hrow, hr2⟩ := rowAt hr
      refine ⟨rfl, _, rfl, r, _, rfl, .inl (SqL.of (e _ _ hr2 (by simp))), fun q hq => ?_⟩
      obtain ⟨ks, k1, k2, R'⟩ := R.snoc (row := row) hq (e.free hq)
      refine ⟨_, by rw [upd_ne (ne_of_none k1 hq)]; exact k1, len_lt ?_, (e.new hq).put (.inr hpk), by rw [take_succ hrow]; exact R'⟩
      rw [List.length_map, k2, List.length_take]
      omega
    rintro H15 ⟨e15, R15⟩
    rw [List.length_map, g2, List.take_length] at R15
    obtain ⟨r0, hr0⟩ : ∃ r0, rs[0]? = some r0 := ⟨_, List.getElem?_eq_getElem (by omega)⟩
    obtain ⟨row0, hw0, hw1⟩ := rowAt hr0
    have z0 := g4 r0 (List.mem_of_getElem? hr0)
    have g15 := e15 _ _ g1 (by simp)
    have w15 := e15 _ _ hw1 (by simp)
    have wl : row0.length = as.length := (L.rows row0 (List.mem_of_getElem? hw0)).1
    have npk : pk ≠ r0 ∧ pk ≠ pt := ⟨(ne_of_none hw1 hpk).symm, (ne_of_none g1 hpk).symm⟩
    -- told[0].append(1), told.append([])
    refine ⟨_, rfl, _, _, _, _, rfl, rfl, SqL.of g15, at_map (j := 0) hr0, .inl ⟨rfl, _, SqL.of w15⟩, _, _, _, rfl, rfl, w15, len_lt (by rw [List.length_map]; omega), ?_⟩
    have e16 : Fr [r0, pt] H15 (upd H15 r0 (.lst (row0.map V.int ++ [.int 1]))) := (Fr.refl _ H15).put (.inl (by simp))
    have g16 : (upd H15 r0 (.lst (row0.map V.int ++ [.int 1]))) pt = some (.lst (rs.map V.ref)) := by rw [upd_ne (Ne.symm z0.2)]; exact g15
    have R16 : RowsN (fun r => H14 r = none) (upd H15 r0 (.lst (row0.map V.int ++ [.int 1]))) pk rows := R15.put (Ne.symm npk.1) fun r hr => (ne_of_none hw1 hr).symm
    generalize upd H15 r0 (.lst (row0.map V.int ++ [.int 1])) = H16 at e16 g16 R16 ⊢
    refine ⟨_, rfl, .inl ⟨rfl, _, SqL.of g16⟩, by show 0 ≤ sizeLine; exact Nat.zero_le _, fun q hq => ⟨_, _, _, rfl, rfl, by rw [upd_ne (ne_of_none g16 hq)]; exact g16, len_lt (by rw [List.length_map]; omega), ?_⟩⟩
    have e17 : Fr [r0, pt] H15 (upd (upd H16 q (.lst [])) pt (.lst (rs.map V.ref ++ [.ref q]))) := (e16.new hq).put (.inl (by simp))
    have R17 : RowsN (fun r => H14 r = none) (upd (upd H16 q (.lst [])) pt (.lst (rs.map V.ref ++ [.ref q]))) pk rows := (R16.fr ((Fr.refl [] H16).new hq)).put (Ne.symm npk.2) fun r hr => (ne_of_none g1 hr).symm
    generalize upd (upd H16 q (.lst [])) pt (.lst (rs.map V.ref ++ [.ref q])) = H17 at e17 R17 ⊢
    have out : ∀ {x : Addr} {o : HO}, H11 x = some o → x ∉ [r0, pt] := fun h => by
      have h1 := frsh h z0.1
      have h2 := frsh h hpt
      simp [h1.symm, h2.symm]
    have N17 : NetR b c pa px py H17 ts as xs ys := by
      have e : Fr [r0, pt] H14 H17 := e15.nil.trans e17
      obtain ⟨i, v, s, hb⟩ := N4.bag.b
      have hc : c ∉ [r0, pt] := by
        obtain ⟨ns, i, v, s, hB⟩ := N4.bag
        exact out hB.2.1
      refine N7.take e (N7.bag.fr e (out hb) hc) (out N4.la) (out N4.lx) (out N4.ly) fun t ht => ?_
      obtain ⟨k, hk⟩ := List.mem_iff_getElem?.mp ht
      have hl : k < as.length := by rw [← N4.ln]; exact (List.getElem?_eq_some_iff.mp hk).1
      exact out (N4.tup k t _ hk (Cir.get_arc hl))
    clear g1 g2 g3 g4 g5 rowAt e15 R15 hr0 hw0 hw1 z0 g15 w15 wl npk e16 g16 R16 e17 out N7 N4 hpt frsh hq hpk
    -- again
    refine ⟨_, rfl, _, rfl, _, _, rfl, .inl (SqL.of N17.la), fun q1 hq1 => ?_⟩
    have a1 : (upd H17 q1 (.lst (ts.map V.ref))) q1 = some (.lst (ts.map V.ref)) := upd_same
    have N1 := N17.new (o := .lst (ts.map V.ref)) hq1
    have R1 := R17.fr ((Fr.refl [] H17).new (o := .lst (ts.map V.ref)) hq1)
    generalize upd H17 q1 (.lst (ts.map V.ref)) = H18 at a1 N1 R1 ⊢
    refine ⟨_, rfl, _, _, rfl, .inl (SqL.of N1.lx), fun q2 hq2 => ?_⟩
    have f2 := (Fr.refl [] H18).new (o := .lst (xs.map V.int)) hq2
    have x1 : (upd H18 q2 (.lst (xs.map V.int))) q2 = some (.lst (xs.map V.int)) := upd_same
    have a1 := f2 _ _ a1 (by simp)
    have N2 := N1.new (o := .lst (xs.map V.int)) hq2
    have R2 := R1.fr f2
    generalize upd H18 q2 (.lst (xs.map V.int)) = H19 at f2 a1 x1 N2 R2 ⊢
    refine ⟨_, rfl, _, _, rfl, .inl (SqL.of N2.ly), fun q3 hq3 => ?_⟩
    have f3 := (Fr.refl [] H19).new (o := .lst (ys.map V.int)) hq3
    have y1 : (upd H19 q3 (.lst (ys.map V.int))) q3 = some (.lst (ys.map V.int)) := upd_same
    have a1 := f3 _ _ a1 (by simp)
    have x1 := f3 _ _ x1 (by simp)
    have N3 := N2.new (o := .lst (ys.map V.int)) hq3
    have R3 := R2.fr f3
    generalize upd H19 q3 (.lst (ys.map V.int)) = H20 at a1 x1 y1 N3 R3 ⊢
    have A3 : ArcsAt K H20 q1 as := ⟨ts, SqL.of a1, N3.ln, fun k t p a b => SqT.of (N3.tup k t p a b)⟩
    refine ⟨n, q1, q2, q3, as, xs, ys, rfl, A3, SqL.of x1, SqL.of y1, hlx, hly, by omega, by omega, fun _ _ _ p2 H21 _ e21 hR2 => ?_, fun k hk hb => absurd (good k hk) hb, fun _ v hv hb => absurd (bal v) hb, fun _ _ v hv hb => absurd (bal' v) hb⟩
    rw [hrows] at hR2
    have ok : OkD 2 (297 * (296 * (40 + 3) + 3 + 2) + 3) (dIss rows) := OkD.rows (by decide) (by decide) (fun r hr => by
      obtain ⟨r1, _, r3⟩ := L.rows r hr
      refine ⟨by omega, fun x hx => ?_⟩
      obtain ⟨k, hk⟩ := List.mem_iff_getElem?.mp hx
      have hkl := (List.getElem?_eq_some_iff.mp hk).1
      have := r3 k (by omega)
      rw [Cir.part_get hk] at this
      unfold BIG at this
      have e40 : (10 : Nat) ^ 40 = 10000000000000000000000000000000000000000 := by decide
      rw [e40]
      omega) rl
    refine ⟨_, rfl, _, _, dIss rows, rfl, dp_rowsN hR2, dp_rowsN (R3.fr e21), ok.shaped, ok.show_, ok.line, ⟨_, rfl, iteN rfl ?_⟩⟩
    have N21 := N3.take e21 (N3.bag.fr e21 (by simp) (by simp)) (by simp) (by simp) (by simp) fun t _ => by simp
    clear R17 N17 a1 x1 y1 N1 N2 N3 R1 R2 R3 f2 f3 A3 hR2 ok e21 hq1 hq2 hq3 L hrows rl rpos
    refine ⟨_, rfl, _, _, rfl, .inl (SqL.of N21.la), rfl, _, rfl, eq_if (fun _ => k _) fun ne => ?_⟩
    rw [List.length_map, N21.ln] at ne
    refine ⟨3, rfl, by decide, by decide, for_rng (n := 3)
      (fun i σ H' => NetR b c pa px py H' ts as xs ys ∧ ∃ o10 : Option V, σ = [some (.ref a), some (.ref b), some (.bl lb), some (.int (n : Int)), some (.ref pa), some (.ref px), some (.ref py), some (.ref qc), some (.ref pt), some (.ref pk), o10, none])
      ⟨N21, _, rfl⟩ ?_ ?_⟩
    · rintro i σ H22 hi ⟨N22, o10, rfl⟩
      refine ⟨_, rfl, _, rfl, _, rfl, _, rfl, _, rfl, b, c, pa, px, py, n, ts, as, xs, ys, rfl, N22, by omega, by omega, by omega, hlx, hly, good, bal, bal', fun H23 e23 B23 => ⟨_, rfl, iteN rfl ⟨N22.bagS e23 B23, _, rfl⟩⟩⟩
    · rintro σ H22 ⟨N22, o10, rfl⟩
      exact k _
end

/-! ### what the top has written, and the law -/
theorem all_mk {P : Program} {w : World} {K : PySem.W.Frag} {h : Heap} {mg : Str → Option Value} {fa CA CU CD CB f1 f2 f3 f4 f5 f6 f7 f8 f9 f10 f11 f12 f13 f14 f15 f16 f17 : Addr} (X : K.In h) (G : h.Ns mainGlobals mg) (hfa : mg "law" = some (.ref fa))
    {od1 an1 : Option Addr} {sl1 : Array (Option Value)} {oc1 kV1 dc1 pm1 cd1 ct1 : Value}
    {od2 an2 : Option Addr} {sl2 : Array (Option Value)} {oc2 kV2 dc2 pm2 cd2 ct2 : Value}
    {od3 an3 : Option Addr} {sl3 : Array (Option Value)} {oc3 kV3 dc3 pm3 cd3 ct3 : Value}
    {od4 an4 : Option Addr} {sl4 : Array (Option Value)} {oc4 kV4 dc4 pm4 cd4 ct4 : Value}
    {od5 an5 : Option Addr} {sl5 : Array (Option Value)} {oc5 kV5 dc5 pm5 cd5 ct5 : Value}
    {od6 an6 : Option Addr} {sl6 : Array (Option Value)} {oc6 kV6 dc6 pm6 cd6 ct6 : Value}
    {od7 an7 : Option Addr} {sl7 : Array (Option Value)} {oc7 kV7 dc7 pm7 cd7 ct7 : Value}
    {od8 an8 : Option Addr} {sl8 : Array (Option Value)} {oc8 kV8 dc8 pm8 cd8 ct8 : Value}
    {od9 an9 : Option Addr} {sl9 : Array (Option Value)} {oc9 kV9 dc9 pm9 cd9 ct9 : Value}
    {od10 an10 : Option Addr} {sl10 : Array (Option Value)} {oc10 kV10 dc10 pm10 cd10 ct10 : Value}
    {od11 an11 : Option Addr} {sl11 : Array (Option Value)} {oc11 kV11 dc11 pm11 cd11 ct11 : Value}
    {od12 an12 : Option Addr} {sl12 : Array (Option Value)} {oc12 kV12 dc12 pm12 cd12 ct12 : Value}
    {od13 an13 : Option Addr} {sl13 : Array (Option Value)} {oc13 kV13 dc13 pm13 cd13 ct13 : Value}
    {od14 an14 : Option Addr} {sl14 : Array (Option Value)} {oc14 kV14 dc14 pm14 cd14 ct14 : Value}
    {od15 an15 : Option Addr} {sl15 : Array (Option Value)} {oc15 kV15 dc15 pm15 cd15 ct15 : Value}
    {od16 an16 : Option Addr} {sl16 : Array (Option Value)} {oc16 kV16 dc16 pm16 cd16 ct16 : Value}
    {od17 an17 : Option Addr} {sl17 : Array (Option Value)} {oc17 kV17 dc17 pm17 cd17 ct17 : Value}
    (gA : PySem.W.nsIn K mainGlobals "BadArc" = some (some (.ref CA)))
    (TA : ∃ fI, XS.ErrTxt P K mg "BadArc" "BadArc.__init__" s_iA ["arc"] CA fI)
    (gU : PySem.W.nsIn K mainGlobals "Unbalanced" = some (some (.ref CU)))
    (TU : ∃ fI, XS.ErrTxt P K mg "Unbalanced" "Unbalanced.__init__" s_iU ["node"] CU fI)
    (a1 : PySem.W.nsIn K mainGlobals "_check_ends" = some (some (.ref f1)))
    (l1 : K.lookup f1 = some ⟨oc1, od1, .func (PySem.W.fnOf "_check_ends" "_check_ends" (defArgs s_check_ends) (defBody s_check_ends) (defScope s_check_ends) .none kV1 dc1 pm1 an1 cd1 ct1), sl1⟩)
    (c1 : PySem.W.codeIn K cd1 "_check_ends" = true) (k1 : PySem.W.keepIn K (.ref f1) = true)
    (a2 : PySem.W.nsIn K mainGlobals "_spare" = some (some (.ref f2)))
    (l2 : K.lookup f2 = some ⟨oc2, od2, .func (PySem.W.fnOf "_spare" "_spare" (defArgs s_spare) (defBody s_spare) (defScope s_spare) .none kV2 dc2 pm2 an2 cd2 ct2), sl2⟩)
    (c2 : PySem.W.codeIn K cd2 "_spare" = true) (k2 : PySem.W.keepIn K (.ref f2) = true)
    (a3 : PySem.W.nsIn K mainGlobals "_check_balance" = some (some (.ref f3)))
    (l3 : K.lookup f3 = some ⟨oc3, od3, .func (PySem.W.fnOf "_check_balance" "_check_balance" (defArgs s_check_balance) (defBody s_check_balance) (defScope s_check_balance) .none kV3 dc3 pm3 an3 cd3 ct3), sl3⟩)
    (c3 : PySem.W.codeIn K cd3 "_check_balance" = true) (k3 : PySem.W.keepIn K (.ref f3) = true)
    (a4 : PySem.W.nsIn K mainGlobals "_near" = some (some (.ref f4)))
    (l4 : K.lookup f4 = some ⟨oc4, od4, .func (PySem.W.fnOf "_near" "_near" (defArgs s_near) (defBody s_near) (defScope s_near) .none kV4 dc4 pm4 an4 cd4 ct4), sl4⟩)
    (c4 : PySem.W.codeIn K cd4 "_near" = true) (k4 : PySem.W.keepIn K (.ref f4) = true)
    (a5 : PySem.W.nsIn K mainGlobals "_difference_round" = some (some (.ref f5)))
    (l5 : K.lookup f5 = some ⟨oc5, od5, .func (PySem.W.fnOf "_difference_round" "_difference_round" (defArgs s_difference_round) (defBody s_difference_round) (defScope s_difference_round) .none kV5 dc5 pm5 an5 cd5 ct5), sl5⟩)
    (c5 : PySem.W.codeIn K cd5 "_difference_round" = true) (k5 : PySem.W.keepIn K (.ref f5) = true)
    (a6 : PySem.W.nsIn K mainGlobals "exchanges" = some (some (.ref f6)))
    (l6 : K.lookup f6 = some ⟨oc6, od6, .func (PySem.W.fnOf "exchanges" "exchanges" (defArgs s_exchanges) (defBody s_exchanges) (defScope s_exchanges) .none kV6 dc6 pm6 an6 cd6 ct6), sl6⟩)
    (c6 : PySem.W.codeIn K cd6 "exchanges" = true) (k6 : PySem.W.keepIn K (.ref f6) = true)
    (a7 : PySem.W.nsIn K mainGlobals "_law_bag" = some (some (.ref f7)))
    (l7 : K.lookup f7 = some ⟨oc7, od7, .func (PySem.W.fnOf "_law_bag" "_law_bag" (defArgs s_law_bag) (defBody s_law_bag) (defScope s_law_bag) .none kV7 dc7 pm7 an7 cd7 ct7), sl7⟩)
    (c7 : PySem.W.codeIn K cd7 "_law_bag" = true) (k7 : PySem.W.keepIn K (.ref f7) = true)
    (a8 : PySem.W.nsIn K mainGlobals "_law_take" = some (some (.ref f8)))
    (l8 : K.lookup f8 = some ⟨oc8, od8, .func (PySem.W.fnOf "_law_take" "_law_take" (defArgs s_law_take) (defBody s_law_take) (defScope s_law_take) .none kV8 dc8 pm8 an8 cd8 ct8), sl8⟩)
    (c8 : PySem.W.codeIn K cd8 "_law_take" = true) (k8 : PySem.W.keepIn K (.ref f8) = true)
    (a9 : PySem.W.nsIn K mainGlobals "_law_pair" = some (some (.ref f9)))
    (l9 : K.lookup f9 = some ⟨oc9, od9, .func (PySem.W.fnOf "_law_pair" "_law_pair" (defArgs s_law_pair) (defBody s_law_pair) (defScope s_law_pair) .none kV9 dc9 pm9 an9 cd9 ct9), sl9⟩)
    (c9 : PySem.W.codeIn K cd9 "_law_pair" = true) (k9 : PySem.W.keepIn K (.ref f9) = true)
    (a10 : PySem.W.nsIn K mainGlobals "_law_spare" = some (some (.ref f10)))
    (l10 : K.lookup f10 = some ⟨oc10, od10, .func (PySem.W.fnOf "_law_spare" "_law_spare" (defArgs s_law_spare) (defBody s_law_spare) (defScope s_law_spare) .none kV10 dc10 pm10 an10 cd10 ct10), sl10⟩)
    (c10 : PySem.W.codeIn K cd10 "_law_spare" = true) (k10 : PySem.W.keepIn K (.ref f10) = true)
    (a11 : PySem.W.nsIn K mainGlobals "_law_round" = some (some (.ref f11)))
    (l11 : K.lookup f11 = some ⟨oc11, od11, .func (PySem.W.fnOf "_law_round" "_law_round" (defArgs s_law_round) (defBody s_law_round) (defScope s_law_round) .none kV11 dc11 pm11 an11 cd11 ct11), sl11⟩)
    (c11 : PySem.W.codeIn K cd11 "_law_round" = true) (k11 : PySem.W.keepIn K (.ref f11) = true)
    (a12 : PySem.W.nsIn K mainGlobals "_law_nearer" = some (some (.ref f12)))
    (l12 : K.lookup f12 = some ⟨oc12, od12, .func (PySem.W.fnOf "_law_nearer" "_law_nearer" (defArgs s_law_nearer) (defBody s_law_nearer) (defScope s_law_nearer) .none kV12 dc12 pm12 an12 cd12 ct12), sl12⟩)
    (c12 : PySem.W.codeIn K cd12 "_law_nearer" = true) (k12 : PySem.W.keepIn K (.ref f12) = true)
    (a13 : PySem.W.nsIn K mainGlobals "_law_leads" = some (some (.ref f13)))
    (l13 : K.lookup f13 = some ⟨oc13, od13, .func (PySem.W.fnOf "_law_leads" "_law_leads" (defArgs s_law_leads) (defBody s_law_leads) (defScope s_law_leads) .none kV13 dc13 pm13 an13 cd13 ct13), sl13⟩)
    (c13 : PySem.W.codeIn K cd13 "_law_leads" = true) (k13 : PySem.W.keepIn K (.ref f13) = true)
    (a14 : PySem.W.nsIn K mainGlobals "_law_same" = some (some (.ref f14)))
    (l14 : K.lookup f14 = some ⟨oc14, od14, .func (PySem.W.fnOf "_law_same" "_law_same" (defArgs s_law_same) (defBody s_law_same) (defScope s_law_same) .none kV14 dc14 pm14 an14 cd14 ct14), sl14⟩)
    (c14 : PySem.W.codeIn K cd14 "_law_same" = true) (k14 : PySem.W.keepIn K (.ref f14) = true)
    (a15 : PySem.W.nsIn K mainGlobals "_law_outcome" = some (some (.ref f15)))
    (l15 : K.lookup f15 = some ⟨oc15, od15, .func (PySem.W.fnOf "_law_outcome" "_law_outcome" (defArgs s_law_outcome) (defBody s_law_outcome) (defScope s_law_outcome) .none kV15 dc15 pm15 an15 cd15 ct15), sl15⟩)
    (c15 : PySem.W.codeIn K cd15 "_law_outcome" = true) (k15 : PySem.W.keepIn K (.ref f15) = true)
    (a16 : PySem.W.nsIn K mainGlobals "_law_refused" = some (some (.ref f16)))
    (l16 : K.lookup f16 = some ⟨oc16, od16, .func (PySem.W.fnOf "_law_refused" "_law_refused" (defArgs s_law_refused) (defBody s_law_refused) (defScope s_law_refused) .none kV16 dc16 pm16 an16 cd16 ct16), sl16⟩)
    (c16 : PySem.W.codeIn K cd16 "_law_refused" = true) (k16 : PySem.W.keepIn K (.ref f16) = true)
    (a17 : PySem.W.nsIn K mainGlobals "law" = some (some (.ref f17)))
    (l17 : K.lookup f17 = some ⟨oc17, od17, .func (PySem.W.fnOf "law" "law" (defArgs s_law) (defBody s_law) (defScope s_law) .none kV17 dc17 pm17 an17 cd17 ct17), sl17⟩)
    (c17 : PySem.W.codeIn K cd17 "law" = true) (k17 : PySem.W.keepIn K (.ref f17) = true)
    (z_len : PySem.W.nsIn K mainGlobals "len" = some none)
    (z_int : PySem.W.nsIn K mainGlobals "int" = some none)
    (z_range : PySem.W.nsIn K mainGlobals "range" = some none)
    (z_list : PySem.W.nsIn K mainGlobals "list" = some none)
    (z_min : PySem.W.nsIn K mainGlobals "min" = some none)
    (z_max : PySem.W.nsIn K mainGlobals "max" = some none)
    (z_abs : PySem.W.nsIn K mainGlobals "abs" = some none)
    (z_isinstance : PySem.W.nsIn K mainGlobals "isinstance" = some none)
    (z_bool : PySem.W.nsIn K mainGlobals "bool" = some none)
    (z_str : PySem.W.nsIn K mainGlobals "str" = some none)
    (z_tuple : PySem.W.nsIn K mainGlobals "tuple" = some none)
    (z_dict : PySem.W.nsIn K mainGlobals "dict" = some none)
    (z_sorted : PySem.W.nsIn K mainGlobals "sorted" = some none)
    (z_sum : PySem.W.nsIn K mainGlobals "sum" = some none)
    (z_repr : PySem.W.nsIn K mainGlobals "repr" = some none)
    (z_zip : PySem.W.nsIn K mainGlobals "zip" = some none)
    (z_enumerate : PySem.W.nsIn K mainGlobals "enumerate" = some none)
    (z_reversed : PySem.W.nsIn K mainGlobals "reversed" = some none)
    (gD : PySem.W.nsIn K mainGlobals "DealError" = some (some (.ref CD)))
    (gB : PySem.W.nsIn K mainGlobals "BadNumber" = some (some (.ref CB)))
    (h1 : PySem.W.specialIn K (.builtin "object.__class__") "__get__" = some (some (.builtin "getset_descriptor.__get__")))
    (h2 : PySem.W.takesIn K (.builtin "object.__class__") = some true)
    (iAc : PySem.W.findIn K (.ref CA) "__class__" = some (some (.builtin "object.__class__")))
    (iAm : PySem.W.mroIn K CA (.type "object") = some true)
    (iUc : PySem.W.findIn K (.ref CU) "__class__" = some (some (.builtin "object.__class__")))
    (iUm : PySem.W.mroIn K CU (.type "object") = some true)
    (kAD : PySem.W.kitOne K (.ref CA) (.ref CD) = some true)
    (kUD : PySem.W.kitOne K (.ref CU) (.ref CD) = some true)
    (kAU : PySem.W.kitOne K (.ref CA) (.ref CU) = some false)
    (kUA : PySem.W.kitOne K (.ref CU) (.ref CA) = some false)
    (kAB : PySem.W.kitOne K (.ref CA) (.ref CB) = some false)
    (kUB : PySem.W.kitOne K (.ref CU) (.ref CB) = some false)
    (eUA : PySem.W.exmOne K (.ref CU) (.ref CA) = some false)
    : ∃ fd : FuncData, (∀ (s : Shared) (v : Value), BindsTo s fd ⟨[v], []⟩ [("script", v)]) ∧ ∀ base : Heap, K.In base → base.Ns mainGlobals mg → FnG P w K mg base CX0 7 fa fd ["script"] (spLaw K) := by
  have e := hfa.symm.trans (PySem.W.mg_of X G a17)
  cases e
  have B : Blt mg := { m_len := PySem.W.mg_none_of X G z_len, m_int := PySem.W.mg_none_of X G z_int, m_range := PySem.W.mg_none_of X G z_range, m_list := PySem.W.mg_none_of X G z_list, m_min := PySem.W.mg_none_of X G z_min, m_max := PySem.W.mg_none_of X G z_max, m_abs := PySem.W.mg_none_of X G z_abs, m_isinstance := PySem.W.mg_none_of X G z_isinstance, m_bool := PySem.W.mg_none_of X G z_bool, m_str := PySem.W.mg_none_of X G z_str, m_tuple := PySem.W.mg_none_of X G z_tuple, m_dict := PySem.W.mg_none_of X G z_dict, m_sorted := PySem.W.mg_none_of X G z_sorted, m_sum := PySem.W.mg_none_of X G z_sum, m_repr := PySem.W.mg_none_of X G z_repr, m_zip := PySem.W.mg_none_of X G z_zip, m_enumerate := PySem.W.mg_none_of X G z_enumerate, m_reversed := PySem.W.mg_none_of X G z_reversed }
  have T0 : Txt P K mg CA CU := { B with arc := TA, unb := TU }
  have T : TxtL P K mg CD CA CU CB := { T0 with h1 := h1, h2 := h2, g_DealError := PySem.W.mg_of X G gD, g_BadNumber := PySem.W.mg_of X G gB, iA := ⟨iAc, iAm⟩, iU := ⟨iUc, iUm⟩, kAD := kAD, kUD := kUD, kAU := kAU, kUA := kUA, kAB := kAB, kUB := kUB, eUA := eUA }
  have F1 := fun_mk (st := s_check_ends) l1 c1 k1
  have b1 := F1.binds (ps := ["count", "arcs"]) fun _ _ _ _ _ _ us hl => match us, hl with | [_, _], _ => rfl
  have F2 := fun_mk (st := s_spare) l2 c2 k2
  have b2 := F2.binds (ps := ["count", "arcs", "amounts"]) fun _ _ _ _ _ _ us hl => match us, hl with | [_, _, _], _ => rfl
  have F3 := fun_mk (st := s_check_balance) l3 c3 k3
  have b3 := F3.binds (ps := ["count", "arcs", "amounts"]) fun _ _ _ _ _ _ us hl => match us, hl with | [_, _, _], _ => rfl
  have F4 := fun_mk (st := s_near) l4 c4 k4
  have b4 := F4.binds (ps := ["count", "arcs"]) fun _ _ _ _ _ _ us hl => match us, hl with | [_, _], _ => rfl
  have F5 := fun_mk (st := s_difference_round) l5 c5 k5
  have b5 := F5.binds (ps := ["arcs", "near", "rest", "start"]) fun _ _ _ _ _ _ us hl => match us, hl with | [_, _, _, _], _ => rfl
  have F6 := fun_mk (st := s_exchanges) l6 c6 k6
  have b6 := F6.binds (ps := ["count", "arcs", "first", "second"]) fun _ _ _ _ _ _ us hl => match us, hl with | [_, _, _, _], _ => rfl
  have F7 := fun_mk (st := s_law_bag) l7 c7 k7
  have b7 := F7.binds (ps := ["script"]) fun _ _ _ _ _ _ us hl => match us, hl with | [_], _ => rfl
  have F8 := fun_mk (st := s_law_take) l8 c8 k8
  have b8 := F8.binds (ps := ["bag", "many"]) fun _ _ _ _ _ _ us hl => match us, hl with | [_, _], _ => rfl
  have F9 := fun_mk (st := s_law_pair) l9 c9 k9
  have b9 := F9.binds (ps := ["bag", "count", "rounds", "longest"]) fun _ _ _ _ _ _ us hl => match us, hl with | [_, _, _, _], _ => rfl
  have F10 := fun_mk (st := s_law_spare) l10 c10 k10
  have b10 := F10.binds (ps := ["count", "arcs", "amounts"]) fun _ _ _ _ _ _ us hl => match us, hl with | [_, _, _], _ => rfl
  have F11 := fun_mk (st := s_law_round) l11 c11 k11
  have b11 := F11.binds (ps := ["count", "arcs", "one", "two"]) fun _ _ _ _ _ _ us hl => match us, hl with | [_, _, _, _], _ => rfl
  have F12 := fun_mk (st := s_law_nearer) l12 c12 k12
  have b12 := F12.binds (ps := ["one", "two", "goal"]) fun _ _ _ _ _ _ us hl => match us, hl with | [_, _, _], _ => rfl
  have F13 := fun_mk (st := s_law_leads) l13 c13 k13
  have b13 := F13.binds (ps := ["count", "arcs", "first", "second", "told"]) fun _ _ _ _ _ _ us hl => match us, hl with | [_, _, _, _, _], _ => rfl
  have F14 := fun_mk (st := s_law_same) l14 c14 k14
  have b14 := F14.binds (ps := ["left", "right"]) fun _ _ _ _ _ _ us hl => match us, hl with | [_, _], _ => rfl
  have F15 := fun_mk (st := s_law_outcome) l15 c15 k15
  have b15 := F15.binds (ps := ["count", "arcs", "first", "second"]) fun _ _ _ _ _ _ us hl => match us, hl with | [_, _, _, _], _ => rfl
  have F16 := fun_mk (st := s_law_refused) l16 c16 k16
  have b16 := F16.binds (ps := ["bag", "count", "arcs", "first", "second"]) fun _ _ _ _ _ _ us hl => match us, hl with | [_, _, _, _, _], _ => rfl
  have F17 := fun_mk (st := s_law) l17 c17 k17
  have b17 := F17.binds (ps := ["script"]) fun _ _ _ _ _ _ us hl => match us, hl with | [_], _ => rfl
  refine ⟨PySem.W.fnOf "law" "law" (defArgs s_law) (defBody s_law) (defScope s_law) .none kV17 dc17 pm17 an17 cd17 ct17, fun s v => .of_eq rfl, fun base _ _ => ?_⟩
  have G_check_ends : FnB P w K mg base (L2.CX P w) 2 "_check_ends" ["count", "arcs"] (spCheckEnds K CA) := ⟨f1, _, ok_check_ends F1 T0, PySem.W.mg_of X G a1, k1, b1⟩
  have G_spare : FnB P w K mg base CX0 1 "_spare" ["count", "arcs", "amounts"] (spSpare K) := ⟨f2, _, ok_spare F2 T0, PySem.W.mg_of X G a2, k2, b2⟩
  have G_check_balance : FnB P w K mg base (L2.CX P w) 3 "_check_balance" ["count", "arcs", "amounts"] (spCheckBal K CU) := ⟨f3, _, ok_check_balance F3 T0 G_spare, PySem.W.mg_of X G a3, k3, b3⟩
  have G_near : FnB P w K mg base CX0 1 "_near" ["count", "arcs"] (spNear K) := ⟨f4, _, ok_near F4 T0, PySem.W.mg_of X G a4, k4, b4⟩
  have G_difference_round : FnB P w K mg base CX0 1 "_difference_round" ["arcs", "near", "rest", "start"] (spDRound K) := ⟨f5, _, ok_difference_round F5 T0, PySem.W.mg_of X G a5, k5, b5⟩
  have G_exchanges : FnB P w K mg base (L2.CX P w) 4 "exchanges" ["count", "arcs", "first", "second"] (spExch K CA CU) := ⟨f6, _, ok_exchanges F6 T0 G_check_ends G_check_balance G_near G_difference_round, PySem.W.mg_of X G a6, k6, b6⟩
  have G_law_bag : FnB P w K mg base CX0 1 "_law_bag" ["script"] (spBag K) := ⟨f7, _, ok_law_bag F7 B, PySem.W.mg_of X G a7, k7, b7⟩
  have G_law_take : FnB P w K mg base CX0 1 "_law_take" ["bag", "many"] (spTake) := ⟨f8, _, ok_law_take F8 B, PySem.W.mg_of X G a8, k8, b8⟩
  have G_law_pair : FnB P w K mg base CX0 2 "_law_pair" ["bag", "count", "rounds", "longest"] (spPair K) := ⟨f9, _, ok_law_pair F9 T0 G_law_take, PySem.W.mg_of X G a9, k9, b9⟩
  have G_law_spare : FnB P w K mg base CX0 1 "_law_spare" ["count", "arcs", "amounts"] (spSpare K) := ⟨f10, _, ok_law_spare F10 T0, PySem.W.mg_of X G a10, k10, b10⟩
  have G_law_round : FnB P w K mg base CX0 1 "_law_round" ["count", "arcs", "one", "two"] (spLawRound K) := ⟨f11, _, ok_law_round F11 T0, PySem.W.mg_of X G a11, k11, b11⟩
  have G_law_nearer : FnB P w K mg base CX0 1 "_law_nearer" ["one", "two", "goal"] (spLawNearer K) := ⟨f12, _, ok_law_nearer F12 T0, PySem.W.mg_of X G a12, k12, b12⟩
  have G_law_leads : FnB P w K mg base CX0 2 "_law_leads" ["count", "arcs", "first", "second", "told"] (spLawLeads K) := ⟨f13, _, ok_law_leads F13 T0 G_law_spare G_law_round G_law_nearer, PySem.W.mg_of X G a13, k13, b13⟩
  have G_law_same : FnGB P w K mg base CX0 1 "_law_same" ["left", "right"] (spSameX K) := ⟨f14, _, ok_law_same F14 B, PySem.W.mg_of X G a14, k14, b14⟩
  have G_law_outcome : FnB P w K mg base CX0 5 "_law_outcome" ["count", "arcs", "first", "second"] (spOutcome K) := ⟨f15, _, ok_law_outcome F15 T G_exchanges, PySem.W.mg_of X G a15, k15, b15⟩
  have G_law_refused : FnGB P w K mg base CX0 6 "_law_refused" ["bag", "count", "arcs", "first", "second"] (spRefused K) := ⟨f16, _, ok_law_refused F16 T G_law_take G_law_spare G_law_same G_law_outcome, PySem.W.mg_of X G a16, k16, b16⟩
  exact ok_law F17 T G_law_bag G_law_take G_law_pair G_exchanges G_law_leads G_law_same G_law_refused
theorem walk {l : PySem.W.OpenLaw} {q : Program} {loose : List Str} {XP : (Str → Option Value) → Heap → Prop} {YP : World → Heap → Prop} {d : DefRec} {K : Params → PySem.W.Frag} (hn : l.most = some 63) (hdf : d.params.defaults = [])
    (hY : ∀ (w : World) (h : Heap), YP w h → (K w.params).In h)
    (F : ∀ (w : World) (mg : Str → Option Value) (fa : Addr) (h : Heap), (K w.params).In h → h.Ns mainGlobals mg → mg d.name = some (.ref fa) →
      ∃ fd : FuncData, (∀ (s : Shared) (u : Value), BindsTo s fd ⟨[u], []⟩ [("script", u)]) ∧ ∀ base : Heap, (K w.params).In base → base.Ns mainGlobals mg → FnG l.prog w (K w.params) mg base CX0 7 fa fd ["script"] (spLaw (K w.params))) :
    PySem.W.WalkO q loose XP YP l.row.toRowW d [] (fun f vs => PySem.call f vs) :=
  L2.walk_ofG (n := 63) (k := 7) (x := "script") (sp := spLaw) hn (by decide) hdf ⟨rfl, by decide, by decide⟩ hY F fun _ _ a ns hl hS => ⟨a, ns, rfl, hS, hl, fun _ => rfl⟩
end K15
open PySem PySem.W PyProof.Rows
set_option maxRecDepth 100000 in
set_option maxHeartbeats 0 in
theorem PySem.Challenge.cw_eachfloweachlink_k15_exchanges_lead_ther_holds : PySem.Challenge.rw_eachfloweachlink_k15_exchanges_lead_ther.Holds := by
  w_on; o_law; k_head; (case hw => w_witness2)
  k_fill
  refine K15.walk (l := PySem.Challenge.rw_eachfloweachlink_k15_exchanges_lead_ther) rfl rfl (fun w h Y => PySem.W.kIn_of Y) ?F
  case F =>
    intro w mg fa h KX G hmg
    refine' K15.all_mk KX G hmg ?gA ?TA ?gU ?TU ?a1 ?l1 ?c1 ?k1 ?a2 ?l2 ?c2 ?k2 ?a3 ?l3 ?c3 ?k3 ?a4 ?l4 ?c4 ?k4 ?a5 ?l5 ?c5 ?k5 ?a6 ?l6 ?c6 ?k6 ?a7 ?l7 ?c7 ?k7 ?a8 ?l8 ?c8 ?k8 ?a9 ?l9 ?c9 ?k9 ?a10 ?l10 ?c10 ?k10 ?a11 ?l11 ?c11 ?k11 ?a12 ?l12 ?c12 ?k12 ?a13 ?l13 ?c13 ?k13 ?a14 ?l14 ?c14 ?k14 ?a15 ?l15 ?c15 ?k15 ?a16 ?l16 ?c16 ?k16 ?a17 ?l17 ?c17 ?k17 ?z_len ?z_int ?z_range ?z_list ?z_min ?z_max ?z_abs ?z_isinstance ?z_bool ?z_str ?z_tuple ?z_dict ?z_sorted ?z_sum ?z_repr ?z_zip ?z_enumerate ?z_reversed ?gD ?gB ?h1 ?h2 ?iAc ?iAm ?iUc ?iUm ?kAD ?kUD ?kAU ?kUA ?kAB ?kUB ?eUA
    (case gA => k_is)
    case TA =>
      refine' ⟨_, PySem.XS.errTxt_mk KX G ?gC ?xL ?hbm ?sup ?stc ?sa ?ga ?gg ?eC ?hC ?noF ?iC ?tI ?kC ?mC ?vC ?tC ?isC ?sC ?mgS ?l ?c ?lc ?ld ?hv ?hf ?top⟩
      (case gC => k_is)
      (case xL => k_is)
      (case hbm => decide +kernel)
      (case sup => ks_is)
      (case stc => k_is)
      (case sa => k_is)
      (case ga => k_is)
      (case gg => k_is)
      (case eC => k_is)
      (case hC => k_is)
      (case noF => (intro f hf; cases List.mem_singleton.mp hf; k_is))
      (case iC => k_is)
      (case tI => k_is)
      (case kC => k_is)
      (case mC => k_is)
      (case vC => k_is)
      (case tC => k_is)
      (case isC => k_is)
      (case sC => first | rfl | k_is)
      (case mgS => k_is)
      (case l => k_is)
      (case c => k_is)
      (case lc => k_is)
      (case ld => k_is)
      (case hv => rfl)
      (case hf => decide +kernel)
      (case top => decide +kernel)
    (case gU => k_is)
    case TU =>
      refine' ⟨_, PySem.XS.errTxt_mk KX G ?gC ?xL ?hbm ?sup ?stc ?sa ?ga ?gg ?eC ?hC ?noF ?iC ?tI ?kC ?mC ?vC ?tC ?isC ?sC ?mgS ?l ?c ?lc ?ld ?hv ?hf ?top⟩
      (case gC => k_is)
      (case xL => k_is)
      (case hbm => decide +kernel)
      (case sup => ks_is)
      (case stc => k_is)
      (case sa => k_is)
      (case ga => k_is)
      (case gg => k_is)
      (case eC => k_is)
      (case hC => k_is)
      (case noF => (intro f hf; cases List.mem_singleton.mp hf; k_is))
      (case iC => k_is)
      (case tI => k_is)
      (case kC => k_is)
      (case mC => k_is)
      (case vC => k_is)
      (case tC => k_is)
      (case isC => k_is)
      (case sC => first | rfl | k_is)
      (case mgS => k_is)
      (case l => k_is)
      (case c => k_is)
      (case lc => k_is)
      (case ld => k_is)
      (case hv => rfl)
      (case hf => decide +kernel)
      (case top => decide +kernel)
    (case a1 => k_is)
    (case l1 => k_is)
    (case c1 => k_is)
    (case k1 => k_is)
    (case a2 => k_is)
    (case l2 => k_is)
    (case c2 => k_is)
    (case k2 => k_is)
    (case a3 => k_is)
    (case l3 => k_is)
    (case c3 => k_is)
    (case k3 => k_is)
    (case a4 => k_is)
    (case l4 => k_is)
    (case c4 => k_is)
    (case k4 => k_is)
    (case a5 => k_is)
    (case l5 => k_is)
    (case c5 => k_is)
    (case k5 => k_is)
    (case a6 => k_is)
    (case l6 => k_is)
    (case c6 => k_is)
    (case k6 => k_is)
    (case a7 => k_is)
    (case l7 => k_is)
    (case c7 => k_is)
    (case k7 => k_is)
    (case a8 => k_is)
    (case l8 => k_is)
    (case c8 => k_is)
    (case k8 => k_is)
    (case a9 => k_is)
    (case l9 => k_is)
    (case c9 => k_is)
    (case k9 => k_is)
    (case a10 => k_is)
    (case l10 => k_is)
    (case c10 => k_is)
    (case k10 => k_is)
    (case a11 => k_is)
    (case l11 => k_is)
    (case c11 => k_is)
    (case k11 => k_is)
    (case a12 => k_is)
    (case l12 => k_is)
    (case c12 => k_is)
    (case k12 => k_is)
    (case a13 => k_is)
    (case l13 => k_is)
    (case c13 => k_is)
    (case k13 => k_is)
    (case a14 => k_is)
    (case l14 => k_is)
    (case c14 => k_is)
    (case k14 => k_is)
    (case a15 => k_is)
    (case l15 => k_is)
    (case c15 => k_is)
    (case k15 => k_is)
    (case a16 => k_is)
    (case l16 => k_is)
    (case c16 => k_is)
    (case k16 => k_is)
    (case a17 => k_is)
    (case l17 => k_is)
    (case c17 => k_is)
    (case k17 => k_is)
    (case z_len => k_is)
    (case z_int => k_is)
    (case z_range => k_is)
    (case z_list => k_is)
    (case z_min => k_is)
    (case z_max => k_is)
    (case z_abs => k_is)
    (case z_isinstance => k_is)
    (case z_bool => k_is)
    (case z_str => k_is)
    (case z_tuple => k_is)
    (case z_dict => k_is)
    (case z_sorted => k_is)
    (case z_sum => k_is)
    (case z_repr => k_is)
    (case z_zip => k_is)
    (case z_enumerate => k_is)
    (case z_reversed => k_is)
    (case gD => k_is)
    (case gB => k_is)
    (case h1 => k_is)
    (case h2 => k_is)
    (case iAc => k_is)
    (case iAm => k_is)
    (case iUc => k_is)
    (case iUm => k_is)
    (case kAD => kit_is)
    (case kUD => kit_is)
    (case kAU => kit_is)
    (case kUA => kit_is)
    (case kAB => kit_is)
    (case kUB => kit_is)
    (case eUA => kts_exm)
