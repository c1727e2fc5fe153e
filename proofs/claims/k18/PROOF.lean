import PyProof.Rows.All
import Wide.All
import OpenK.AllK
import Wide.FinOn
import PyProof.EqAt
import PyProof.EqKinds
import PyProof.TupleCall
import PyProof.ReprRoads
import PyProof.ReprLen
import KE.KExcSuper
import KE.KExcIs
import KE.DatumOrd
import KE.IntTextLaws
import KE.RegKSuper
import KE.RegKIsAll
import KE.RegKTryMore
import PySem.Challenge.RW_eachfloweachlink_k18_fractions_exact
import HandS.ForMost
import HandS.Exc
import HandS.ExcInit
import HandS.ExcOwn
import HandS.ExcField
import HandS.TryMany
import HandS.WordsExc
import HandS.Wide
import HandS.Deep
import HandS.Conv
import HandS.IsInst
import HandS.NoneIn
import HandS.Evl
import HandS.Base
import HandS.Call
import HandS.List
import HandS.Ends
import HandS.Words
import HandS.Text
import HandS.Walk
import HandS.Gcd
set_option Elab.async false
set_option linter.all false
set_option maxRecDepth 100000
set_option maxHeartbeats 4000000
/-! # Own errors over ValueError whose __init__ says super().__init__(text) and then stores its arguments -/
namespace PySem
namespace XS
open PySem.W PySem.Calls PyProof.Rows PySem.HandSPX

/-- the text of such an __init__: the scope, the arguments, the first statement, a store -/
def supS (msg : Str) (p0 p1 p2 p3 p4 p5 : Pos) (j : Nat) : Stmt :=
  .Expr (.Call (.Attribute (.Call (.Name "super" p0) [] [] p1) "__init__" p2) [.Constant (.str msg) j p3] [] p4) p5
def stoS (f : Str) (a1 a2 a3 a4 : Pos) : Stmt := .Assign [.Attribute (.Name "self" a1) f a2] (.Name f a3) a4

/-- what the written part says of the class at C, its __init__ at fI -/
structure ErrTxt (prog : Program) (K : Frag) (mg : Str → Option Value) (x qual : Str) (st : Stmt) (fs : List Str) (C fI : Addr) : Prop where
  gC : mg x = some (.ref C)
  cls : ∃ nm q N bs bm sn sub ab col dd k0 k1 k2 k3 k5,
    K.lookup C = some (excClassObj nm q C N bs bm true sn sub ab col dd k0 k1 k2 k3 k5 "ValueError.__new__") ∧ refsVE bm = true
  sup : ks_superIn K C C "__init__" = some (some (.builtin "ValueError.__init__"))
  stc : nsIn K cStatics "thirdparty.any" = some none
  sa : findIn K (.ref C) "__setattr__" = some (some (.builtin "object.__setattr__"))
  xf : L2.xfB K C = true
  noF : ∀ f ∈ fs, findIn K (.ref C) f = some none
  iC : findIn K (.ref C) "__init__" = some (some (.ref fI))
  tI : typeIn K (.ref fI) = some (.type "function")
  kC : keepIn K (.ref C) = true
  mC : mroIn K C (.ref C) = some true
  vC : subIn K (.ref C) (.type "ValueError") = some true
  tC : typeIn K (.ref C) = some (.type "type")
  te : exmOne K (.ref C) (.ref C) = some true
  mgS : mg "super" = none
  fn : ∃ (oc : Value) (od : Option Addr) (kV doc pm : Value) (an : Option Addr) (ct : Value) (osl : Array (Option Value)) (cda cc : Addr),
    K.lookup fI = some ⟨oc, od, .func (ksFn "__init__" qual (L2.defArgs st) (L2.defBody st) (L2.defScope st) .none kV doc pm an (.ref cda) ct cc), osl⟩ ∧
    codeIn K (.ref cda) qual = true ∧
    (∃ cl cld csl, K.lookup cc = some ⟨cl, cld, .cell (some (.ref C)), csl⟩) ∧
    (∃ ccl cdd vs ccs file tf, K.lookup cda = some ⟨ccl, cdd, .fields vs, ccs⟩ ∧ vs[2]? = some (.str file tf) ∧ ((prog.main.file : Str) == file) = true)
  top : (prog.main.scope.names.lookup ("super" : Str)).isSome = false

section
variable {prog : Program} {w : World} {A : Around} {E : Value → Shared → Prop} {s : Shared} {K : Frag} {mg mb : Str → Option Value}
  {x qual : Str} {st : Stmt} {fs : List Str} {C fI : Addr}

theorem ErrTxt.cl (T : ErrTxt prog K mg x qual st fs C fI) : ∃ cd, clsIn K C = some cd ∧ refsVE cd.mro = true ∧ cd.hasDict = true := by
  obtain ⟨nm, q, N, bs, bm, sn, sub, ab, col, dd, k0, k1, k2, k3, k5, hC, hbm⟩ := T.cls
  refine ⟨{ name := nm, bases := bs, mro := .ref C :: bm, ns := N, qualname := q, hasDict := true, slotNames := sn, subclasses := sub, abstract := ab, collection := col, hasDel := false }, ?_, hbm, rfl⟩
  unfold clsIn
  rw [hC] <;> rfl

/-- the wrapper that super() hands out is called: the args are laid anew -/
theorem call_mw (T : ErrTxt prog K mg x qual st fs C fI) {u e t0 : Addr} {rest : List Value} {Q : Value → Shared → Prop} (X : K.In s.heap)
    (hu : s.heap.get? u = some (kxs_mw "ValueError.__init__" e)) (he : s.heap.get? e = some (excO C t0)) (hz : rest.length ≤ sizeLine)
    (hq : ∀ h' t1, (∀ b o, b ≠ e → s.heap.get? b = some o → h'.get? b = some o) → h'.get? e = some (excO C t1) → Q .none { s with heap := h' }) :
    wpAny (model prog w) A (call (.ref u) rest) Q E s := by
  obtain ⟨nm, q, N, bs, bm, sn, sub, ab, col, dd, k0, k1, k2, k3, k5, hC, hbm⟩ := T.cls
  have hC' := X _ _ hC
  obtain ⟨h, g, d, t, os⟩ := s
  refine wpAny_call (codeAny_of_tree ?_)
  show wpAny _ A.in1 (callAny (Value.ref u) ⟨rest, []⟩) _ _ ⟨h, g, d, t, os⟩
  simp only [callAny]
  refine wpAny_bind (wpAny_load (a := u) hu ?_)
  have z : (Value.type "method-wrapper" == Value.type "method" || Value.type "method-wrapper" == Value.type "builtin_function_or_method" || Value.type "method-wrapper" == Value.type "method-wrapper") = true := by decide
  simp only [kxs_mw, z, if_true]
  refine KFB.if_so (by decide) (wpAny_bind ?_)
  refine check_bound_init F.excBase_ValueError.toExcCallFacts hC' he rfl ?_
  refine wpAny_bind (wpAny_pure (wpAny_pure ⟨plainId_quiet F.excBase_ValueError.init.plain _, codeAny_builtin F.excBase_ValueError.initEntry ?_⟩))
  exact exc_init_tree (cls := .ref C) (t0 := t0) (dv := none) (c2 := .none) (c3 := .none) (b4 := .bool false) he hz fun h' k e' _ => hq h' _ k e'

/-- a method's call on one line: what it evaluates to, its places symbolic -/
theorem super_eval {p0 p1 p2 p4 : Pos} {es : List Expr} {env : Env} (hpos : (p2.endLine == p4.line) = true) (hform : methodCallForm es.length (backTo p4 (starEach es env)) [] = true) :
    eval (.Call (.Attribute (.Call (.Name "super" p0) [] [] p1) "__init__" p2) es [] p4) env = (do
      let ov ← attributeBase (.Call (.Name "super" p0) [] [] p1) "__init__" env (eval (.Call (.Name "super" p0) [] [] p1) env)
      standAt p2.atName
      let (f, first) ← holding [ov] (getMethod ov "__init__" (do return (← importBound (.Call (.Name "super" p0) [] [] p1) env).getD true))
      callWith p4 f first (backTo p4 (starEach es env)) []) := by
  have e1 : methodCallPos true (.Call (.Name "super" p0) [] [] p1) env p2 p4 = pure p4 := by
    unfold methodCallPos
    rw [if_pos (by rw [hpos]; rfl)]
  rw [arm_eval_Call]
  have e2 : ∀ ov : Value, methodCall (.Call (.Name "super" p0) [] [] p1) "__init__" p2 p4 env ov (es.length + 0) (backTo p4 (starEach es env)) [] = (do
      let (f, first) ← holding [ov] (getMethod ov "__init__" (do return (← importBound (.Call (.Name "super" p0) [] [] p1) env).getD true))
      callWith p4 f first (backTo p4 (starEach es env)) []) := fun ov => by
    unfold methodCall calleeOf
    rw [Nat.add_zero, hform, e1]
    rfl
  show (do
      let ov ← attributeBase (.Call (.Name "super" p0) [] [] p1) "__init__" env (eval (.Call (.Name "super" p0) [] [] p1) env)
      standAt p2.atName
      methodCall (.Call (.Name "super" p0) [] [] p1) "__init__" p2 p4 env ov (es.length + 0) (backTo p4 (starEach es env)) []) = _
  simp only [e2]
/-- the first statement of such an __init__ -/
theorem sup_stmt (T : ErrTxt prog K mg x qual st fs C fI) {qn : Str} {scope : Scope} {L f cda cc : Addr} {fd : FuncData} {o : Addr} {t0 : Addr} {m : Str → Option Value} {body : List Stmt} {ar : Arg}
    {msg : Str} {p0 p1 p2 p3 p4 p5 : Pos} {j : Nat} {Q : Flow → Shared → Prop} {oc : Value} {od : Option Addr} {osl : Array (Option Value)}
    (X : K.In s.heap) (hg : s.heap.Ns mainGlobals mg) (hb : s.heap.Ns builtinsNs mb) (hmb : mb "super" = some (.type "super"))
    (hm : s.heap.Ns L m) (hself : m ar.arg = some (.ref o)) (ho : s.heap.get? o = some (excO C t0)) (hoC : o ≠ C)
    (hf : K.lookup f = some ⟨oc, od, .func fd, osl⟩) (hp : (fd.params.posonlyargs ++ fd.params.args).head? = some ar)
    (hcell : ∃ cl cld csl, K.lookup cc = some ⟨cl, cld, .cell (some (.ref C)), csl⟩)
    (hcode : ∃ ccl cdd vs ccs file tf, K.lookup cda = some ⟨ccl, cdd, .fields vs, ccs⟩ ∧ vs[2]? = some (.str file tf) ∧ ((prog.main.file : Str) == file) = true)
    (hk : scope.kind = .function) (hks : scope.names.lookup ("super" : Str) = some .globalImplicit) (hkc : scope.names.lookup ("__class__" : Str) = some .free) (hka : scope.names.lookup ar.arg = some .local)
    (hq : ∀ h' tk t1, (∀ b u, b ≠ o → s.heap.get? b = some u → h'.get? b = some u) → h'.get? o = some (excO C t1) → Q .next { s with heap := h', toks := tk })
    (hpos : (p2.endLine == p4.line) = true) (hi : interactive (ksEnv qn scope L f (.ref cda) cc) = false := by rfl) :
    PySem.wpAt (model prog w) A (.func body (ksEnv qn scope L f (.ref cda) cc)) (exec (supS msg p0 p1 p2 p3 p4 p5 j) (ksEnv qn scope L f (.ref cda) cc)) Q E s := by
  obtain ⟨cl, cld, csl, hcell⟩ := hcell
  obtain ⟨ccl, cdd, vs, ccs, file, tf, hcode, hvs, hfile⟩ := hcode
  obtain ⟨nm, q, N, bs, bm, sn, sub, ab, col, dd, k0, k1, k2, k3, k5, hC, hbm⟩ := id T.cls
  have hcl : clsIn K C = some { name := nm, bases := bs, mro := .ref C :: bm, ns := N, qualname := q, hasDict := true, slotNames := sn, subclasses := sub, abstract := ab, collection := col, hasDel := false } := by
    unfold clsIn
    rw [hC] <;> rfl
  have hsup := T.sup
  unfold ks_superIn at hsup
  rw [hcl, Option.bind_some] at hsup
  obtain ⟨hh, g, d, t, os⟩ := s
  unfold supS
  refine ks_wpAt_Expr_any (ks_wpAt_MethodCall ?_ (super_eval hpos (by rfl))) hi (by rfl)
  refine ks_wpAt_super_base (env := ksEnv qn scope L f (.ref cda) cc) hks hkc (by decide) rfl (X _ _ hf) rfl hp rfl (X _ _ hcode) rfl hvs hfile T.top ?_
  refine ks_loadName_global hk hks (loadGlobal_builtin (env := ksEnv qn scope L f (.ref cda) cc) hg T.mgS hb hmb ⟨rfl, ?_⟩)
  refine wpAny_loadName_free hk hkc rfl ⟨_, X _ _ hcell, rfl⟩ ?_
  refine wpAny_loadName_local hk hka hm hself ?_
  refine ks_wpAny_isType_cls (X _ _ hC) rfl ⟨rfl, ?_⟩
  refine ks_wpAny_call_super (X _ _ hC) rfl ho rfl (fun c z => by cases z) (looks_mroIn X T.mC) fun h1 e1 kp1 => ?_
  have X1 : K.In h1 := X.keeps kp1
  have ho1 := kp1 _ _ ho
  have I1 : InstAt h1 o (excO C t0) C none := ⟨ho1, rfl, rfl, trivial⟩
  refine kxs_getMethod kxs_ValueError e1 (looks_opaque X1 T.stc) (l₀ := .ref C :: bm) ?_ rfl X1 hsup (I1.type.andThen (looks_subIn X1 T.vC)) hoC (by decide) ?_
  · exact (looks_clsIn X1 hcl).andThen .now
  have kp2 : ∀ b u, h1.get? b = some u → (h1.push (kxs_mw "ValueError.__init__" o)).get? b = some u := fun b u e => Heap.get?_push_of_some _ e
  show wpAny _ _ (callWith p4 (Value.ref h1.objs.size) [] ((false, eval (.Constant (.str msg) j p3) (ksEnv qn scope L f (.ref cda) cc)) :: []) []) _ _ _
  refine kxs_callWith (i := "ValueError.__init__") (x := o) (u := h1.objs.size) rfl (evalArgs_plain (Calls.spliced_cons (wpAny_Constant_str (Calls.spliced_nil ⟨?_, ?_⟩))))
  · show KxsAt _ _ _ (h1.push (kxs_mw "ValueError.__init__" o))
    exact Heap.get?_push_at rfl rfl
  · refine call_mw T (X1.keeps kp2) (e := o) (t0 := t0) (Heap.get?_push_at rfl rfl) (kp2 _ _ ho1) (by show 1 ≤ sizeLine; decide) fun h3 t1 k3 e3 => ?_
    exact hq h3 _ t1 (fun b u hb z => k3 b u hb (kp2 b u (kp1 b u z))) e3

/-- the stores that follow -/
inductive Stos : List Stmt → List Str → Prop
  | nil : Stos [] []
  | cons {f : Str} {a1 a2 a3 a4 : Pos} {r : List Stmt} {gs : List Str} (h : Stos r gs) : Stos (stoS f a1 a2 a3 a4 :: r) (f :: gs)
def mpOf : List (Str × Value) → Str → Option Value
  | [], _ => none
  | (f, v) :: r, y => if y = f then some v else mpOf r y
theorem mpOf_cons (f : Str) (v : Value) (r : List (Str × Value)) : mpOf ((f, v) :: r) = fun y => if y = f then some v else mpOf r y := rfl
theorem mpOf_within : ∀ l : List (Str × Value), Within (mpOf l) (l.map (·.1))
  | [] => Within.nil
  | (f, v) :: r => Within.cons f v (mpOf_within r)
/-- at o: an exception of the class at C whose own dict at dx holds l -/
structure ErrAt (h : Heap) (o C dx : Addr) (l : List (Str × Value)) : Prop where
  obj : ∃ t1 : Addr, h.get? o = some { cls := .ref C, dict := some dx, data := .fields #[.ref t1, .none, .none, .none, .bool false, .none] }
  ns : h.Ns1 dx (mpOf l)

theorem lkL {M : Model} {env : Env} {m : Str → Option Value} {y : Str} {pos : Pos} {v : Value} {Q : Value → Shared → Prop} (hn : s.heap.Ns env.locals m) (hv : m y = some v) (h : Q v s)
    (hk : env.scope.kind = .function) (hl : env.kindOf y = some .local) (hd : (y == ("__debug__" : Str)) = false) :
    wpAny M A (eval (.Name y pos) env) Q E s :=
  wpAny_Name (wpAny_loadName_local hk hl hn hv h) hd

/-- a further store -/
theorem sto_old (T : ErrTxt prog K mg x qual st fs C fI) {env : Env} {o dx : Addr} {f : Str} {a1 a2 a3 a4 : Pos} {v : Value} {m : Str → Option Value} {l : List (Str × Value)} {Q : Flow → Shared → Prop}
    (X : K.In s.heap) (hm : s.heap.Ns env.locals m) (hself : m "self" = some (.ref o)) (hv : m f = some v) (hE : ErrAt s.heap o C dx l) (hl : l.length ≤ 900) (hfs : f ∈ fs)
    (hk : env.scope.kind = .function) (h1 : env.kindOf "self" = some .local) (h2 : env.kindOf f = some .local) (hd : (f == ("__debug__" : Str)) = false)
    (hq : ∀ h' tk, (∀ b u, b ≠ dx → s.heap.get? b = some u → h'.get? b = some u) → h'.Ns1 dx (mpOf ((f, v) :: l)) → Q .next { s with heap := h', toks := tk }) :
    wpAny (model prog w) A (exec (stoS f a1 a2 a3 a4) env) Q E s := by
  obtain ⟨cd, hcd, hmro, hdict⟩ := T.cl
  obtain ⟨⟨t1, hobj⟩, hns⟩ := hE
  obtain ⟨oD, _, _, hoD, _, _⟩ := hns.count (mpOf_within l)
  obtain ⟨hh, g, d, t, os⟩ := s
  unfold stoS
  refine plainObj_wpAny_Assign_Attribute (lkL (v := v) hm hv (lkL (v := .ref o) hm hself ?_ hk h1 (by decide)) hk h2 hd)
  refine set_plain X (ox := { cls := .ref C, dict := some dx, data := .fields #[.ref t1, .none, .none, .none, .bool false, .none] }) (od := some oD) ⟨hobj, rfl, rfl, hoD⟩ T.sa ?_
  exact PySem.OEX.osa_old X hobj hns (mpOf_within l) (by rw [List.length_map]; omega) hcd hmro hdict (T.noF f hfs) fun h' tk' k hn => hq h' tk' k hn
/-- the first store: the own dict is laid -/
theorem sto_new (T : ErrTxt prog K mg x qual st fs C fI) {env : Env} {o t1 : Addr} {f : Str} {a1 a2 a3 a4 : Pos} {v : Value} {m : Str → Option Value} {Q : Flow → Shared → Prop}
    (X : K.In s.heap) (hm : s.heap.Ns env.locals m) (hself : m "self" = some (.ref o)) (hv : m f = some v) (hobj : s.heap.get? o = some (excO C t1)) (hfs : f ∈ fs)
    (hk : env.scope.kind = .function) (h1 : env.kindOf "self" = some .local) (h2 : env.kindOf f = some .local) (hd : (f == ("__debug__" : Str)) = false)
    (hq : ∀ h' tk dx, (∀ b u, b ≠ o → s.heap.get? b = some u → h'.get? b = some u) → s.heap.objs.size ≤ dx → dx ≠ o → ErrAt h' o C dx [(f, v)] → Q .next { s with heap := h', toks := tk }) :
    wpAny (model prog w) A (exec (stoS f a1 a2 a3 a4) env) Q E s := by
  obtain ⟨cd, hcd, hmro, hdict⟩ := T.cl
  obtain ⟨hh, g, d, t, os⟩ := s
  unfold stoS
  refine plainObj_wpAny_Assign_Attribute (lkL (v := v) hm hv (lkL (v := .ref o) hm hself ?_ hk h1 (by decide)) hk h2 hd)
  refine set_plain X (ox := excO C t1) (od := none) ⟨hobj, rfl, rfl, trivial⟩ T.sa ?_
  exact exc_osa X hobj hcd hmro hdict (T.noF f hfs) fun h' tk' dx k dn dne hx hn => hq h' tk' dx k dn dne ⟨⟨t1, hx⟩, hn⟩

theorem sto_run (T : ErrTxt prog K mg x qual st fs C fI) {env : Env} {o dx : Addr} {m : Str → Option Value} {Q : Flow → Shared → Prop}
    (hk : env.scope.kind = .function) (h1 : env.kindOf "self" = some .local) (hself : m "self" = some (.ref o)) (hLo : env.locals ≠ dx) (hodx : dx ≠ o) :
    ∀ {body : List Stmt} {gs : List Str}, Stos body gs → ∀ (ps : List (Str × Value)) (l : List (Str × Value)) (s : Shared), ps.map (·.1) = gs → (∀ p ∈ ps, m p.1 = some p.2 ∧ p.1 ∈ fs ∧ env.kindOf p.1 = some .local ∧ (p.1 == ("__debug__" : Str)) = false) →
      l.length + ps.length ≤ 900 → K.In s.heap → K.lookup dx = none → s.heap.Ns env.locals m → ErrAt s.heap o C dx l →
      (∀ h' tk, (∀ b u, b ≠ dx → s.heap.get? b = some u → h'.get? b = some u) → h'.Ns1 dx (mpOf (ps.reverse ++ l)) → Q .next { s with heap := h', toks := tk }) →
      wpAny (model prog w) A (execs body env) Q E s := by
  intro body gs hst
  induction hst with
  | nil =>
    intro ps l s e hp hl X hdx hm hE hq
    cases ps with
    | cons _ _ => cases e
    | nil =>
      refine wpAny_execs_nil ?_
      exact hq s.heap s.toks (fun _ _ _ z => z) hE.ns
  | @cons f a1 a2 a3 a4 r gs hst ih =>
    intro ps l s e hp hl X hdx hm hE hq
    cases ps with
    | nil => cases e
    | cons p ps =>
      obtain ⟨pf, v⟩ := p
      have e1 : pf = f := (List.cons.inj e).1
      subst e1
      obtain ⟨hv, hfs, hkf, hdf⟩ := hp (pf, v) List.mem_cons_self
      refine wpAny_execs_cons (sto_old T X hm hself hv hE (by simp only [List.length_cons] at hl; omega) hfs hk h1 hkf hdf fun h' tk k hn => ?_)
      obtain ⟨oL, es, ep, hL, hr⟩ := hm
      have kK : K.In h' := fun a u z => k a u (fun y => by rw [y, hdx] at z; cases z) (X a u z)
      refine ih ps ((pf, v) :: l) { s with heap := h', toks := tk } (List.cons.inj e).2 (fun q hq => hp q (List.mem_cons_of_mem _ hq)) (by simp only [List.length_cons] at hl ⊢; omega) kK hdx ⟨oL, es, ep, k _ _ hLo hL, hr⟩ ⟨?_, hn⟩ fun h2 tk2 k2 hn2 => ?_
      · obtain ⟨t1, z⟩ := hE.obj
        exact ⟨t1, k _ _ (Ne.symm hodx) z⟩
      · refine hq h2 tk2 (fun b u hb z => k2 b u hb (k b u hb z)) ?_
        rw [List.reverse_cons, List.append_assoc]
        exact hn2

/-- what the text of the __init__ must be (each by rfl or decide at a written text) -/
structure ErrSyn (qual : Str) (st : Stmt) (f0 : Str) (gs : List Str) : Prop where
  body : ∃ (msg : Str) (p0 p1 p2 p3 p4 p5 : Pos) (j : Nat) (a1 a2 a3 a4 : Pos) (r : List Stmt), L2.defBody st = supS msg p0 p1 p2 p3 p4 p5 j :: stoS f0 a1 a2 a3 a4 :: r ∧ Stos r gs ∧ (p2.endLine == p4.line) = true
  ar : ∃ ar : Arg, ((L2.defArgs st).posonlyargs ++ (L2.defArgs st).args).head? = some ar ∧ ar.arg = "self"
  kind : (L2.defScope st).kind = .function
  sup : (L2.defScope st).names.lookup ("super" : Str) = some .globalImplicit
  cls : (L2.defScope st).names.lookup ("__class__" : Str) = some .free
  self : (L2.defScope st).names.lookup ("self" : Str) = some .local
  loc : ∀ f ∈ f0 :: gs, (L2.defScope st).names.lookup f = some .local ∧ (f == ("__debug__" : Str)) = false
  cell : ∀ y ∈ (L2.defScope st).names, y.2 ≠ .cell
  co : (L2.defScope st).isCoroutine = false
  gen : (L2.defScope st).isGenerator = false
  nd : ((("self" : Str) :: f0 :: gs) : List Str).Nodup
  short : gs.length ≤ 100
  bind : ∀ (kV doc pm : Value) (an : Option Addr) (cdv ct : Value) (cc : Addr) (us : List Value), us.length = ((("self" : Str) :: f0 :: gs) : List Str).length →
    ∀ s : Shared, BindsTo s (ksFn "__init__" qual (L2.defArgs st) (L2.defBody st) (L2.defScope st) .none kV doc pm an cdv ct cc) ⟨us, []⟩ (((("self" : Str) :: f0 :: gs) : List Str).zip us)

theorem lookup_rev {n : Str} {v : Value} : ∀ {l : List (Str × Value)}, (l.map (·.1)).Nodup → (n, v) ∈ l → l.reverse.lookup n = some v := by
  intro l
  induction l with
  | nil => intro _ h; cases h
  | cons p l ih =>
    intro nd h
    obtain ⟨f, u⟩ := p
    rw [List.map_cons, List.nodup_cons] at nd
    rw [List.reverse_cons, List.lookup_append]
    rcases List.mem_cons.mp h with e | h
    · cases e
      have z : l.reverse.lookup n = none := by
        rw [List.lookup_eq_none_iff]
        intro q hq
        have : q.1 ∈ l.map (·.1) := List.mem_map_of_mem (List.mem_reverse.mp hq)
        have ne : ¬ n = q.1 := fun e => nd.1 (by rw [e]; exact this)
        simp [ne]
      rw [z]
      simp [List.lookup]
    · rw [ih nd.2 h]
      rfl

theorem zip_map1 : ∀ (ns : List Str) (us : List Value), us.length = ns.length → (ns.zip us).map (·.1) = ns
  | [], _, _ => rfl
  | n :: ns, [], h => by cases h
  | n :: ns, u :: us, h => by
    show n :: (ns.zip us).map (·.1) = n :: ns
    rw [zip_map1 ns us (Nat.succ.inj h)]

theorem errs_init (T : ErrTxt prog K mg x qual st fs C fI) {f0 : Str} {gs : List Str} (S : ErrSyn qual st f0 gs) (hfs : fs = f0 :: gs) {R : Result → Shared → Prop} {o t0 : Addr} {v0 : Value} {vs : List Value}
    (X : K.In s.heap) (hlim : s.heap.NoLimit) (hg : s.heap.Ns mainGlobals mg) (hb : s.heap.Ns builtinsNs mb) (hmb : mb "super" = some (.type "super"))
    (ho : s.heap.get? o = some (excO C t0)) (hno : K.lookup o = none) (hroom : A.depth < recursionLimit) (hlen : vs.length = gs.length)
    (hq : ∀ h' tk dx, (∀ b u, b ≠ o → s.heap.get? b = some u → h'.get? b = some u) → s.heap.objs.size ≤ dx → dx ≠ o → ErrAt h' o C dx (((f0, v0) :: gs.zip vs).reverse) → R (.ok (.ret .none)) { s with heap := h', toks := tk }) :
    codeAny (model prog w) A (.call (.ref fI) ⟨.ref o :: v0 :: vs, []⟩) R s := by
  obtain ⟨oc, od, kV, doc, pm, an, ct, osl, cda, cc, lk, hcd, hcell, hcode⟩ := T.fn
  obtain ⟨msg, p0, p1, p2, p3, p4, p5, j, a1, a2, a3, a4, r, hbody, hst, hpos⟩ := S.body
  obtain ⟨ar, har, hself⟩ := S.ar
  have hCo : o ≠ C := by
    rintro rfl
    obtain ⟨nm, q, N, bs, bm, sn, sub, ab, col, dd, k0, k1, k2, k3, k5, hC, hbm⟩ := T.cls
    rw [hno] at hC
    cases hC
  have hlt : o < s.heap.objs.size := Heap.lt_size ho
  have hulen : (Value.ref o :: v0 :: vs).length = ((("self" : Str) :: f0 :: gs) : List Str).length := by simp [hlen]
  have nd : ((((("self" : Str) :: f0 :: gs) : List Str).zip (Value.ref o :: v0 :: vs)).map (·.1)).Nodup := by
    rw [zip_map1 _ _ hulen]
    exact S.nd
  refine ks_codeAny_call_defAt (fd := ksFn "__init__" qual (L2.defArgs st) (L2.defBody st) (L2.defScope st) .none kV doc pm an (.ref cda) ct cc) (body := L2.defBody st) (binds := ((("self" : Str) :: f0 :: gs) : List Str).zip (Value.ref o :: v0 :: vs))
    hroom (X _ _ lk) rfl hlim (codeRec_of X hcd) rfl (S.bind _ _ _ _ _ _ _ _ hulen s) S.cell (fun y hy => ?_) (fun h0 hns hk0 => ?_) S.co S.gen S.kind
  · have : y.1 ∈ ((("self" : Str) :: f0 :: gs) : List Str) := (List.of_mem_zip hy).1
    rcases List.mem_cons.mp this with e | e
    · rw [e]; exact S.self
    · exact (S.loc _ e).1
  show PySem.wpAt _ (A.deeper (ksEnv qual (L2.defScope st) s.heap.objs.size fI (.ref cda) cc)) (.func (L2.defBody st) (ksEnv qual (L2.defScope st) s.heap.objs.size fI (.ref cda) cc)) (execs (L2.defBody st) (ksEnv qual (L2.defScope st) s.heap.objs.size fI (.ref cda) cc)) _ _ _
  have hb2 : execs (L2.defBody st) (ksEnv qual (L2.defScope st) s.heap.objs.size fI (.ref cda) cc) = execs (supS msg p0 p1 p2 p3 p4 p5 j :: stoS f0 a1 a2 a3 a4 :: r) (ksEnv qual (L2.defScope st) s.heap.objs.size fI (.ref cda) cc) := by rw [hbody]
  rw [hb2]
  have X0 : K.In h0 := X.keeps hk0
  have m_self : (((("self" : Str) :: f0 :: gs) : List Str).zip (Value.ref o :: v0 :: vs)).reverse.lookup ("self" : Str) = some (.ref o) := lookup_rev nd List.mem_cons_self
  have m_f0 : (((("self" : Str) :: f0 :: gs) : List Str).zip (Value.ref o :: v0 :: vs)).reverse.lookup f0 = some v0 := lookup_rev nd (List.mem_cons_of_mem _ List.mem_cons_self)
  have hLo : s.heap.objs.size ≠ o := Nat.ne_of_gt hlt
  refine ks_wpAt_execs_cons (sup_stmt T (fd := ksFn "__init__" qual (L2.defArgs st) (L2.defBody st) (L2.defScope st) .none kV doc pm an (.ref cda) ct cc) (ar := ar) (o := o) (t0 := t0) (m := fun y => (((("self" : Str) :: f0 :: gs) : List Str).zip (Value.ref o :: v0 :: vs)).reverse.lookup y)
    X0 (hg.keeps hk0) (hb.keeps hk0) hmb hns (by rw [hself]; exact m_self) (hk0 _ _ ho) hCo lk har hcell hcode S.kind S.sup S.cls (by rw [hself]; exact S.self) (fun h1 tk1 t1 k1 e1 => ?_) hpos (by unfold interactive; simp [S.kind]))
  show PySem.wpAt _ _ _ (execs _ _) _ _ _
  refine wpAt_of_wpAny ?_
  have hns0 := hns
  obtain ⟨oL, es, ep, hL, hr⟩ := hns
  have hns1 : h1.Ns s.heap.objs.size (fun y => (((("self" : Str) :: f0 :: gs) : List Str).zip (Value.ref o :: v0 :: vs)).reverse.lookup y) := ⟨oL, es, ep, k1 _ _ hLo hL, hr⟩
  have X1 : K.In h1 := fun a u z => k1 a u (fun y => by rw [y, hno] at z; cases z) (X0 a u z)
  refine wpAny_execs_cons (sto_new T (m := fun y => (((("self" : Str) :: f0 :: gs) : List Str).zip (Value.ref o :: v0 :: vs)).reverse.lookup y) X1 hns1 m_self m_f0 e1 (by rw [hfs]; exact List.mem_cons_self) S.kind S.self (S.loc f0 List.mem_cons_self).1 (S.loc f0 List.mem_cons_self).2
    fun h2 tk2 dx k2 dn dne hE => ?_)
  have hL1 : s.heap.objs.size < h1.objs.size := hns1.lt
  have hLdx : s.heap.objs.size ≠ dx := Nat.ne_of_lt (Nat.lt_of_lt_of_le hL1 dn)
  have hKdx : K.lookup dx = none := by
    cases z : K.lookup dx with
    | none => rfl
    | some u => exact absurd (Nat.lt_of_lt_of_le (Heap.lt_size (X1 _ _ z)) dn) (Nat.lt_irrefl _)
  have X2 : K.In h2 := fun a u z => k2 a u (fun y => by rw [y, hno] at z; cases z) (X1 a u z)
  show wpAny _ _ (execs r _) _ _ _
  refine sto_run T (env := ksEnv qual (L2.defScope st) s.heap.objs.size fI (.ref cda) cc) (dx := dx) (o := o) (m := fun y => (((("self" : Str) :: f0 :: gs) : List Str).zip (Value.ref o :: v0 :: vs)).reverse.lookup y) S.kind S.self m_self hLdx dne hst (gs.zip vs) [(f0, v0)] _ (zip_map1 gs vs hlen) (fun p hp => ?_) ?_ X2 hKdx ?_ hE fun h3 tk3 k3 hn3 => ?_
  · have pg : p.1 ∈ gs := (List.of_mem_zip hp).1
    exact ⟨lookup_rev nd (List.mem_cons_of_mem _ (List.mem_cons_of_mem _ hp)), by rw [hfs]; exact List.mem_cons_of_mem _ pg, (S.loc _ (List.mem_cons_of_mem _ pg)).1, (S.loc _ (List.mem_cons_of_mem _ pg)).2⟩
  · rw [List.length_zip]
    have := S.short
    simp only [List.length_cons, List.length_nil]
    omega
  · exact ⟨oL, es, ep, k2 _ _ hLo (k1 _ _ hLo hL), hr⟩
  · refine hq h3 _ dx (fun b u hb z => ?_) (Nat.le_of_lt (Nat.lt_of_lt_of_le hL1 dn)) dne ?_
    · have z0 := hk0 b u z
      have z1 := k1 b u hb z0
      have z2 := k2 b u hb z1
      exact k3 b u (Nat.ne_of_lt (Nat.lt_trans (Heap.lt_size z) (Nat.lt_of_lt_of_le hL1 dn))) z2
    · obtain ⟨t2, z⟩ := hE.obj
      refine ⟨⟨t2, k3 _ _ (Ne.symm dne) z⟩, ?_⟩
      rw [List.reverse_cons]
      exact hn3

/-- a made error: at e, its own dict at d -/
structure Made (h h' : Heap) (e C d : Addr) (l : List (Str × Value)) : Prop where
  keep : ∀ b o, h.get? b = some o → h'.get? b = some o
  new : h.objs.size ≤ e
  dbig : h.objs.size ≤ d
  dne : d ≠ e
  er : ErrAt h' e C d l

theorem errs_made (T : ErrTxt prog K mg x qual st fs C fI) {f0 : Str} {gs : List Str} (S : ErrSyn qual st f0 gs) (hfs : fs = f0 :: gs) {R : Result → Shared → Prop} {v0 : Value} {vs : List Value}
    (X : K.In s.heap) (hlim : s.heap.NoLimit) (hg : s.heap.Ns mainGlobals mg) (hb : s.heap.Ns builtinsNs mb) (hmb : mb "super" = some (.type "super"))
    (hroom : A.depth + 1 < recursionLimit) (hlen : vs.length = gs.length)
    (hq : ∀ h' tk e d, Made s.heap h' e C d (((f0, v0) :: gs.zip vs).reverse) → R (.ok (.ret (.ref e))) { s with heap := h', toks := tk }) :
    codeAny (model prog w) A (.call (.ref C) ⟨v0 :: vs, []⟩) R s := by
  obtain ⟨nm, q, N, bs, bm, sn, sub, ab, col, dd, k0, k1, k2, k3, k5, hC, hbm⟩ := id T.cls
  obtain ⟨hp, g, dr, tk, os⟩ := s
  have k : ∀ b o, hp.get? b = some o → ((hp.push (kdv_tup (v0 :: vs))).push (excO C hp.objs.size)).get? b = some o := fun b o e => Heap.get?_push_of_some _ (Heap.get?_push_of_some _ e)
  have hget : ((hp.push (kdv_tup (v0 :: vs))).push (excO C hp.objs.size)).get? (hp.objs.size + 1) = some (excO C hp.objs.size) := by heap_get
  have hnx : K.lookup (hp.objs.size + 1) = none := by
    cases e : K.lookup (hp.objs.size + 1) with
    | none => rfl
    | some o =>
      have z : hp.get? (hp.objs.size + 1) = some o := X _ _ e
      exact absurd (Nat.lt_of_succ_lt (Heap.lt_size z)) (Nat.lt_irrefl _)
  have hsz : (v0 :: vs).length ≤ sizeLine := by
    have := S.short
    have z : 101 ≤ sizeLine := by decide
    simp only [List.length_cons, hlen]
    omega
  refine call_own F.excBase_ValueError (fun X => refsVE_contains X bm hbm) (X _ _ hC) (looks_findIn X T.iC) (fun self => bind_fn X self T.tI) hsz ?_
  refine errs_init (s := ⟨(hp.push (kdv_tup (v0 :: vs))).push (excO C hp.objs.size), g, dr, tk, os⟩) T S hfs (X.keeps k) (hlim.keeps k) (hg.keeps k) (hb.keeps k) hmb hget hnx ?_ hlen fun h' tk' dx k' dn dne hE => ?_
  · show A.depth + 1 < recursionLimit
    exact hroom
  · have old : ∀ b o, hp.get? b = some o → h'.get? b = some o := fun b o e => k' b o (Nat.ne_of_lt (Nat.lt_succ_of_lt (Heap.lt_size e))) (k b o e)
    have z : hp.objs.size + 1 + 1 ≤ dx := by
      first
        | (simpa only [Heap.size_push] using dn)
        | exact dn
        | (have q := dn; rw [Heap.size_push, Heap.size_push] at q; exact q)
    exact ⟨rfl, hq h' tk' (hp.objs.size + 1) dx ⟨old, Nat.le_succ _, Nat.le_trans (Nat.le_trans (Nat.le_succ _) (Nat.le_succ _)) z, dne, hE⟩⟩
end
end XS
end PySem

namespace PySem
namespace XS
open PySem.W PySem.Calls PyProof.Rows PySem.HandSPX
/-! ### what the top must have written, fact by fact -/
theorem exm_of {K : Frag} {D S : Addr} {b : Bool} (h1 : subIn K (.ref S) (.type "BaseException") = some true) (h2 : isClsIn K S = true) (h3 : typeIn K (.ref S) = some (.type "type")) (h4 : subIn K (.ref D) (.ref S) = some b) :
    exmOne K (.ref D) (.ref S) = some b := by
  have e1 : (subIn K (.ref S) (.type "BaseException") == some true) = true := by rw [h1] <;> rfl
  have e2 : ((clsIn K S).isSome && typeIn K (.ref S) == some (.type "type")) = true := by
    have h2' : (clsIn K S).isSome = true := h2
    rw [h2', h3] <;> rfl
  show (if (subIn K (.ref S) (.type "BaseException") == some true) = true then (if ((clsIn K S).isSome && typeIn K (.ref S) == some (.type "type")) = true then subIn K (.ref D) (.ref S) else none) else none) = some b
  rw [if_pos e1, if_pos e2]
  exact h4
theorem xf_of {K : Frag} {C : Addr} (ga : findIn K (.ref C) "__getattribute__" = some (some (.builtin "BaseException.__getattribute__"))) (gg : findIn K (.ref C) "__getattr__" = some none)
    (eC : subIn K (.ref C) (.type "BaseException") = some true) (hC : hasDictIn K C = true) : L2.xfB K C = true := by
  unfold L2.xfB
  rw [decide_eq_true ga, decide_eq_true gg, decide_eq_true eC, hC]
  rfl
theorem errTxt_mk {prog : Program} {K : Frag} {h : Heap} {mg : Str → Option Value} {x qual : Str} {st : Stmt} {fs : List Str} {C fI : Addr} (X : K.In h) (G : h.Ns mainGlobals mg)
    {nm q : Str} {N : Addr} {bs bm : List Value} {sn : List Str} {sub : List Value} {ab : Bool} {col : Option Bool} {dd : Option Addr} {m0 m1 m2 m3 m5 : Option Value}
    {oc kV doc pm ct : Value} {od an : Option Addr} {osl : Array (Option Value)} {cda cc : Addr} {cl : Value} {cld : Option Addr} {csl : Array (Option Value)} {ccl : Value} {cdd : Option Addr} {vs : Array Value} {ccs : Array (Option Value)} {file : Str} {tf : Tok}
    (gC : nsIn K mainGlobals x = some (some (.ref C)))
    (xL : K.lookup C = some (excClassObj nm q C N bs bm true sn sub ab col dd m0 m1 m2 m3 m5 "ValueError.__new__")) (hbm : refsVE bm = true)
    (sup : ks_superIn K C C "__init__" = some (some (.builtin "ValueError.__init__"))) (stc : nsIn K cStatics "thirdparty.any" = some none)
    (sa : findIn K (.ref C) "__setattr__" = some (some (.builtin "object.__setattr__")))
    (ga : findIn K (.ref C) "__getattribute__" = some (some (.builtin "BaseException.__getattribute__"))) (gg : findIn K (.ref C) "__getattr__" = some none)
    (eC : subIn K (.ref C) (.type "BaseException") = some true) (hC : hasDictIn K C = true) (noF : ∀ f ∈ fs, findIn K (.ref C) f = some none)
    (iC : findIn K (.ref C) "__init__" = some (some (.ref fI))) (tI : typeIn K (.ref fI) = some (.type "function")) (kC : keepIn K (.ref C) = true)
    (mC : mroIn K C (.ref C) = some true) (vC : subIn K (.ref C) (.type "ValueError") = some true) (tC : typeIn K (.ref C) = some (.type "type"))
    (isC : isClsIn K C = true) (sC : subIn K (.ref C) (.ref C) = some true) (mgS : nsIn K mainGlobals "super" = some none)
    (l : K.lookup fI = some ⟨oc, od, .func (ksFn "__init__" qual (L2.defArgs st) (L2.defBody st) (L2.defScope st) .none kV doc pm an (.ref cda) ct cc), osl⟩) (c : codeIn K (.ref cda) qual = true)
    (lc : K.lookup cc = some ⟨cl, cld, .cell (some (.ref C)), csl⟩) (ld : K.lookup cda = some ⟨ccl, cdd, .fields vs, ccs⟩) (hv : vs[2]? = some (.str file tf)) (hf : ((prog.main.file : Str) == file) = true)
    (top : (prog.main.scope.names.lookup ("super" : Str)).isSome = false) : ErrTxt prog K mg x qual st fs C fI :=
  { gC := mg_of X G gC, cls := ⟨nm, q, N, bs, bm, sn, sub, ab, col, dd, m0, m1, m2, m3, m5, xL, hbm⟩, sup := sup, stc := stc, sa := sa, xf := xf_of ga gg eC hC, noF := noF, iC := iC, tI := tI, kC := kC, mC := mC, vC := vC, tC := tC,
    te := exm_of eC isC tC sC, mgS := mg_none_of X G mgS, fn := ⟨oc, od, kV, doc, pm, an, ct, osl, cda, cc, l, c, ⟨cl, cld, csl, lc⟩, ⟨ccl, cdd, vs, ccs, file, tf, ld, hv, hf⟩⟩, top := top }
end XS
end PySem

namespace L2
open PySem PySem.Spec PyProof.Rows

theorem pair_app {α β : Type} {F : α → β → Prop} {l1 : List α} {u1 : List β} (h : Paired F l1 u1) : ∀ {l2 : List α} {u2 : List β}, Paired F l2 u2 → Paired F (l1 ++ l2) (u1 ++ u2) := by
  induction h with
  | nil => intro l2 u2 g; exact g
  | cons r _ ih => intro l2 u2 g; exact .cons r (ih g)
theorem pair_rev {α β : Type} {F : α → β → Prop} {l : List α} {u : List β} (h : Paired F l u) : Paired F l.reverse u.reverse := by
  induction h with
  | nil => exact .nil
  | cons r _ ih =>
    rw [List.reverse_cons, List.reverse_cons]
    exact pair_app ih (.cons r .nil)
abbrev FV : (Str × V) → (Str × Value) → Prop := fun p q => p.1 = q.1 ∧ RelV p.2 q.2
theorem pair_zip : ∀ {ns : List Str} {vs : List V} {us : List Value}, Vals vs us → Paired FV (ns.zip vs) (ns.zip us)
  | [], _, _, _ => .nil
  | _ :: _, _, _, .nil => .nil
  | n :: ns, _, _, .cons r t => .cons ⟨rfl, r⟩ (pair_zip (ns := ns) t)
theorem relO_mp {l : List (Str × V)} {u : List (Str × Value)} (h : Paired FV l u) (g : Str) : RelO (l.lookup g) (XS.mpOf u g) := by
  induction h with
  | nil => exact True.intro
  | @cons p q l u r _ ih =>
    obtain ⟨f, v⟩ := p
    obtain ⟨f', w⟩ := q
    obtain ⟨e, rv⟩ := r
    dsimp only at e rv
    subst e
    rw [lookup_put, XS.mpOf_cons]
    dsimp only
    by_cases hw : g = f
    · rw [if_pos hw, if_pos hw]
      exact rv
    · rw [if_neg hw, if_neg hw]
      exact ih

/-- C(e, ..) of such an error: its own dict, new, holds the fields (the last one first) -/
def tMkE (C : Addr) (ns : List Str) (ta : TA) : St → Hp → XK → Prop := fun σ H Q => ta σ H fun vs H1 => vs.length = ns.length ∧ ∀ d, H1 d = none → Q (.ref C) (some d) (upd H1 d (.xd (ns.zip vs).reverse))
def tRaiseE (C : Addr) (ns : List Str) (W : WX) (ta : TA) : TS := fun _ σ H => tMkE C ns ta σ H fun cls d H' => W cls d σ H'

section
variable {X : Cx} {C fI : Addr} {x qual : Str} {st : Stmt} {f0 : Str} {gs : List Str}
theorem pmk_err {e : Expr} {es : List Expr} {ta : TA} {p pos : Pos} {k : Nat} (T : XS.ErrTxt X.prog X.K X.mg x qual st (f0 :: gs) C fI) (S : XS.ErrSyn qual st f0 gs) (hr : Room k X.A) (ha : PA X (e :: es) ta) (hg : Gl X x := by rfl)
    (hdb : (x == ("__debug__" : Str)) = false := by decide) (he : starEach (e :: es) X.env = (false, eval e X.env) :: starEach es X.env := by rfl) (hpl : (backTo pos (starEach es X.env)).any (·.1) = false := by rfl) :
    PMk X (.Call (.Name x p) (e :: es) [] pos) (tMkE C (f0 :: gs) ta) := by
  intro pins s σ H Q I h
  obtain ⟨mb, hb1, hb2⟩ := I.mod.blt
  refine wpAny_Call_Name_kw (ld_glob I hg T.gC ?_ hdb)
  refine PySem.W.callWith_K (h₀ := X.base) I.ok.mod.kin T.kC (thn (ha.run pos pins s σ H _ I h) fun us s1 hh => ?_) he hpl
  obtain ⟨vs, H1, I1, r1, hlen, q1⟩ := hh
  refine ⟨I1.kIn, ?_⟩
  cases r1 with
  | nil => cases hlen
  | @cons v u vr ur rv rr =>
    show wpAny _ _ (call (.ref C) (u :: ur)) _ _ _
    have hlim := I1.nolimit
    have hul : ur.length = gs.length := by
      rw [← Vals.length rr]
      exact Nat.succ.inj hlen
    have KI := I1.kIn
    have hglob := I1.mod.glob.keeps I1.bk
    have hblt := hb1.keeps I1.bk
    obtain ⟨hp, g, dr, tk, os⟩ := s1
    refine wpAny_call (XS.errs_made T S rfl KI hlim hglob hblt ((hb2 "super" (by decide)).trans PyProof.Rows.Boot.«super») (by have := hr.dp; omega) hul fun h' tk' ex d M => ?_)
    show MkP X pins σ Q (.ref ex) ⟨h', g, dr, tk', os⟩
    obtain ⟨t1, hoe⟩ := M.er.obj
    have hns := M.er.ns
    obtain ⟨G', g1, g2⟩ := restrict h' fun b => decide (b ≠ ex)
    have gk : ∀ b, b ≠ ex → G'.get? b = h'.get? b := fun b hb => g1 b (decide_eq_true hb)
    have ge : G'.get? ex = none := g2 ex (by simp)
    have old : ∀ b o, hp.get? b = some o → G'.get? b = some o := fun b o q => (gk b (Nat.ne_of_lt (Nat.lt_of_lt_of_le (Heap.lt_size q) M.new))).trans (M.keep b o q)
    have ob : ObjOk X.prog X.w (upd H1 d (.xd ((f0 :: gs).zip (v :: vr)).reverse)) G' d (.xd ((f0 :: gs).zip (v :: vr)).reverse) :=
      ⟨_, hns.at (fun o q => (gk d M.dne).trans q), fun f => relO_mp (pair_rev (.cons ⟨rfl, rv⟩ (pair_zip rr))) f⟩
    have J : Inv X pins σ (upd H1 d (.xd ((f0 :: gs).zip (v :: vr)).reverse)) ⟨G', g, dr, tk', os⟩ := I1.laid (t' := tk') old M.dbig ob
    refine ⟨ex, _, _, ⟨G', g, dr, tk', os⟩, _, .ref C, some d, rfl, J, fun b o q => ?_, ge, hoe, ⟨rfl, rfl⟩, rfl, rfl, ?_, rfl, I1.bare, raises_own (xfB_ok T.xf).exC T.tC, q1 d (I1.hok.fresh M.dbig)⟩
    · by_cases hb : b = ex
      · have q' : G'.get? b = some o := q
        rw [hb, ge] at q'; cases q'
      · exact (gk b hb).symm.trans q
    · rw [upd_ne (Ne.symm M.dne)]
      exact I1.hok.fresh M.new
theorem ps_raiseErr {e : Expr} {es : List Expr} {ta : TA} {W : WX} {p pos pos2 : Pos} {k : Nat} (hc : X.calm = true) (T : XS.ErrTxt X.prog X.K X.mg x qual st (f0 :: gs) C fI) (S : XS.ErrSyn qual st f0 gs) (hr : Room k X.A) (tk : Takes X W) (ha : PA X (e :: es) ta)
    (hg : Gl X x := by rfl) (hdb : (x == ("__debug__" : Str)) = false := by decide) (he : starEach (e :: es) X.env = (false, eval e X.env) :: starEach es X.env := by rfl) (hpl : (backTo pos (starEach es X.env)).any (·.1) = false := by rfl) :
    PS X (.Raise (some (.Call (.Name x p) (e :: es) [] pos)) none pos2) (tRaiseE C (f0 :: gs) W ta) := ps_raise hc tk (pmk_err T S hr ha hg hdb he hpl)
end

/-! ### isinstance(e, c), e the error that the suite holds, whatever its own dict -/
def rIsX (K : PySem.W.Frag) (a : Addr) (cls : Value) (d : Option Addr) : List V → Hp → VK → Prop := fun xs H Q =>
  ∃ (D dd : Addr) (fs : List (Str × V)) (c : V) (cv : Value) (b : Bool), cls = .ref D ∧ d = some dd ∧ xs = [.ref a, c] ∧ (∀ u, RelV c u → u = cv) ∧ PySem.W.kitOne K (.ref D) cv = some b ∧ H dd = some (.xd fs) ∧
    (PySem.W.findIn K (.ref D) "__class__" = some (some (.builtin "object.__class__")) ∧ PySem.W.mroIn K D (.type "object") = some true ∧ xfB K D = true) ∧ Q (.bl b) H
theorem call_isX {X : Cx} {a : Addr} {oe : Obj} {cls : Value} {d : Option Addr} {pn : List (Addr × Obj)} (hn : PySem.W.specialIn X.K (.builtin "object.__class__") "__get__" = some (some (.builtin "getset_descriptor.__get__")))
    (ht : PySem.W.takesIn X.K (.builtin "object.__class__") = some true) (hz : Zc cls d oe) (hf : ∃ vs, oe.data = .fields vs) : CallR (X.suite a ((a, oe) :: pn)) (.builtin "isinstance") (rIsX X.K a cls d) := by
  intro pins s σ H xs us Q I r h
  obtain ⟨D, dd, fs, c, cv, b, rfl, rfl, rfl, hcv, e, hdd, ⟨ha, hm, hx⟩, q⟩ := h
  obtain ⟨ga, gg, exC, hdC⟩ := xfB_ok hx
  cases r with
  | cons rx rr =>
    cases rr with
    | cons rt rr =>
      cases rr
      cases rx
      have ec := hcv _ rt
      subst ec
      obtain ⟨hget, _⟩ := I.pin (a, oe) (List.mem_append.mpr (.inl List.mem_cons_self))
      obtain ⟨vs, hv⟩ := hf
      have hxd : ObjOk X.prog X.w H s.heap dd (.xd fs) := I.hok dd _ hdd
      obtain ⟨mA, hns, _⟩ := hxd
      obtain ⟨od, ho, _⟩ := lookIn_ns hns
      have J : PySem.W.InstAt s.heap a oe D (some od) := ⟨hget, hz.1, by unfold PySem.W.notCls; rw [hv] <;> rfl, by rw [hz.2]; exact ho⟩
      obtain ⟨cd, hc, _⟩ := PySem.W.any_some hdC
      exact PySem.W.kia_one (PySem.W.kitx_exc (by rw [hc]; rfl) ga gg exC ha hn ht hm) I.kIn J e (fun z => nomatch z) fun tk => ⟨.bl b, H, I.kept (t' := tk) fun _ _ z => z, rfl, q⟩
end L2

/-! ### try with several clauses, with a name or without -/
namespace L2
open PySem PySem.Spec PyProof.Rows
abbrev Clause := Value × Option Nat × (Addr → Value → Option Addr → TS)
def endN : Option Nat → Ends → Ends
  | none, D => D
  | some i, D => { nx := fun σ' H' => D.nx (σ'.set i none) H', rt := D.rt, bk := fun σ' H' => D.bk (σ'.set i none) H', ct := fun σ' H' => D.ct (σ'.set i none) H' }
def inN : Option Nat → Addr → St → St
  | none, _, σ => σ
  | some i, a, σ => σ.set i (some (.ref a))
/-- what the clauses wish of an exception of the body, one after the other -/
def wGen (K : PySem.W.Frag) (Wout : WX) (D : Ends) : List Clause → WX
  | [] => Wout
  | (c, io, ts) :: r => fun cls d σ H => ∃ b, PySem.W.exmOne K cls c = some b ∧ (b = true → ∀ a, H a = none → ts a cls d (endN io D) (inN io a σ) H) ∧ (b = false → wGen K Wout D r cls d σ H)
inductive HdsG (X : Cx) : List ExceptHandler → List Clause → Prop
  | nil : HdsG X [] []
  | plain {x : Str} {c : Value} {ts : Addr → Value → Option Addr → TS} {b₀ : Stmt} {suite : List Stmt} {np pq : Pos} {hds : List ExceptHandler} {l : List Clause} (hc : Names X x c)
      (hsu : ∀ (a : Addr) (oe : Obj) (cls : Value) (d : Option Addr) (pn : List (Addr × Obj)), Zc cls d oe → (∃ vs, oe.data = .fields vs) → PSs (X.suite a ((a, oe) :: pn)) (b₀ :: suite) (ts a cls d)) (r : HdsG X hds l) :
      HdsG X (.ExceptHandler (some (.Name x np)) none (b₀ :: suite) pq :: hds) ((c, none, ts) :: l)
  | named {x n : Str} {c : Value} {i : Nat} {ts : Addr → Value → Option Addr → TS} {b₀ : Stmt} {suite : List Stmt} {np pq : Pos} {hds : List ExceptHandler} {l : List Clause} (hc : Names X x c)
      (hi : X.N[i]? = some n) (hln : X.env.kindOf n = some .local)
      (hsu : ∀ (a : Addr) (oe : Obj) (cls : Value) (d : Option Addr) (pn : List (Addr × Obj)), Zc cls d oe → (∃ vs, oe.data = .fields vs) → PSs (X.suite a ((a, oe) :: pn)) (b₀ :: suite) (ts a cls d)) (r : HdsG X hds l) :
      HdsG X (.ExceptHandler (some (.Name x np)) (some n) (b₀ :: suite) pq :: hds) ((c, some i, ts) :: l)
section
variable {X : Cx} {body : List Stmt} {hd0 : ExceptHandler} {hds : List ExceptHandler} {l : List Clause} {pos : Pos} {tb : WX → TS} {Wout : WX}
theorem ps_try_gen (hs : X.stack = X.env :: X.outer) (hf : X.env.frame = some X.env.locals) (hN : X.N.Nodup) (tk : Takes X Wout)
    (hb : ∀ (W : WX) (pn : List (Addr × Obj)) (xe : Value → Shared → Prop), Takes (X.tr pn xe) W → PassesOwn (model X.prog X.w) X.A X.env xe → PSs (X.tr pn xe) body (tb W))
    (hh : HdsG X (hd0 :: hds) l) : PS X (.Try body (hd0 :: hds) [] [] pos) (fun D σ H => tb (wGen X.K Wout D l) D σ H) := by
  refine ⟨fun pins s σ H D I h => ?_⟩
  have ok := I.ok
  have frm : X.A.frames = some (X.env :: X.outer) := by rw [ok.frames, hs]
  refine wpAny_Try_except ?_
  refine wpAny_mono ((hb (wGen X.K Wout D l) (X.pn ++ pins)
    (fun ev z1 => wpAny (model X.prog X.w) X.A (noteFrame ev X.env) (fun _ z2 => wpAny (model X.prog X.w) X.A (setFlight ev none) (fun _ z3 => wpAny (model X.prog X.w) X.A (handleBy ev X.env (hd0 :: hds)) (SP X pins D) X.xe z3) X.xe z2) X.xe z1)
    (fun u s' xx => ?_) PassesOwn.looking).run [] s σ H D (I.toTry _) h) (fun fl s1 hsp => ?_) (fun ev s1 he => he)
  · obtain ⟨ea, B, sI, pp, σq, Hq, cls, d, rfl, Jt, nb, up, sky, na, os, ag, wish⟩ := xx
    have J : Inv X pins σq Hq sI := Jt.ofTry ok
    have sky2 : Sky B (X.env :: X.outer) ea (Zc cls d) X.env.locals s'.heap := by rw [← hs]; exact sky
    show wpAny (model X.prog X.w) X.A (noteFrame (Value.ref ea) X.env) _ _ _
    refine Sky.land Zc.steady frm hf sky2 fun g3 fly3 upg3 => ?_
    have K3 : Inv X pins σq Hq { s' with heap := g3 } := J.landed nb fly3.1 (up.trans upg3) os ag
    obtain ⟨ob3, fv3, hg3, zc3, dt3⟩ := fly3.there
    have noframe : ∀ {hh : Heap} {o : Obj} {vs : Array Value}, hh.FunFrames B (X.env :: X.outer) → hh.get? ea = some o → o.data = .fields vs → ea ∉ frs (X.env :: X.outer) := fun {hh o vs} ff e1 dd1 hm1 => by
      obtain ⟨_, o2, e2, hnf⟩ := ff.mem hm1
      rw [e1] at e2
      cases e2
      exact hnf _ dd1
    have nofr := noframe fly3.2.2.1 hg3 dt3
    have neL : ea ≠ X.env.locals := fun z => nofr (List.mem_filterMap.mpr ⟨X.env, List.mem_cons_self, by rw [hf, z]⟩)
    have neF : ea ∉ X.fs := fun hm1 => by
      obtain ⟨e1, he1, q1⟩ := List.mem_filterMap.mp hm1
      exact nofr (List.mem_filterMap.mpr ⟨e1, List.mem_cons_of_mem _ he1, q1⟩)
    have Q3 := K3.suite hg3 dt3 na neL neF
    have LT : PySem.W.Looks (model X.prog X.w) g3 (typeOf (.ref ea)) cls := fun A1 Q1 E1 z1 k1 q1 => wpAny_typeOf_ref (k1 _ _ hg3) (by rw [zc3.1]; exact q1)
    have named : ∀ {x : Str} {c : Value} {np : Pos} {Q1 : Value → Shared → Prop} {E1 : Value → Shared → Prop}, Names X x c → Q1 c { s' with heap := g3 } → wpAny (model X.prog X.w) (X.A.mark (some (.ref ea))) (eval (.Name x np) X.env) Q1 E1 { s' with heap := g3 } := fun {x c np Q1 E1} hc q1 => by
      obtain ⟨hg, hdbg, hm | ⟨hm, hv, hnn⟩⟩ := hc
      · exact ld_glob (X := X.suite ea ((ea, ob3) :: (X.pn ++ pins))) Q3 hg hm q1 hdbg
      · exact ld_blt (X := X.suite ea ((ea, ob3) :: (X.pn ++ pins))) Q3 hg hm hv q1 hnn hdbg
    have run : ∀ {hs2 : List ExceptHandler} {l2 : List Clause}, HdsG X hs2 l2 → wGen X.K Wout D l2 cls d σq Hq → wpAny (model X.prog X.w) X.A (handleBy (.ref ea) X.env hs2) (SP X pins D) X.xe { s' with heap := g3 } := by
      intro hs2 l2 hk
      induction hk with
      | nil =>
        intro w1
        refine wpAny_handleBy_nil ?_
        obtain ⟨_, _, _, o1, vs1, T1, oT1, tt1, he1, hz1, hd1, hw1, hr1⟩ := id fly3
        unfold PySem.passOn
        refine wpAny_bind (wpAny_field he1 hd1 hw1 ?_)
        rw [if_neg (show ¬ ((Value.ref T1 == Value.none) = true) from by simp)]
        have last : wpAny (model X.prog X.w) X.A (setFlight (.ref ea) X.env.frame) (fun _ z4 => wpAny (model X.prog X.w) X.A (throw (.ref ea) : Sem Flow) (SP X pins D) X.xe z4) X.xe { s' with heap := g3 } := by
          rw [hf]
          refine HandSPX.setFlight_upZ fly3 fun g4 fly4 upg4 => wpAny_throw (tk _ _ ?_)
          exact ⟨ea, B, sI, pins, σq, Hq, cls, d, rfl, J, nb, (up.trans upg3).trans upg4, .inr (.inr (by rw [hs]; exact fly4)), na, os, ag, w1⟩
        first
          | exact wpAny_bind (wpAny_pure (wpAny_bind last))
          | exact wpAny_bind last
      | @plain x c ts b₀ suite np pq hs3 l3 hc hsu r ih =>
        intro w1
        obtain ⟨b, hb1, hyes, hno⟩ := w1
        refine wpAny_handleBy_cons (codeAny_handlers_test ?_) (by intro q; cases q)
        refine named hc ((PySem.W.exm_one (M := model X.prog X.w) K3.kIn LT hb1).here ?_)
        cases b with
        | true =>
          refine codeAny_handlers_suite (HandSPX.lands_againZ fly3 fun g4 fly4 upg4 => ?_)
          have K4 : Inv X pins σq Hq { s' with heap := g4 } := J.landed nb fly4.1 ((up.trans upg3).trans upg4) os ag
          obtain ⟨ob4, fv4, hg4, zc4, dt4⟩ := fly4.there
          have Q4 := K4.suite hg4 dt4 na neL neF
          refine wpAny_mono ((hsu ea ob4 cls d (X.pn ++ pins) zc4 ⟨_, dt4⟩).run [] _ _ Hq _ Q4 (hyes rfl ea na)) (fun f1 s6 hsp => ?_) (fun _ _ z => False.elim z)
          cases f1 with
          | ret u6 =>
            obtain ⟨v6, σ6, H6, S6, r6, q6⟩ := hsp
            exact ⟨_, _, _, S6.unsuite ok, r6, q6⟩
          | next | brk | cont =>
            obtain ⟨σ6, H6, S6, q6⟩ := hsp
            exact ⟨_, _, S6.unsuite ok, q6⟩
        | false =>
          show wpAny _ X.A (handleBy (.ref ea) X.env hs3) _ _ _
          exact ih (hno rfl)
      | @named x n c i ts b₀ suite np pq hs3 l3 hc hi hln hsu r ih =>
        intro w1
        obtain ⟨b, hb1, hyes, hno⟩ := w1
        refine wpAny_handleBy_cons (codeAny_handlers_test ?_) (by intro q; cases q)
        refine named hc ((PySem.W.exm_one (M := model X.prog X.w) K3.kIn LT hb1).here ?_)
        cases b with
        | true =>
          refine codeAny_handlers_suite_as (HandSPX.lands_againZ fly3 fun g4 fly4 upg4 => ?_)
          have K4 : Inv X pins σq Hq { s' with heap := g4 } := J.landed nb fly4.1 ((up.trans upg3).trans upg4) os ag
          obtain ⟨ob4, fv4, hg4, zc4, dt4⟩ := fly4.there
          have Q4 := K4.suite hg4 dt4 na neL neF
          refine store_ok (X := X.suite ea ((ea, ob4) :: (X.pn ++ pins))) (v := .ref ea) Q4 hN hi (.inl hln) rfl (fun s5 S5 => ?_) (.inr hln)
          refine wpAny_mono ((hsu ea ob4 cls d (X.pn ++ pins) zc4 ⟨_, dt4⟩).run [] s5 _ Hq _ S5 (hyes rfl ea na)) (fun f1 s6 hsp => ?_) (fun _ _ z => False.elim z)
          have away : ∀ {σ6 : St} {H6 : Hp} {Q6 : Shared → Prop}, Inv (X.suite ea ((ea, ob4) :: (X.pn ++ pins))) [] σ6 H6 s6 → (∀ s7, Inv X pins (σ6.set i none) H6 s7 → Q6 s7) →
              wpAny (model X.prog X.w) X.A (do bindName X.env n .none; unbindBehindTheSuite X.env n pq) (fun _ s7 => Q6 s7) X.xe s6 := fun S6 hq => gone_ok (S6.unsuite ok) hN hi hln hq
          cases f1 with
          | ret u6 =>
            obtain ⟨v6, σ6, H6, S6, r6, q6⟩ := hsp
            exact away S6 fun s7 J7 => ⟨_, _, _, J7, r6, q6⟩
          | next | brk | cont =>
            obtain ⟨σ6, H6, S6, q6⟩ := hsp
            exact away S6 fun s7 J7 => ⟨_, _, J7, q6⟩
        | false =>
          show wpAny _ X.A (handleBy (.ref ea) X.env hs3) _ _ _
          exact ih (hno rfl)
    exact run hh wish
  · cases fl with
    | next =>
      obtain ⟨σq, Hq, Jt, q1⟩ := hsp
      exact wpAny_execs_nil ⟨σq, Hq, Jt.ofTry ok, q1⟩
    | brk | cont =>
      obtain ⟨σq, Hq, Jt, q1⟩ := hsp
      exact ⟨σq, Hq, Jt.ofTry ok, q1⟩
    | ret u =>
      obtain ⟨v, σq, Hq, Jt, r1, q1⟩ := hsp
      exact ⟨v, σq, Hq, Jt.ofTry ok, r1, q1⟩
end
end L2

/-! # Own layer: defs bundled by name, list items read for a store, frames, reading steps -/
namespace L2
open PySem PySem.Spec PyProof.Rows

/-- the def of this name keeps the promise -/
def FnB (P : Program) (w : World) (K : PySem.W.Frag) (mg : Str → Option Value) (base : Heap) (CX : CXT) (k : Nat) (x : Str) (ps : List Str) (sp : Sp) : Prop :=
  ∃ (f : Addr) (fd : FuncData), FnOk P w K mg base CX k f fd ps sp ∧ mg x = some (.ref f) ∧ PySem.W.keepIn K (.ref f) = true ∧ Binds K fd ps []

section
variable {X : Cx} {CX : CXT} {k : Nat} {ps : List Str} {sp : Sp} {E : XK} {x : Str} {p pos : Pos} {e : Expr} {es : List Expr} {t : TA}
theorem pe_callF (F : FnB X.prog X.w X.K X.mg X.base CX k x ps sp) (hr : Room k X.A) (hg : Gl X x) (hx : Passes CX X E)
    (ha : PA X (e :: es) t) (hdb : (x == ("__debug__" : Str)) = false := by decide) (he : starEach (e :: es) X.env = (false, eval e X.env) :: starEach es X.env := by rfl) (hpl : (backTo pos (starEach es X.env)).any (·.1) = false := by rfl) :
    PE X (.Call (.Name x p) (e :: es) [] pos) (tCall sp [] E t) := by
  obtain ⟨f, fd, F1, g, kp, b⟩ := F
  exact pe_call F1 hr hg g kp b .nil hx ha hdb he hpl
theorem pe_callFS {ES : St → XK} (F : FnB X.prog X.w X.K X.mg X.base CX k x ps sp) (hr : Room k X.A) (hg : Gl X x) (hx : ∀ σ, PassesAt CX X σ (ES σ))
    (ha : PA X (e :: es) t) (hdb : (x == ("__debug__" : Str)) = false := by decide) (he : starEach (e :: es) X.env = (false, eval e X.env) :: starEach es X.env := by rfl) (hpl : (backTo pos (starEach es X.env)).any (·.1) = false := by rfl) :
    PE X (.Call (.Name x p) (e :: es) [] pos) (tCallS sp ES t) := by
  obtain ⟨f, fd, F1, g, kp, b⟩ := F
  exact pe_callS F1 hr hg g kp b hx ha hdb he hpl
theorem pget_list : PGet X (rIxL X.K) := by
  intro pins s σ H o i ov iv Q I ro ri h
  obtain ⟨p, xs, j, z, rfl, rfl, hq, he, q⟩ := h
  cases ro
  obtain ⟨t, rfl⟩ := ri
  obtain ⟨its, r, pl, hz⟩ := I.list hq
  obtain ⟨n, h1, h2, h3, h4, h5⟩ := atI_get he
  obtain ⟨w, ew, rw'⟩ := r.get h2
  have hl := r.length
  have hn := line63
  have fin : EP X pins σ Q w s := ⟨z, H, I, rw', q⟩
  by_cases h0 : 0 ≤ j
  · have hj : j.toNat = n := by
      rw [seqIndex_of h0 h5] at h1
      exact Option.some.inj h1
    exact wpAny_getItem_list pl.isList h0 (by omega) (by rw [hj]; simpa using ew) fin
  · have hj : (j + (its.toArray.size : Int)).toNat = n := by
      rw [seqIndex_neg (by omega) h4] at h1
      rw [List.size_toArray, ← hl]
      exact Option.some.inj h1
    exact wpAny_getItem_list_neg (Q := fun v s' => EP X pins σ Q v s') pl.isList (by omega) (by rw [List.size_toArray] <;> omega) (by omega) (by rw [hj]; simpa using ew) fin
end

theorem passN {X : Cx} : Passes (L2.CX X.prog X.w) X E0 := fun _ _ _ _ _ _ _ h => by
  obtain ⟨_, _, _, _, _, _, _, _, _, _, _, _, z⟩ := h
  exact z.elim
/-! ### frames: what is tracked stays, but for the addresses of S -/
def Fr (S : List Addr) (H H' : Hp) : Prop := ∀ a o, H a = some o → a ∉ S → H' a = some o
theorem Fr.refl (S : List Addr) (H : Hp) : Fr S H H := fun _ _ h _ => h
theorem Fr.trans {S : List Addr} {H H1 H2 : Hp} (a : Fr S H H1) (b : Fr S H1 H2) : Fr S H H2 := fun c o h n => b c o (a c o h n) n
theorem Fr.new {S : List Addr} {H H' : Hp} {p : Addr} {o : HO} (e : Fr S H H') (h : H' p = none) : Fr S H (upd H' p o) := fun a u ha n => by
  have z := e a u ha n
  rw [upd_ne (ne_of_none z h)]
  exact z
/-- a store at an address of S, or at one that H does not know -/
theorem Fr.put {S : List Addr} {H H' : Hp} {p : Addr} {o : HO} (e : Fr S H H') (h : p ∈ S ∨ H p = none) : Fr S H (upd H' p o) := fun a u ha n => by
  have ne : a ≠ p := by
    rintro rfl
    rcases h with h | h
    · exact n h
    · rw [ha] at h
      cases h
  rw [upd_ne ne]
  exact e a u ha n
theorem Fr.sub {S S' : List Addr} {H H' : Hp} (e : Fr S H H') (h : ∀ a, a ∈ S → a ∈ S') : Fr S' H H' := fun a o ha n => e a o ha fun z => n (h a z)
theorem Fr.nil {S : List Addr} {H H' : Hp} (e : Fr [] H H') : Fr S H H' := fun a o ha _ => e a o ha (by simp)
theorem Fr.free {H H' : Hp} {p : Addr} (e : Fr [] H H') (h : H' p = none) : H p = none := by
  cases q : H p with
  | none => rfl
  | some o =>
    rw [e p o q (by simp)] at h
    cases h
theorem Fr.free1 {H H' : Hp} {p b : Addr} {o : HO} (e : Fr [b] H H') (hb : H' b = some o) (h : H' p = none) : H p = none := by
  cases q : H p with
  | none => rfl
  | some u =>
    by_cases z : p = b
    · rw [z, hb] at h
      cases h
    · rw [e p u q (by simpa using z)] at h
      cases h
theorem Fr.l {K : PySem.W.Frag} {H H' : Hp} {a : Addr} {xs : List V} (e : Fr [] H H') (h : SqL K H a xs) : SqL K H' a xs := by
  rcases h with (h | ⟨o, h⟩) | h
  · exact .inl (.inl (e _ _ h (by simp)))
  · exact .inl (.inr ⟨o, e _ _ h (by simp)⟩)
  · exact .inr h
theorem Fr.t {K : PySem.W.Frag} {H H' : Hp} {a : Addr} {xs : List V} (e : Fr [] H H') (h : SqT K H a xs) : SqT K H' a xs := by
  rcases h with (h | ⟨o, h⟩) | h
  · exact .inl (.inl (e _ _ h (by simp)))
  · exact .inl (.inr ⟨o, e _ _ h (by simp)⟩)
  · exact .inr h

/-! ### places of lists -/
theorem at_map {α : Type} {f : α → V} {xs : List α} {j : Nat} {v : α} (h : xs[j]? = some v) : atI (xs.map f) (j : Int) = some (f v) := atI_nat (by rw [List.getElem?_map, h]; rfl)
theorem ix_nat {n j : Nat} (h : j < n) : ixN n (j : Int) = some j := by
  unfold ixN
  rw [if_pos (Int.natCast_nonneg j), if_pos (by exact_mod_cast h)]
  rfl
theorem at_int {α : Type} {xs : List α} {i : Int} {v : α} (h0 : 0 ≤ i) (h : xs[i.toNat]? = some v) : atI xs i = some v := by
  have e : ((i.toNat : Nat) : Int) = i := Int.toNat_of_nonneg h0
  rw [← e]
  exact atI_nat h
theorem ix_int {n : Nat} {i : Int} (h0 : 0 ≤ i) (h : i < n) : ixN n i = some i.toNat := by
  unfold ixN
  rw [if_pos h0, if_pos h]
end L2

namespace L2
open PySem PySem.Spec PyProof.Rows
/-- the built-in names that no module of the row binds -/
structure Blt (mg : Str → Option Value) : Prop where
  m_len : mg "len" = none
  m_int : mg "int" = none
  m_range : mg "range" = none
  m_list : mg "list" = none
  m_min : mg "min" = none
  m_max : mg "max" = none
  m_abs : mg "abs" = none
  m_isinstance : mg "isinstance" = none
  m_bool : mg "bool" = none
  m_str : mg "str" = none
  m_tuple : mg "tuple" = none
  m_dict : mg "dict" = none
  m_sorted : mg "sorted" = none
  m_sum : mg "sum" = none
  m_repr : mg "repr" = none
  m_zip : mg "zip" = none
  m_enumerate : mg "enumerate" = none
  m_reversed : mg "reversed" = none

theorem dec_iff {p : Prop} [Decidable p] {A B : Prop} (h1 : p → A) (h2 : ¬ p → B) : if decide p = true then A else B := by
  by_cases h : p
  · rw [decide_eq_true h]
    exact iteT (h1 h)
  · rw [decide_eq_false h]
    exact iteF (h2 h)
theorem iteY {c : Bool} {A B : Prop} (hc : c = true) (h : A) : if c = true then A else B := by rw [if_pos hc]; exact h
theorem iteN {c : Bool} {A B : Prop} (hc : c = false) (h : B) : if c = true then A else B := by rw [hc, if_neg Bool.false_ne_true]; exact h
/-- b || c by its ways -/
theorem bool_iff {c : Bool} {A B : Prop} (h1 : c = true → A) (h2 : c = false → B) : if c = true then A else B := by
  cases c with
  | true => exact iteT (h1 rfl)
  | false => exact iteF (h2 rfl)

/-! ### the bag of a law: what is left of the script, and the numbers drawn from it -/
def BagAt (H : Hp) (b c : Addr) (ns : List Int) (i v s : Int) : Prop :=
  H b = some (.lst [.ref c, .int i, .int v, .int s]) ∧ H c = some (.lst (ns.map V.int)) ∧ 0 ≤ i ∧ 0 ≤ v ∧ 0 ≤ s
def Bag (H : Hp) (b : Addr) : Prop := ∃ c ns i v s, BagAt H b c ns i v s
theorem BagAt.ne {H : Hp} {b c : Addr} {ns : List Int} {i v s : Int} (h : BagAt H b c ns i v s) : c ≠ b := by
  rintro rfl
  have e := h.1.symm.trans h.2.1
  cases ns with
  | nil => cases e
  | cons n r =>
    have e2 := HO.lst.inj (Option.some.inj e)
    cases e2
theorem BagAt.put {H : Hp} {b c : Addr} {ns : List Int} {i v s i' v' s' : Int} (h : BagAt H b c ns i v s) (hi : 0 ≤ i') (hv : 0 ≤ v') (hs : 0 ≤ s') : BagAt (upd H b (.lst [.ref c, .int i', .int v', .int s'])) b c ns i' v' s' :=
  ⟨upd_same, by rw [upd_ne h.ne]; exact h.2.1, hi, hv, hs⟩
theorem BagAt.fr {S : List Addr} {H H' : Hp} {b c : Addr} {ns : List Int} {i v s : Int} (h : BagAt H b c ns i v s) (e : Fr S H H') (hb : b ∉ S) (hc : c ∉ S) : BagAt H' b c ns i v s :=
  ⟨e _ _ h.1 hb, e _ _ h.2.1 hc, h.2.2⟩
theorem Bag.fr {H H' : Hp} {b : Addr} (h : Bag H b) (e : Fr [] H H') : Bag H' b := by
  obtain ⟨c, ns, i, v, s, h⟩ := h
  exact ⟨c, ns, i, v, s, h.fr e (by simp) (by simp)⟩
theorem Bag.new {H : Hp} {b p : Addr} {o : HO} (h : Bag H b) (hp : H p = none) : Bag (upd H p o) b := h.fr ((Fr.refl [] H).new hp)
theorem Bag.some {H : Hp} {b : Addr} (h : Bag H b) : ∃ o, H b = Option.some o := by
  obtain ⟨c, ns, i, v, s, h⟩ := h
  exact ⟨_, h.1⟩
/-- the bag at b whose numbers stand at c -/
def BagC (H : Hp) (b c : Addr) : Prop := ∃ ns i v s, BagAt H b c ns i v s
theorem BagC.ne {H : Hp} {b c : Addr} (h : BagC H b c) : c ≠ b := by
  obtain ⟨ns, i, v, s, h⟩ := h
  exact h.ne
theorem BagC.fr {S : List Addr} {H H' : Hp} {b c : Addr} (h : BagC H b c) (e : Fr S H H') (hb : b ∉ S) (hc : c ∉ S) : BagC H' b c := by
  obtain ⟨ns, i, v, s, h⟩ := h
  exact ⟨ns, i, v, s, h.fr e hb hc⟩
theorem BagC.put {H : Hp} {b c p : Addr} {o : HO} (h : BagC H b c) (hb : p ≠ b) (hc : p ≠ c) : BagC (upd H p o) b c :=
  h.fr (S := [p]) ((Fr.refl _ H).put (.inl (by simp))) (by simpa using hb.symm) (by simpa using hc.symm)
theorem BagC.new {H : Hp} {b c p : Addr} {o : HO} (h : BagC H b c) (hp : H p = none) : BagC (upd H p o) b c := by
  obtain ⟨ns, i, v, s, h⟩ := h
  exact ⟨ns, i, v, s, h.fr ((Fr.refl [] H).new hp) (by simp) (by simp)⟩
theorem BagC.b {H : Hp} {b c : Addr} (h : BagC H b c) : ∃ i v s, H b = some (.lst [.ref c, .int i, .int v, .int s]) := by
  obtain ⟨ns, i, v, s, h⟩ := h
  exact ⟨_, _, _, h.1⟩
theorem BagC.neb {H : Hp} {b c p : Addr} (h : BagC H b c) (hp : H p = none) : p ≠ b := by
  obtain ⟨i, v, s, h⟩ := h.b
  exact (ne_of_none h hp).symm
theorem BagC.nec {H : Hp} {b c p : Addr} (h : BagC H b c) (hp : H p = none) : p ≠ c := by
  obtain ⟨ns, i, v, s, h⟩ := h
  exact (ne_of_none h.2.1 hp).symm
/-- _law_take(bag, many): some number below many; all but the bag stays -/
def spTake : Sp := fun vs H Q _ => ∃ (b c : Addr) (many : Int), vs = [.ref b, .int many] ∧ BagC H b c ∧ 0 < many ∧ many.natAbs.log2 < 9000 ∧
  ∀ (t : Int) (H' : Hp), 0 ≤ t → t < many → Fr [b] H H' → BagC H' b c → Q (.int t) H'
/-- _law_bag(script): a new bag -/
def spBag (K : PySem.W.Frag) : Sp := fun vs H Q _ => ∃ (a : Addr) (ns : List Int), vs = [.ref a] ∧ SqL K H a (ns.map V.int) ∧ ns.length ≤ 1000 ∧
  ∀ (b c : Addr) (H' : Hp), H b = none → H c = none → Fr [] H H' → BagC H' b c → Q (.ref b) H'
theorem log_ok {z : Int} (h : z.natAbs < 2 ^ 250) : z.natAbs.log2 < 9000 := by
  by_cases c : z.natAbs = 0
  · rw [c]
    decide
  · rw [Nat.log2_lt c]
    exact Nat.lt_of_lt_of_le h (Nat.pow_le_pow_right (by decide) (by decide))
end L2

namespace L2
open PySem PySem.Spec PyProof.Rows
theorem get_map_int {ns : List Int} {i : Nat} {y : V} (h : (ns.map V.int)[i]? = some y) : ∃ z, ns[i]? = some z ∧ y = V.int z := by
  rw [List.getElem?_map] at h
  cases e : ns[i]? with
  | none => rw [e] at h; cases h
  | some z => rw [e] at h; exact ⟨z, rfl, (Option.some.inj h).symm⟩
theorem get_mapf {α : Type} {f : α → V} {ns : List α} {i : Nat} {y : V} (h : (ns.map f)[i]? = some y) : ∃ z, ns[i]? = some z ∧ y = f z := by
  rw [List.getElem?_map] at h
  cases e : ns[i]? with
  | none => rw [e] at h; cases h
  | some z => rw [e] at h; exact ⟨z, rfl, (Option.some.inj h).symm⟩
theorem take_succ {α : Type} {ns : List α} {i : Nat} {z : α} (h : ns[i]? = some z) : ns.take (i + 1) = ns.take i ++ [z] := by
  rw [List.take_add_one, h]
  rfl
end L2

namespace L2
open PySem PySem.Spec PyProof.Rows
theorem for_rng {n : Nat} {g : TG} {tb : TS} {D : Ends} {σ : St} {H : Hp} (Pv : Nat → St → Hp → Prop) (h0 : Pv 0 σ H)
    (hs : ∀ i σ H, i < n → Pv i σ H → g (.int (i : Int)) σ H fun σ2 H2 => tb { D with nx := Pv (i + 1), ct := Pv (i + 1), bk := D.nx } σ2 H2) (hd : ∀ σ H, Pv n σ H → D.nx σ H) :
    ∃ W : Nat → Nat → St → Hp → Prop, (∃ m, W 0 m σ H) ∧ ∀ i m σ H, W i m σ H →
      ((Itr 0 n).stop i H ∧ D.nx σ H) ∨ ((Itr 0 n).go i H ∧ ∃ N : St → Hp → Prop, (∀ σ' H', N σ' H' → ∃ m', m' < m ∧ W (i + 1) m' σ' H') ∧ ∀ x H', (Itr 0 n).yld i H x H' → g x σ H' fun σ2 H2 => tb { D with nx := N, ct := N, bk := D.nx } σ2 H2) :=
  for_range Pv h0 (fun i σ H hi p => by rw [Int.zero_add]; exact hs i σ H hi p) hd
theorem lc_rng {n : Nat} {g : TG} {tt : TT} {te : TE} {vs : List Nat} {σ : St} {H1 : Hp} {D : Addr} {Qd : Hp → Prop} (Pv : Nat → Hp → Prop) (h0 : Pv 0 (upd H1 D (.lst [])))
    (hs : ∀ i H, i < n → Pv i H → g (.int (i : Int)) (wipe σ vs) H fun σ2 H2 => wipe σ2 vs = wipe σ vs ∧ tt σ2 H2 fun b H3 =>
      if b = true then te σ2 H3 fun y H4 => ∃ acc, H4 D = some (.lst acc) ∧ acc.length < sizeLine ∧ Pv (i + 1) (upd H4 D (.lst (acc ++ [y]))) else Pv (i + 1) H3) (hd : ∀ H, Pv n H → Qd H) :
    ∃ W : Nat → Nat → Hp → Prop, (∃ m, W 0 m (upd H1 D (.lst []))) ∧ ∀ i m H, W i m H →
      ((Itr 0 n).stop i H ∧ Qd H) ∨ ((Itr 0 n).go i H ∧ ∃ Nx : Hp → Prop, (∀ H', Nx H' → ∃ m', m' < m ∧ W (i + 1) m' H') ∧ ∀ x H', (Itr 0 n).yld i H x H' → g x (wipe σ vs) H' fun σ2 H2 => wipe σ2 vs = wipe σ vs ∧ tt σ2 H2 fun b H3 =>
        if b = true then te σ2 H3 fun y H4 => ∃ acc, H4 D = some (.lst acc) ∧ acc.length < sizeLine ∧ Nx (upd H4 D (.lst (acc ++ [y]))) else Nx H3) :=
  lc_range Pv h0 (fun i H hi p => by rw [Int.zero_add]; exact hs i H hi p) hd
/-- numbers that a range takes -/
theorem rg_ok {n : Nat} (h : n ≤ 100000000) : -(2 ^ 62) ≤ (n : Int) ∧ (n : Int) < 2 ^ 62 := by omega
theorem len_line {n : Nat} (h : n ≤ 100000) : n ≤ sizeLine := Nat.le_trans h (by decide)
theorem len_lt {n : Nat} (h : n < 100000) : n < sizeLine := Nat.lt_of_lt_of_le h (by decide)
/-- ends that nobody asks for -/
def noEnds : Ends := { nx := fun _ _ => False, rt := fun _ _ => False }
theorem rep_one {n : Nat} {v : V} : (List.replicate n [v]).flatten = List.replicate n v := by
  induction n with
  | zero => rfl
  | succ m ih =>
    rw [List.replicate_succ, List.flatten_cons, ih, List.replicate_succ]
    rfl
end L2

namespace L2
open PySem PySem.Spec PyProof.Rows
theorem while_m {c : TT} {tb : TS} {D : Ends} {σ : St} {H : Hp} (W : Nat → St → Hp → Prop) (m0 : Nat) (h0 : W m0 σ H)
    (hs : ∀ m σ H, W m σ H → c σ H fun b H1 => if b = true then tb { D with nx := fun σ' H' => ∃ m', m' < m ∧ W m' σ' H', ct := fun σ' H' => ∃ m', m' < m ∧ W m' σ' H', bk := D.nx } σ H1 else D.nx σ H1)
    (mono : ∀ σ H Q Q', (∀ b H1, Q b H1 → Q' b H1) → c σ H Q → c σ H Q') : tWhile c tb D σ H := by
  refine ⟨W, ⟨m0, h0⟩, fun m σ H p => mono σ H _ _ (fun b H1 q => ?_) (hs m σ H p)⟩
  cases b with
  | true => exact ⟨_, fun σ' H' h => h, q⟩
  | false => exact q
/-- while True -/
theorem while_true {tb : TS} {D : Ends} {σ : St} {H : Hp} (W : Nat → St → Hp → Prop) (m0 : Nat) (h0 : W m0 σ H)
    (hs : ∀ m σ H, W m σ H → tb { D with nx := fun σ' H' => ∃ m', m' < m ∧ W m' σ' H', ct := fun σ' H' => ∃ m', m' < m ∧ W m' σ' H', bk := D.nx } σ H) : tWhile (tB (tC (.bl true))) tb D σ H :=
  while_m W m0 h0 (fun m σ H p => ⟨true, rfl, iteT (hs m σ H p)⟩) fun σ H Q Q' h ⟨c, e, q⟩ => ⟨c, e, h _ _ q⟩
/-- the places of a list of numbers, as a dict -/
def kvsOf : List Int → Nat → List (Key × V)
  | [], _ => []
  | v :: r, i => (Sum.inl v, V.int (i : Int)) :: kvsOf r (i + 1)
theorem kvsOf_len : ∀ (l : List Int) (i : Nat), (kvsOf l i).length = l.length
  | [], _ => rfl
  | v :: r, i => by
    show (kvsOf r (i + 1)).length + 1 = r.length + 1
    rw [kvsOf_len r]
theorem kvsOf_snoc (v : Int) : ∀ (l : List Int) (i : Nat), kvsOf (l ++ [v]) i = kvsOf l i ++ [(Sum.inl v, V.int ((i + l.length : Nat) : Int))]
  | [], i => rfl
  | u :: r, i => by
    show (_ :: kvsOf (r ++ [v]) (i + 1)) = _ :: (kvsOf r (i + 1) ++ _)
    rw [kvsOf_snoc v r (i + 1)]
    have e : i + 1 + r.length = i + (u :: r).length := by
      rw [List.length_cons]
      omega
    rw [e]
theorem kvsOf_val (v : Int) : ∀ (l : List Int) (i : Nat), valV (kvsOf l i) (Sum.inl v : Key) = if v ∈ l then some (V.int ((i + l.idxOf v : Nat) : Int)) else none
  | [], i => rfl
  | u :: r, i => by
    have ih := kvsOf_val v r (i + 1)
    unfold valV at ih ⊢
    show ((_ :: kvsOf r (i + 1)).find? _).map _ = _
    rw [List.find?_cons]
    by_cases c : u = v
    · have d : decide ((Sum.inl u : Key) = Sum.inl v) = true := decide_eq_true (by rw [c])
      simp only [d]
      rw [if_pos (by rw [c]; exact List.mem_cons_self), c, List.idxOf_cons_self]
      rfl
    · have d : decide ((Sum.inl u : Key) = Sum.inl v) = false := decide_eq_false (fun e => c (Sum.inl.inj e))
      simp only [d]
      rw [ih]
      by_cases m : v ∈ r
      · rw [if_pos m, if_pos (List.mem_cons_of_mem _ m)]
        have ec : (u == v) = false := by simpa using c
        rw [List.idxOf_cons, ec]
        have e : i + 1 + r.idxOf v = i + (r.idxOf v + 1) := by omega
        rw [e]
        rfl
      · rw [if_neg m, if_neg]
        intro h
        rcases List.mem_cons.mp h with h | h
        · exact c h.symm
        · exact m h
theorem cut_drop (xs : List V) (i : Nat) (h : i ≤ xs.length) : cutV xs (some (i : Int)) none = xs.drop i := by
  unfold cutV
  have e1 : HT.sIx xs.length 0 (some (i : Int)) = i := by
    rw [HT.sIx_nat]
    omega
  have e2 : HT.sIx xs.length xs.length none = xs.length := rfl
  rw [e1, e2]
  exact List.take_of_length_le (by rw [List.length_drop]; exact Nat.le_refl _)
end L2

namespace L2
open PySem PySem.Spec PyProof.Rows
theorem nint {a b : Int} (h : (!decide (V.int a = V.int b)) = true) : a ≠ b := fun e => by
  rw [e] at h
  simp at h
theorem yint {a b : Int} (h : (!decide (V.int a = V.int b)) = false) : a = b := by
  have : decide (V.int a = V.int b) = true := by simpa using h
  exact V.int.inj (of_decide_eq_true this)
theorem ne_if {a b : Int} {A B : Prop} (h1 : a ≠ b → A) (h2 : a = b → B) : if (!decide (V.int a = V.int b)) = true then A else B := bool_iff (fun h => h1 (nint h)) fun h => h2 (yint h)
theorem eq_if {a b : Int} {A B : Prop} (h1 : a = b → A) (h2 : a ≠ b → B) : if decide (V.int a = V.int b) = true then A else B :=
  dec_iff (fun h => h1 (V.int.inj h)) fun h => h2 fun e => h (congrArg V.int e)
theorem not_if {p : Prop} [Decidable p] {A B : Prop} (h1 : ¬ p → A) (h2 : p → B) : if (!decide p) = true then A else B := by
  by_cases h : p
  · rw [decide_eq_true h]
    exact iteF (h2 h)
  · rw [decide_eq_false h]
    exact iteT (h1 h)
end L2

namespace L2
open PySem PySem.Spec PyProof.Rows
/-- min(t), t a tuple of two ints -/
def rMinT (K : PySem.W.Frag) : List V → Hp → VK → Prop := fun vs H Q => ∃ (a : Addr) (i j : Int), vs = [V.ref a] ∧ SqT K H a [.int i, .int j] ∧ Q (.int (if j < i then j else i)) H
theorem cr_minT {X : Cx} (hc : X.calm = true) (hu : X.A.units + 65 < cLine) : CallR X (.builtin "min") (rMinT X.K) := by
  intro pins s σ H vs us Q I r h
  obtain ⟨a, i, j, rfl, hs, q⟩ := h
  obtain ⟨its, rv, hl, _⟩ := I.tuple hs
  rw [Vals.ref1 r]
  obtain ⟨u1, u2, rfl, ⟨t1, rfl⟩, ⟨t2, rfl⟩⟩ := vals2 rv
  refine PySem.W.min_tuple_datum (α := Int) (x := i) (xs := [j]) (I.ok.hd hc) hl (PySem.W.HoldAll.cons (PySem.W.holds_int _ _) (PySem.W.HoldAll.cons (PySem.W.holds_int _ _) PySem.W.HoldAll.nil)) (by show X.A.units + 1 + 0 < cLine; omega) fun k v h' tk hk hv kp => ?_
  have J := I.kept (t' := tk) kp
  have hval : ∀ (n : Int) (t : Tok), v = .int n t → n = PySem.W.minOf i [j] := fun n t e => by
    subst e
    obtain ⟨as, rd⟩ := hv
    cases rd
    rfl
  have em : PySem.W.minOf i [j] = if j < i then j else i := by
    show (if PySem.W.DatumOrd.lt j i = true then j else i) = _
    by_cases c : j < i
    · rw [if_pos c, if_pos (by show decide (j < i) = true; exact decide_eq_true c)]
    · rw [if_neg c, if_neg (by show ¬ decide (j < i) = true; simpa using c)]
  obtain ⟨n, t, rfl⟩ : ∃ n t, v = Value.int n t := by
    match k, hk with
    | 0, hk => exact ⟨i, t1, (Option.some.inj hk).symm⟩
    | 1, hk => exact ⟨j, t2, (Option.some.inj hk).symm⟩
    | k + 2, hk => simp at hk
  have en := hval n t rfl
  rw [em] at en
  exact ⟨.int n, H, J, ⟨t, rfl⟩, by rw [en]; exact q⟩
end L2

namespace L2
open PySem PySem.Spec PyProof.Rows
/-! ### data: lists of ints, pairs of ints, lists of pairs -/
def dInts (xs : List Int) : PyData := .list (xs.map PyData.int)
def dPr (p : Int × Int) : PyData := .tuple [.int p.1, .int p.2]
def dPrs (ps : List (Int × Int)) : PyData := .list (ps.map dPr)
theorem dpa_ints {K : PySem.W.Frag} {H : Hp} : ∀ xs : List Int, DpAll K H (xs.map V.int) (xs.map PyData.int)
  | [] => .nil
  | x :: xs => .cons (.int x) (dpa_ints xs)
theorem dp_ints {K : PySem.W.Frag} {H : Hp} {a : Addr} {xs : List Int} (h : SqL K H a (xs.map V.int)) : Dp K H (.ref a) (dInts xs) := .lst h (dpa_ints xs)
theorem dp_pr {K : PySem.W.Frag} {H : Hp} {t : Addr} {p : Int × Int} (h : SqT K H t [.int p.1, .int p.2]) : Dp K H (.ref t) (dPr p) := .tup h (.cons (.int _) (.cons (.int _) .nil))
theorem dpa_prs {K : PySem.W.Frag} {H : Hp} : ∀ (ts : List Addr) (ps : List (Int × Int)), ts.length = ps.length → (∀ (k : Nat) (t : Addr) (p : Int × Int), ts[k]? = some t → ps[k]? = some p → SqT K H t [.int p.1, .int p.2]) → DpAll K H (ts.map V.ref) (ps.map dPr)
  | [], [], _, _ => .nil
  | t :: ts, p :: ps, hl, h => .cons (dp_pr (h 0 t p rfl rfl)) (dpa_prs ts ps (by simpa using hl) fun k t' p' a b => h (k + 1) t' p' a b)
  | [], _ :: _, hl, _ => by simp at hl
  | _ :: _, [], hl, _ => by simp at hl
theorem ints_lay : ∀ xs : List Int, PyData.canLayAll0 (xs.map PyData.int) = true
  | [] => by simp [PyData.canLayAll0]
  | x :: xs => by simp [PyData.canLayAll0, PyData.canLay0, ints_lay xs]
theorem ints_depth : ∀ xs : List Int, PyData.depthAll (xs.map PyData.int) ≤ 1
  | [] => by simp [PyData.depthAll]
  | x :: xs => by
    have := ints_depth xs
    simp only [List.map_cons, PyData.depthAll, PyData.depth]
    omega
theorem prs_lay : ∀ ps : List (Int × Int), PyData.canLayAll0 (ps.map dPr) = true
  | [] => by simp [PyData.canLayAll0]
  | p :: ps => by simp [PyData.canLayAll0, PyData.canLay0, dPr, prs_lay ps]
theorem pr_depth (p : Int × Int) : (dPr p).depth ≤ 2 := by simp [dPr, PyData.depth, PyData.depthAll]
theorem prs_depth : ∀ ps : List (Int × Int), PyData.depthAll (ps.map dPr) ≤ 2
  | [] => by simp [PyData.depthAll]
  | p :: ps => by
    have h1 := prs_depth ps
    have h2 := pr_depth p
    simp only [List.map_cons, PyData.depthAll]
    omega
theorem shaped_of {d : PyData} (h : d.canLay0 = true) (h2 : d.depth ≤ 64) : SeqAt.shaped d = true := by
  show (d.canLay0 && decide (d.depth ≤ 64)) = true
  rw [h, decide_eq_true h2]
  rfl
theorem ints_shaped (xs : List Int) : SeqAt.shaped (dInts xs) = true := shaped_of (by simp only [dInts, PyData.canLay0]; exact ints_lay xs) (by have := ints_depth xs; simp only [dInts, PyData.depth]; omega)
theorem pr_shaped (p : Int × Int) : SeqAt.shaped (dPr p) = true := shaped_of (by simp [dPr, PyData.canLay0, PyData.canLayAll0]) (by have := pr_depth p; omega)
theorem prs_shaped (ps : List (Int × Int)) : SeqAt.shaped (dPrs ps) = true := shaped_of (by simp only [dPrs, PyData.canLay0]; exact prs_lay ps) (by have := prs_depth ps; simp only [dPrs, PyData.depth]; omega)
theorem ints_eqvA : ∀ xs : List Int, PyData.eqvAll (xs.map PyData.int) (xs.map PyData.int) = true
  | [] => by simp [PyData.eqvAll]
  | x :: xs => by simp [PyData.eqvAll, PyData.eqv, ints_eqvA xs]
theorem ints_eqv (xs : List Int) : PyData.eqv (dInts xs) (dInts xs) = true := by simp only [dInts, PyData.eqv]; exact ints_eqvA xs
theorem pr_eqv (p q : Int × Int) : PyData.eqv (dPr p) (dPr q) = decide (p = q) := by
  obtain ⟨a, b⟩ := p
  obtain ⟨c, d⟩ := q
  have e : PyData.eqv (dPr (a, b)) (dPr (c, d)) = ((a == c) && ((b == d) && true)) := by simp only [dPr, PyData.eqv, PyData.eqvAll]
  rw [e]
  by_cases h1 : a = c
  · by_cases h2 : b = d
    · subst h1 h2
      simp
    · simp [h2]
  · simp [h1]
theorem prs_eqvA : ∀ ps : List (Int × Int), PyData.eqvAll (ps.map dPr) (ps.map dPr) = true
  | [] => by simp [PyData.eqvAll]
  | p :: ps => by
    simp only [List.map_cons, PyData.eqvAll, prs_eqvA ps, pr_eqv]
    simp
theorem prs_eqv (ps : List (Int × Int)) : PyData.eqv (dPrs ps) (dPrs ps) = true := by simp only [dPrs, PyData.eqv]; exact prs_eqvA ps
theorem any_pr (ps : List (Int × Int)) (p : Int × Int) : ((ps.map dPr).any fun z => PyData.eqv z (dPr p)) = decide (p ∈ ps) := by
  induction ps with
  | nil => rfl
  | cons q ps ih =>
    rw [List.map_cons, List.any_cons, ih, pr_eqv]
    by_cases c : q = p
    · subst c; simp
    · simp [c, Ne.symm c]
end L2

/-! # Own layer: defs whose promise is kept where no repr is under way (the law's own call is such a place): repr of lists and tuples -/
namespace L2
open PySem PySem.Spec PyProof.Rows
/-- as FnOk, but for calls with no repr under way -/
structure FnG (P : Program) (w : World) (K : PySem.W.Frag) (mg : Str → Option Value) (base : Heap) (CX : CXT) (k : Nat) (f : Addr) (fd : FuncData) (ps : List Str) (sp : Sp) : Prop where
  many : ∀ vs H Q E, sp vs H Q E → vs.length = ps.length
  go : ∀ (B : Around) (out : List Env) (z : Shared) (H : Hp) (ar : Args) (us : List Value) (vs : List V) (Q : VK) (E : XK), Room k B → B.guards = some [] → Env0 P w K mg base B out z H → BindsTo z fd ar (ps.zip us) →
    Vals vs us → sp vs H Q E → codeAny (model P w) B (.call (.ref f) ar) (CR CX out P w H z Q E) z
theorem FnOk.g {P : Program} {w : World} {K : PySem.W.Frag} {mg : Str → Option Value} {base : Heap} {CX : CXT} {k : Nat} {f : Addr} {fd : FuncData} {ps : List Str} {sp : Sp} (F : FnOk P w K mg base CX k f fd ps sp) : FnG P w K mg base CX k f fd ps sp :=
  ⟨F.len, fun B out z H ar us vs Q E hr _ => F.run B out z H ar us vs Q E hr⟩
section
variable {P : Program} {w : World} {K : PySem.W.Frag} {mg : Str → Option Value} {base : Heap}
theorem fnG_mk {CX : CXT} {k : Nat} {x qual : Str} {st : Stmt} {f : Addr} {fd : FuncData} {N ps : List Str} {sp : Sp} (F : Fun K x qual st f fd) (S : FnScope N ps (defScope st)) (many : ∀ vs H Q E, sp vs H Q E → vs.length = ps.length)
    (body : ∀ (cdv : Value) (B : Around) (out : List Env) (z : Shared) (H : Hp) (vs : List V) (Q : VK) (E : XK), Room k (B.deeper (envOfC qual (defScope st) z.heap.objs.size f cdv)) → B.guards = some [] → sp vs H Q E →
      ∃ t, PSs (cxOf CX P w K mg base N qual (defScope st) f cdv B out z H E) (defBody st) t ∧ t { nx := fun _ H' => Q .non H', rt := Q } (start N vs) H) : FnG P w K mg base CX (k + 1) f fd ps sp := by
  obtain ⟨oc, od, kV, doc, pm, an, cdv, ct, osl, rfl, look, code⟩ := F.ex
  refine ⟨many, fun B out z H ar us vs Q E room hg e0 bind vals prom => ?_⟩
  have nvs := many vs H Q E prom
  have kin : K.In z.heap := e0.mod.kin.keeps fun c o hc => (e0.bs c o hc).1
  have nolim : z.heap.NoLimit := e0.mod.nolimit.keeps fun c o hc => (e0.bs c o hc).1
  refine codeAny_call_function room.depth (kin _ _ look) rfl S.co S.gen rfl (PySem.W.codeRec_of kin code) (bind _ _ _ _ ?_)
  refine wpAny_newFunctionEnv_cells S.kind (fun ⟨n, u⟩ hy => (S.par n (List.of_mem_zip hy).1).imp id fun q => ⟨q, PySem.W.cellsFrom_some _ _ _ (.inl q)⟩) fun env he z1 inside => ?_
  subst he
  refine ⟨nolim.keeps inside.toInCall.keep, codeAny_func ?_⟩
  obtain ⟨t, tree, wish⟩ := body cdv B out z H vs Q E (room.deeper _) hg prom
  have I0 := inv_start (CX := CX) (E := E) (qual := qual) (f := f) (cd := cdv) S room.hd e0 nvs vals inside
  refine wpAny_mono (tree.run [] z1 (start N vs) H _ I0 wish) (fun fl z2 hs => ?_) fun e z2 hs => hs
  match fl, hs with
  | .ret u, ⟨v, _, H2, J, rv, q⟩ => exact ⟨v, H2, J.os, J.bare, J.base, J.hok, rv, q⟩
  | .next, ⟨_, H2, J, q⟩ => exact ⟨V.non, H2, J.os, J.bare, J.base, J.hok, rfl, q⟩
  | .brk, ⟨_, _, _, q⟩ => exact q.elim
  | .cont, ⟨_, _, _, q⟩ => exact q.elim
/-- a def that raises nothing -/
theorem Fun.okG {k : Nat} {x qual : Str} {st : Stmt} {f : Addr} {fd : FuncData} {N ps : List Str} {sp : Sp} (F : Fun K x qual st f fd) (S : FnScope N ps (defScope st)) (many : ∀ vs H Q E, sp vs H Q E → vs.length = ps.length)
    (body : ∀ (cdv : Value) (A : Around) (outer : List Env) (s : Shared) (H : Hp) (vs : List V) (Q : VK) (E : XK), Room k (A.deeper (envOfC qual (defScope st) s.heap.objs.size f cdv)) → A.guards = some [] → sp vs H Q E →
      ∃ t, PSs (cxOf CX0 P w K mg base N qual (defScope st) f cdv A outer s H E).nox (defBody st) t ∧ t { nx := fun _ H' => Q .non H', rt := Q } (start N vs) H) : FnG P w K mg base CX0 (k + 1) f fd ps sp :=
  fnG_mk F S many fun cdv A outer s H vs Q E hr hg hsp => by
    obtain ⟨t, h, q⟩ := body cdv A outer s H vs Q E hr hg hsp
    exact ⟨t, h.nox, q⟩
end
/-- such a def, bundled by its name -/
def FnGB (P : Program) (w : World) (K : PySem.W.Frag) (mg : Str → Option Value) (base : Heap) (CX : CXT) (k : Nat) (x : Str) (ps : List Str) (sp : Sp) : Prop :=
  ∃ (f : Addr) (fd : FuncData), FnG P w K mg base CX k f fd ps sp ∧ mg x = some (.ref f) ∧ PySem.W.keepIn K (.ref f) = true ∧ Binds K fd ps []
section
variable {X : Cx} {CX : CXT} {k : Nat} {ps : List Str} {sp : Sp} {E : XK} {x : Str} {p pos : Pos} {e : Expr} {es : List Expr} {t : TA}
theorem pe_callG (F : FnGB X.prog X.w X.K X.mg X.base CX k x ps sp) (hr : Room k X.A) (hgu : X.A.guards = some []) (hg : Gl X x) (hx : Passes CX X E)
    (ha : PA X (e :: es) t) (hdb : (x == ("__debug__" : Str)) = false := by decide) (he : starEach (e :: es) X.env = (false, eval e X.env) :: starEach es X.env := by rfl) (hpl : (backTo pos (starEach es X.env)).any (·.1) = false := by rfl) :
    PE X (.Call (.Name x p) (e :: es) [] pos) (tCall sp [] E t) := by
  obtain ⟨f, fd, F, hm, hk, hb⟩ := F
  refine ⟨fun pins s σ H Q I h => wpAny_Call_Name_kw (ld_glob I hg hm ?_ hdb)⟩
  refine PySem.W.callWith_K (h₀ := X.base) I.ok.mod.kin hk (thn (ha.run pos pins s σ H _ I h) fun us s1 hh => ?_) he hpl
  obtain ⟨vs, H1, J, r, q⟩ := hh
  rw [List.append_nil] at q
  refine ⟨J.kIn, wpAny_call (codeAny_mono (F.go X.A X.stack s1 H1 ⟨us, []⟩ us vs Q E hr hgu J.env0 ?_ r q) fun res s2 done => ?_)⟩
  · have := hb s1 us J.kIn (by rw [List.append_nil, ← r.length]; exact F.many _ _ _ _ q)
    rwa [List.append_nil] at this
  · match res, done with
    | .error e, h => exact hx pins σ H1 s1 e s2 J h
    | .ok (.ret u), h => exact J.after h
/-- repr(x), x a list or a tuple of data -/
def rReprD (K : PySem.W.Frag) : List V → Hp → VK → Prop := fun xs H Q => ∃ (a : Addr) (d : PyData), xs = [.ref a] ∧ Dp K H (.ref a) d ∧ SeqAt.shaped d = true ∧ d.showable = true ∧ d.shown.length ≤ sizeLine ∧ Q (.str d.shown) H
theorem cr_reprD (hgu : X.A.guards = some []) (hu : X.A.units + 66 < cLine) : CallR X (.builtin "repr") (rReprD X.K) := by
  intro pins s σ H xs us Q I r h
  obtain ⟨a, d, rfl, hd, sd, hs, hz, q⟩ := h
  match us, r with
  | [u], .cons (rx : u = Value.ref a) .nil =>
    subst rx
    obtain ⟨as, rd⟩ := Dp.reads I d (.ref a) (.ref a) hd rfl
    have dep := SeqAt.depth_of_shaped sd
    refine repr_of_reads' rd hs (PyData.noDict_hsm (PyData.hasDict_of_canLay d (SeqAt.canLay_of_shaped sd))) hgu (by omega) (fun _ _ z => z) (fun h' u tk kp => ?_) hz
    exact ⟨.str d.shown, H, I.kept kp, ⟨u, rfl⟩, q⟩
end

/-- the head: the law's def called with the script, no repr under way -/
theorem law_callG {P : Program} {w : World} {K : PySem.W.Frag} {mg mb : Str → Option Value} {k : Nat} {fa a : Addr} {fd : FuncData} {x : Str} {sp : Sp} {z : Shared} {us : List Value} {ns : List Int}
    (kin : K.In z.heap) (glob : z.heap.Ns mainGlobals mg) (blt : z.heap.Ns builtinsNs mb) (bbb : ∀ x : Str, x ≠ "__name__" → mb x = bootBuiltins x) (nolim : z.heap.NoLimit) (gens : z.gens = #[])
    (obj : z.heap.get? a = some { cls := .type "list", data := .seq us.toArray }) (inty : IntsAre us ns) (short : ns.length ≤ sizeLine) (room : Room k callerA)
    (F : ∀ base : Heap, K.In base → base.Ns mainGlobals mg → FnG P w K mg base CX0 k fa fd [x] sp) (bind : ∀ (s : Shared) (u : Value), BindsTo s fd ⟨[u], []⟩ [(x, u)])
    (prom : ∀ H : Hp, Only H → SqL K H a (ns.map V.int) → sp [.ref a] H (fun v _ => v = .bl true) fun _ _ _ => False) :
    codeAny (model P w) callerA (.call (.ref fa) ⟨[.ref a], []⟩) (fun r s' => r = .ok (.ret (.bool true)) ∧ OldK z.heap s'.heap ∧ s'.os = z.os ∧ AllBare s'.gens) z := by
  have vals := vals_ints inty
  -- what is tracked: the script, if the written part does not hold it
  obtain ⟨H, only, sq, hok, just, out⟩ : ∃ H : Hp, Only H ∧ SqL K H a (ns.map V.int) ∧ HOk P w H z.heap ∧ (∀ b o, H b = some o → b = a) ∧ (∀ o, H a = some o → K.lookup a = none) := by
    cases hk : K.lookup a with
    | some o =>
      have e := kin a o hk
      rw [obj] at e
      cases e
      exact ⟨fun _ => none, fun _ => .inl rfl, .inr ⟨_, us.toArray, _, hk, rfl, rfl, rfl, by rw [List.size_toArray, inty.length]; exact short, vals⟩, (fun b u hb => nomatch (show (none : Option HO) = some u from hb)), (fun b o hb => nomatch (show (none : Option HO) = some o from hb)), (fun o hb => nomatch (show (none : Option HO) = some o from hb))⟩
    | none =>
      have it : ∀ {b : Addr} {o : HO}, (if b = a then some (HO.frz { cls := .type "list", data := .seq us.toArray } (.lst (ns.map V.int))) else none) = some o → b = a ∧ o = HO.frz { cls := .type "list", data := .seq us.toArray } (.lst (ns.map V.int)) := fun {b o} hb => by
        by_cases c : b = a
        · rw [if_pos c] at hb
          exact ⟨c, (Option.some.inj hb).symm⟩
        · rw [if_neg c] at hb
          cases hb
      refine ⟨fun b => if b = a then some (.frz { cls := .type "list", data := .seq us.toArray } (.lst (ns.map V.int))) else none, fun b => ?_, .inl (.inr ⟨_, if_pos rfl⟩), fun b u hb => ?_, fun b o hb => (it hb).1, fun _ _ => rfl⟩
      · by_cases c : b = a
        · exact .inr ⟨_, _, if_pos c⟩
        · exact .inl (if_neg c)
      · obtain ⟨rfl, rfl⟩ := it hb
        exact ⟨obj, by rw [List.length_map]; exact short, us, _, vals, obj⟩
  have stays : ∀ {b : Addr} {o : Obj}, z.heap.get? b = some o → H b = none → (hidT z.heap H).get? b = some o := fun e n => hidT_get e n
  have kin2 : K.In (hidT z.heap H) := fun b o e => stays (kin b o e) (by
    cases q : H b with
    | none => rfl
    | some u =>
      have eb := just b u q
      subst eb
      rw [out u q] at e
      cases e)
  have ns2 : ∀ {b : Addr} {m : Str → Option Value}, z.heap.Ns b m → (hidT z.heap H).Ns b m := fun {b m} hn => by
    obtain ⟨o, es, ep, e, d, r⟩ := hn
    refine ⟨o, es, ep, stays e ?_, d, r⟩
    cases q : H b with
    | none => rfl
    | some u =>
      have eb := just b u q
      subst eb
      rw [obj] at e
      cases e
      have d2 : Data.seq us.toArray _ = Data.dict es ep := d
      cases d2
  obtain ⟨mc, l1, l2⟩ := nolim
  have e0 : Env0 P w K mg (hidT z.heap H) callerA [] z H :=
    { frames := rfl, mod := ⟨kin2, ns2 glob, ⟨mb, ns2 blt, bbb⟩, ⟨mc, ns2 l1, l2⟩⟩, bs := fun b o e => of_hidT e, bsz := Nat.le_of_eq (hidT_size _ _), funs := trivial, frf := fun b hb => (List.not_mem_nil hb).elim, hok := hok, bare := .of_eq gens }
  refine codeAny_mono ((F _ kin2 (ns2 glob)).go callerA [] z H ⟨[.ref a], []⟩ [.ref a] [.ref a] _ _ room rfl e0 (bind z (.ref a)) (.cons rfl .nil) (prom H only sq)) fun res s' done => ?_
  match res, done with
  | .error e, h => exact h.elim
  | .ok (.ret u), ⟨v, H', os, bare, un, hok', rv, q⟩ =>
    obtain rfl : v = .bl true := q
    obtain rfl : u = Value.bool true := rv
    refine ⟨rfl, OldK.of_keep fun b o e => ?_, os, bare⟩
    cases q : H b with
    | none => exact un.keep b o e q (fun h => (List.not_mem_nil h).elim) (fun h => (List.not_mem_nil h).elim)
    | some u =>
      rcases only b with n | ⟨ob, xs, n⟩
      · rw [q] at n
        cases n
      · obtain ⟨e1, _⟩ := hok b _ n
        rw [e] at e1
        cases e1
        obtain ⟨e2, _⟩ := hok' b _ (un.frzs b o _ n)
        exact e2
theorem walk_ofG {l : PySem.W.OpenLaw} {n k : Nat} {q : Program} {loose : List Str} {XP : (Str → Option Value) → Heap → Prop} {YP : World → Heap → Prop} {d : DefRec} {K : Params → PySem.W.Frag} {sp : PySem.W.Frag → Sp} {x : Str}
    (most : l.most = some n) (short : n ≤ sizeLine) (dfl : d.params.defaults = []) (room : Room k callerA) (kin : ∀ (w : World) (h : Heap), YP w h → (K w.params).In h)
    (F : ∀ (w : World) (mg : Str → Option Value) (fa : Addr) (h : Heap), (K w.params).In h → h.Ns mainGlobals mg → mg d.name = some (.ref fa) →
      ∃ fd : FuncData, (∀ (s : Shared) (u : Value), BindsTo s fd ⟨[u], []⟩ [(x, u)]) ∧ ∀ base : Heap, (K w.params).In base → base.Ns mainGlobals mg → FnG l.prog w (K w.params) mg base CX0 k fa fd [x] (sp (K w.params)))
    (prom : ∀ (K : PySem.W.Frag) (H : Hp) (a : Addr) (ns : List Int), ns.length ≤ n → SqL K H a (ns.map V.int) → sp K [.ref a] H (fun v _ => v = .bl true) fun _ _ _ => False) :
    PySem.W.WalkO q loose XP YP l.row.toRowW d [] (fun f vs => PySem.call f vs) := by
  refine Att.attach_call most dfl fun w s0 s1 mg mb fa o pm cd doc a vs ns G Y ho hd hcd hmg hobj hints hlen hg => ?_
  obtain ⟨fd, bind, hF⟩ := F w mg fa _ (kin w _ Y) G.T.g hmg
  exact law_callG (kin w _ Y) G.T.g G.T.b G.T.builtins G.T.nolimit hg hobj hints (Nat.le_trans hlen short) room hF bind fun H _ hS => prom _ H a ns hlen hS
end L2

/-! # Lines of words: what a split by line feeds and spaces tells, and what one look through the signs tells. Plain Lean -/
namespace Lns
/-- split at the sign c, acc the part under way -/
def spA (c : Nat) : List Nat → List Nat → List (List Nat)
  | acc, [] => [acc]
  | acc, a :: r => if a = c then acc :: spA c [] r else spA c (acc ++ [a]) r
def okS (a : Nat) : Bool := decide (33 ≤ a) && decide (a ≤ 126)
def okW (w : List Nat) : Bool := (!w.isEmpty) && w.all okS
def wordsOf (l : List Nat) : Option (List (List Nat)) := if (spA 32 [] l).all okW = true then some (spA 32 [] l) else none
abbrev Rows := List (List (List Nat))
def goP : List (List Nat) → Rows → Nat × Rows
  | [], rows => (0, rows)
  | [l], rows => (if l = [] then 0 else rows.length + 1, rows)
  | l :: m :: ls, rows => match wordsOf l with
    | none => (rows.length + 1, rows)
    | some ws => goP (m :: ls) (rows ++ [ws])
def prog (t : List Nat) : Nat × Rows := goP (spA 10 [] t) []
def scan : List Nat → Rows → List (List Nat) → List Nat → Bool → Nat × Rows
  | [], rows, _, _, st => (if st = true then rows.length + 1 else 0, rows)
  | a :: r, rows, ws, w, _ =>
    if a = 32 ∨ a = 10 then
      if w = [] then (rows.length + 1, rows)
      else if a = 10 then scan r (rows ++ [ws ++ [w]]) [] [] false else scan r rows (ws ++ [w]) [] true
    else if okS a = true then scan r rows ws (w ++ [a]) true else (rows.length + 1, rows)
theorem spA_hit (c : Nat) (acc r : List Nat) : spA c acc (c :: r) = acc :: spA c [] r := by rw [spA, if_pos rfl]
theorem spA_miss {c a : Nat} (acc r : List Nat) (h : a ≠ c) : spA c acc (a :: r) = spA c (acc ++ [a]) r := by rw [spA, if_neg h]
theorem spA_ne (c : Nat) : ∀ (l acc : List Nat), spA c acc l ≠ []
  | [], acc => by simp [spA]
  | a :: r, acc => by
    by_cases h : a = c
    · rw [h, spA_hit]
      simp
    · rw [spA_miss _ _ h]
      exact spA_ne c r _
theorem spA_app (c : Nat) : ∀ (p acc s : List Nat) (ws : List (List Nat)) (w : List Nat), spA c acc p = ws ++ [w] → spA c acc (p ++ s) = ws ++ spA c w s
  | [], acc, s, ws, w, h => by
    have h' : [acc] = ws ++ [w] := h
    cases ws with
    | nil =>
      have e : acc = w := by simpa using h'
      rw [e]
      rfl
    | cons x xs => simp at h'
  | a :: p, acc, s, ws, w, h => by
    rw [List.cons_append]
    by_cases e : a = c
    · rw [e, spA_hit] at h
      rw [e, spA_hit]
      cases ws with
      | nil =>
        have e2 : acc = w ∧ spA c [] p = [] := by simpa using h
        exact absurd e2.2 (spA_ne c p [])
      | cons x xs =>
        have e2 : acc = x ∧ spA c [] p = xs ++ [w] := by simpa using h
        rw [spA_app c p [] s xs w e2.2, e2.1]
        rfl
    · rw [spA_miss _ _ e] at h
      rw [spA_miss _ _ e]
      exact spA_app c p _ s ws w h
theorem spA_head (c : Nat) : ∀ (s acc : List Nat), ∃ t r, spA c acc s = (acc ++ t) :: r
  | [], acc => ⟨[], [], by simp [spA]⟩
  | a :: s, acc => by
    by_cases e : a = c
    · exact ⟨[], spA c [] s, by rw [e, spA_hit]; simp⟩
    · obtain ⟨t, r, h⟩ := spA_head c s (acc ++ [a])
      exact ⟨a :: t, r, by rw [spA_miss _ _ e, h]; simp⟩
/-- no text that begins so is a line of words -/
def Bad (q : List Nat) : Prop := ∀ s, (spA 32 [] (q ++ s)).all okW = false
theorem Bad.more {q : List Nat} (h : Bad q) (a : Nat) : Bad (q ++ [a]) := fun s => by
  rw [List.append_assoc]
  exact h _
theorem goP_bad : ∀ (r q : List Nat) (rows : Rows), Bad q → q ≠ [] → goP (spA 10 q r) rows = (rows.length + 1, rows)
  | [], q, rows, _, hq => by
    show goP [q] rows = _
    unfold goP
    rw [if_neg hq]
  | a :: r, q, rows, hb, hq => by
    by_cases c : a = 10
    · rw [c, spA_hit]
      cases hr : spA 10 [] r with
      | nil => exact absurd hr (spA_ne 10 r [])
      | cons m ls =>
        have e : wordsOf q = none := by
          unfold wordsOf
          have := hb []
          rw [List.append_nil] at this
          rw [this]
          rfl
        show goP (q :: m :: ls) rows = _
        unfold goP
        rw [e]
    · rw [spA_miss _ _ c]
      exact goP_bad r _ rows (hb.more a) (by simp)
theorem scan_go : ∀ (t : List Nat) (rows : Rows) (ws : List (List Nat)) (w : List Nat) (p : List Nat), spA 32 [] p = ws ++ [w] → ws.all okW = true → w.all okS = true →
    scan t rows ws w (!p.isEmpty) = goP (spA 10 p t) rows
  | [], rows, ws, w, p, h, h1, h2 => by
    show (if (!p.isEmpty) = true then rows.length + 1 else 0, rows) = goP [p] rows
    unfold goP
    cases p with
    | nil => rfl
    | cons a p => rfl
  | a :: r, rows, ws, w, p, h, h1, h2 => by
    have badw : a = 32 ∨ a = 10 → w = [] → a ≠ 10 → Bad (p ++ [a]) := fun c hw ne s => by
      have a32 : a = 32 := by omega
      rw [List.append_assoc, spA_app 32 p [] _ ws w h, hw, a32]
      show (ws ++ spA 32 [] (32 :: s)).all okW = false
      rw [spA_hit, List.all_append, List.all_cons]
      have : okW [] = false := rfl
      rw [this, Bool.false_and, Bool.and_false]
    unfold scan
    by_cases c : a = 32 ∨ a = 10
    · rw [if_pos c]
      by_cases hw : w = []
      · rw [if_pos hw]
        by_cases c10 : a = 10
        · rw [c10, spA_hit]
          cases hr : spA 10 [] r with
          | nil => exact absurd hr (spA_ne 10 r [])
          | cons m ls =>
            have e : wordsOf p = none := by
              unfold wordsOf
              rw [h, List.all_append, hw]
              have : [([] : List Nat)].all okW = false := rfl
              rw [this, Bool.and_false]
              rfl
            unfold goP
            rw [e]
        · rw [spA_miss _ _ c10]
          exact (goP_bad r _ rows (badw c hw c10) (by simp)).symm
      · rw [if_neg hw]
        have hwW : okW w = true := by
          unfold okW
          rw [h2]
          cases w with
          | nil => exact absurd rfl hw
          | cons x y => rfl
        by_cases c10 : a = 10
        · rw [if_pos c10, c10, spA_hit]
          cases hr : spA 10 [] r with
          | nil => exact absurd hr (spA_ne 10 r [])
          | cons m ls =>
            have e : wordsOf p = some (ws ++ [w]) := by
              unfold wordsOf
              rw [h, List.all_append, h1, List.all_cons, hwW]
              rfl
            have ih := scan_go r (rows ++ [ws ++ [w]]) [] [] [] rfl rfl rfl
            rw [hr] at ih
            unfold goP
            rw [e]
            exact ih
        · have a32 : a = 32 := by omega
          rw [if_neg c10, spA_miss _ _ c10]
          have ih := scan_go r rows (ws ++ [w]) [] (p ++ [a]) (by
            rw [spA_app 32 p [] _ ws w h, a32]
            show ws ++ spA 32 w [32] = _
            rw [spA_hit]
            simp [spA]) (by rw [List.all_append, h1, List.all_cons, hwW]; rfl) rfl
          rw [← ih]
          congr 1
          cases p <;> rfl
    · have n10 : a ≠ 10 := fun e => c (.inr e)
      have n32 : a ≠ 32 := fun e => c (.inl e)
      rw [if_neg c, spA_miss _ _ n10]
      by_cases ok : okS a = true
      · rw [if_pos ok]
        have ih := scan_go r rows ws (w ++ [a]) (p ++ [a]) (by
          rw [spA_app 32 p [] _ ws w h, spA_miss _ _ n32]
          rfl) h1 (by rw [List.all_append, h2, List.all_cons, ok]; rfl)
        rw [← ih]
        congr 1
        cases p <;> rfl
      · rw [if_neg ok]
        refine (goP_bad r _ rows (fun s => ?_) (by simp)).symm
        rw [List.append_assoc, spA_app 32 p [] _ ws w h]
        show (ws ++ spA 32 w (a :: s)).all okW = false
        rw [spA_miss _ _ n32]
        obtain ⟨t, r2, e⟩ := spA_head 32 s (w ++ [a])
        rw [e, List.all_append, List.all_cons]
        have : okW (w ++ [a] ++ t) = false := by
          unfold okW
          rw [List.all_append, List.all_append, List.all_cons]
          have : okS a = false := by simpa using ok
          rw [this]
          simp
        rw [this, Bool.false_and, Bool.and_false]
theorem scan_prog (t : List Nat) : scan t [] [] [] false = prog t := scan_go t [] [] [] [] rfl rfl rfl
/-- what the words of the rows weigh -/
def wsum (ws : List (List Nat)) : Nat := (ws.map fun w => w.length + 1).sum
def rsum (rows : Rows) : Nat := (rows.map fun ws => wsum ws + 1).sum
theorem wsum_snoc (ws : List (List Nat)) (w : List Nat) : wsum (ws ++ [w]) = wsum ws + w.length + 1 := by
  simp [wsum, Nat.add_assoc]
theorem rsum_snoc (rows : Rows) (ws : List (List Nat)) : rsum (rows ++ [ws]) = rsum rows + wsum ws + 1 := by
  simp [rsum, Nat.add_assoc]
theorem scan_sum : ∀ (t : List Nat) (rows : Rows) (ws : List (List Nat)) (w : List Nat) (st : Bool), rsum (scan t rows ws w st).2 ≤ rsum rows + 2 * (wsum ws + w.length + t.length)
  | [], rows, ws, w, st => by
    show rsum rows ≤ _
    omega
  | a :: r, rows, ws, w, st => by
    unfold scan
    by_cases c : a = 32 ∨ a = 10
    · rw [if_pos c]
      by_cases hw : w = []
      · rw [if_pos hw]
        show rsum rows ≤ _
        omega
      · rw [if_neg hw]
        by_cases c10 : a = 10
        · rw [if_pos c10]
          have ih := scan_sum r (rows ++ [ws ++ [w]]) [] [] false
          rw [rsum_snoc, wsum_snoc] at ih
          have e : wsum [] = 0 := rfl
          rw [e] at ih
          simp only [List.length_nil, List.length_cons] at ih ⊢
          omega
        · rw [if_neg c10]
          have ih := scan_sum r rows (ws ++ [w]) [] true
          rw [wsum_snoc] at ih
          simp only [List.length_nil, List.length_cons] at ih ⊢
          omega
    · rw [if_neg c]
      by_cases ok : okS a = true
      · rw [if_pos ok]
        have ih := scan_sum r rows ws (w ++ [a]) true
        rw [List.length_append, List.length_singleton] at ih
        simp only [List.length_cons] at ih ⊢
        omega
      · rw [if_neg ok]
        show rsum rows ≤ _
        omega
def okR (rows : Rows) : Prop := ∀ ws ∈ rows, ∀ w ∈ ws, ∀ c ∈ w, c < 128
theorem ok_lt {a : Nat} (h : okS a = true) : a < 128 := by
  unfold okS at h
  simp at h
  omega
theorem scan_okR : ∀ (t : List Nat) (rows : Rows) (ws : List (List Nat)) (w : List Nat) (st : Bool), okR rows → (∀ v ∈ ws, ∀ c ∈ v, c < 128) → (∀ c ∈ w, c < 128) → okR (scan t rows ws w st).2
  | [], rows, ws, w, st, h, _, _ => h
  | a :: r, rows, ws, w, st, h, h1, h2 => by
    have h3 : ∀ v ∈ ws ++ [w], ∀ c ∈ v, c < 128 := fun v hv => by
      rcases List.mem_append.mp hv with z | z
      · exact h1 v z
      · have : v = w := by simpa using z
        rw [this]
        exact h2
    unfold scan
    by_cases c : a = 32 ∨ a = 10
    · rw [if_pos c]
      by_cases hw : w = []
      · rw [if_pos hw]
        exact h
      · rw [if_neg hw]
        by_cases c10 : a = 10
        · rw [if_pos c10]
          refine scan_okR r _ [] [] false (fun v hv => ?_) (fun v hv => by simp at hv) (fun c hc => by simp at hc)
          rcases List.mem_append.mp hv with z | z
          · exact h v z
          · have : v = ws ++ [w] := by simpa using z
            rw [this]
            exact h3
        · rw [if_neg c10]
          exact scan_okR r rows _ [] true h h3 (fun c hc => by simp at hc)
    · rw [if_neg c]
      by_cases ok : okS a = true
      · rw [if_pos ok]
        refine scan_okR r rows ws _ true h h1 fun c hc => ?_
        rcases List.mem_append.mp hc with z | z
        · exact h2 c z
        · have : c = a := by simpa using z
          rw [this]
          exact ok_lt ok
      · rw [if_neg ok]
        exact h
theorem prog_sum (t : List Nat) : rsum (prog t).2 ≤ 2 * t.length := by
  rw [← scan_prog]
  have := scan_sum t [] [] [] false
  have e1 : rsum [] = 0 := rfl
  have e2 : wsum [] = 0 := rfl
  rw [e1, e2] at this
  simp at this
  omega
theorem prog_ok (t : List Nat) : okR (prog t).2 := by
  rw [← scan_prog]
  exact scan_okR t [] [] [] false (fun v hv => by simp at hv) (fun v hv => by simp at hv) (fun c hc => by simp at hc)
theorem spA_len (c : Nat) : ∀ (l acc : List Nat), (spA c acc l).length ≤ l.length + 1
  | [], acc => by simp [spA]
  | a :: r, acc => by
    by_cases h : a = c
    · rw [h, spA_hit]
      have := spA_len c r []
      simp only [List.length_cons]
      omega
    · rw [spA_miss _ _ h]
      have := spA_len c r (acc ++ [a])
      simp only [List.length_cons]
      omega
theorem spA_mem (c : Nat) : ∀ (l acc : List Nat), ∀ w ∈ spA c acc l, w.length ≤ acc.length + l.length
  | [], acc, w, h => by
    have : w = acc := by simpa [spA] using h
    rw [this]
    simp
  | a :: r, acc, w, h => by
    by_cases e : a = c
    · rw [e, spA_hit] at h
      rcases List.mem_cons.mp h with z | z
      · rw [z]
        omega
      · have := spA_mem c r [] w z
        simp only [List.length_nil, List.length_cons] at this ⊢
        omega
    · rw [spA_miss _ _ e] at h
      have := spA_mem c r (acc ++ [a]) w h
      simp only [List.length_append, List.length_singleton, List.length_cons, List.length_nil] at this ⊢
      omega
theorem goP_step {L : List (List Nat)} {i : Nat} {rows : Rows} (h : i + 1 < L.length) : goP (L.drop i) rows = match wordsOf (L.getD i []) with
    | none => (rows.length + 1, rows)
    | some ws => goP (L.drop (i + 1)) (rows ++ [ws]) := by
  rw [List.drop_eq_getElem_cons (show i < L.length by omega), List.drop_eq_getElem_cons h]
  have e : L.getD i [] = L[i]'(by omega) := by rw [List.getD_eq_getElem?_getD, List.getElem?_eq_getElem (by omega)]; rfl
  rw [e]
  rfl
theorem goP_last {L : List (List Nat)} {i : Nat} {rows : Rows} (h : i + 1 = L.length) : goP (L.drop i) rows = (if L.getD i [] = [] then 0 else rows.length + 1, rows) := by
  rw [List.drop_eq_getElem_cons (show i < L.length by omega), h, List.drop_length]
  have e : L.getD i [] = L[i]'(by omega) := by rw [List.getD_eq_getElem?_getD, List.getElem?_eq_getElem (by omega)]; rfl
  rw [e]
  rfl
theorem scan_nil (rows : Rows) (ws : List (List Nat)) (w : List Nat) (st : Bool) : scan [] rows ws w st = (if st = true then rows.length + 1 else 0, rows) := rfl
theorem scan_cons (a : Nat) (r : List Nat) (rows : Rows) (ws : List (List Nat)) (w : List Nat) (st : Bool) : scan (a :: r) rows ws w st = if a = 32 ∨ a = 10 then
      if w = [] then (rows.length + 1, rows)
      else if a = 10 then scan r (rows ++ [ws ++ [w]]) [] [] false else scan r rows (ws ++ [w]) [] true
    else if okS a = true then scan r rows ws (w ++ [a]) true else (rows.length + 1, rows) := rfl
theorem rows_sum (rows : Rows) : rows.length ≤ rsum rows := by
  induction rows with
  | nil => exact Nat.le_refl _
  | cons v rows ih =>
    unfold rsum at ih ⊢
    simp only [List.map_cons, List.sum_cons, List.length_cons]
    omega
theorem scan_fst : ∀ (t : List Nat) (rows : Rows) (ws : List (List Nat)) (w : List Nat) (st : Bool), (scan t rows ws w st).1 ≤ (scan t rows ws w st).2.length + 1
  | [], rows, ws, w, st => by
    rw [scan_nil]
    show (if st = true then rows.length + 1 else 0) ≤ rows.length + 1
    split <;> omega
  | a :: r, rows, ws, w, st => by
    rw [scan_cons]
    split
    · split
      · exact Nat.le_refl _
      · split
        · exact scan_fst r _ _ _ _
        · exact scan_fst r _ _ _ _
    · split
      · exact scan_fst r _ _ _ _
      · exact Nat.le_refl _
theorem prog_le (t : List Nat) : (prog t).1 ≤ 2 * t.length + 1 := by
  have h1 := prog_sum t
  have h2 := rows_sum (prog t).2
  have h3 : (prog t).1 ≤ (prog t).2.length + 1 := by
    rw [← scan_prog]
    exact scan_fst t [] [] [] false
  omega
end Lns

/-! # Own layer: texts by their signs (lists of numbers) -/
namespace L2
open PySem PySem.Spec PyProof.Rows TL
def mk (l : List Nat) : Str := ⟨l.toArray⟩
abbrev vS (l : List Nat) : V := .str (mk l)
theorem tlm (l : List Nat) : tl (mk l) = l := rfl
theorem mkt (x : Str) : mk (tl x) = x := mk_tl x
theorem mk_inj {a b : List Nat} (h : mk a = mk b) : a = b := by
  have := congrArg tl h
  exact this
theorem mk_len (l : List Nat) : (mk l).length = l.length := by rw [len_tl]; rfl
theorem mk_app (a b : List Nat) : mk a ++ mk b = mk (a ++ b) := ext_tl (by rw [tl_append]; rfl)
theorem mk_lit (s : String) : Str.ofString s = mk (s.toList.map Char.toNat) := ext_tl (tl_ofString s)
theorem str_if {a b : List Nat} {A B : Prop} (h1 : a = b → A) (h2 : a ≠ b → B) : if decide (V.str (mk a) = V.str (mk b)) = true then A else B :=
  dec_iff (fun h => h1 (mk_inj (V.str.inj h))) fun h => h2 fun e => h (by rw [e])
theorem strn_if {a b : List Nat} {A B : Prop} (h1 : a ≠ b → A) (h2 : a = b → B) : if (!decide (V.str (mk a) = V.str (mk b))) = true then A else B :=
  not_if (fun h => h1 fun e => h (by rw [e])) fun h => h2 (mk_inj (V.str.inj h))
theorem lt1 (a b : Nat) : (([a] : List Nat) < [b]) ↔ a < b := by
  rw [List.cons_lt_cons_iff]
  simp
/-- a for over a text -/
theorem for_sgn {l : List Nat} {g : TG} {tb : TS} {D : Ends} {σ : L2.St} {H : Hp} (Pv : Nat → L2.St → Hp → Prop) (h0 : Pv 0 σ H)
    (hs : ∀ i c σ H, l[i]? = some c → Pv i σ H → g (.str (mk [c])) σ H fun σ2 H2 => tb { D with nx := Pv (i + 1), ct := Pv (i + 1), bk := D.nx } σ2 H2) (hd : ∀ σ H, Pv l.length σ H → D.nx σ H) :
    ∃ W : Nat → Nat → L2.St → Hp → Prop, (∃ m, W 0 m σ H) ∧ ∀ i m σ H, W i m σ H →
      ((Its (mk l)).stop i H ∧ D.nx σ H) ∨ ((Its (mk l)).go i H ∧ ∃ N : L2.St → Hp → Prop, (∀ σ' H', N σ' H' → ∃ m', m' < m ∧ W (i + 1) m' σ' H') ∧ ∀ x H', (Its (mk l)).yld i H x H' → g x σ H' fun σ2 H2 => tb { D with nx := N, ct := N, bk := D.nx } σ2 H2) := by
  have hz : (mk l).cps.size = l.length := by show l.toArray.size = _; simp
  refine for_it walk_str Pv h0 (fun _ _ _ _ _ => trivial) (fun i x σ H H' hi p y => ?_) (fun σ H p => hd σ H (by rw [← hz]; exact p))
  obtain ⟨rfl, c, hc, rfl⟩ := y
  exact hs i c σ _ (by have : l.toArray[i]? = some c := hc; simpa using this) p
theorem split_spA (x y : Str) (c : Nat) (hy : tl y = [c]) (hc : c < 256) : Txt.split x y = (Lns.spA c [] (tl x)).map mk := by
  have key : ∀ (l acc : List Nat), spl [c] 0 acc l = Lns.spA c acc l := by
    intro l
    induction l with
    | nil => intro acc; rw [spl_nil]; rfl
    | cons a r ih =>
      intro acc
      by_cases h : a = c
      · rw [h, Lns.spA_hit, spl_hit (by simp [pre])]
        exact congrArg (acc :: ·) (ih [])
      · rw [Lns.spA_miss _ _ h, spl_miss (by simp [pre, h])]
        exact ih _
  have hk : y.cps.all (· < 256) = true := by
    rw [← Array.all_toList]
    have : y.cps.toList = [c] := hy
    rw [this]
    simp [hc]
  have e := split_spl x y (by rw [hy]; simp) (kind_ok hk)
  rw [hy, key] at e
  rw [← e, List.map_map]
  have : (mk ∘ tl) = id := funext fun z => mkt z
  rw [this, List.map_id]
/-- short and of plain signs -/
def Tx (n : Nat) (l : List Nat) : Prop := l.length ≤ n ∧ ∀ c ∈ l, c < 128
theorem Tx.more {n m : Nat} {l : List Nat} (h : Tx n l) (le : n ≤ m) : Tx m l := ⟨Nat.le_trans h.1 le, h.2⟩
theorem Tx.app {n m : Nat} {a b : List Nat} (h : Tx n a) (g : Tx m b) : Tx (n + m) (a ++ b) :=
  ⟨by rw [List.length_append]; exact Nat.add_le_add h.1 g.1, fun c hc => by rcases List.mem_append.mp hc with z | z; exact h.2 c z; exact g.2 c z⟩
theorem Tx.nil : Tx 0 [] := ⟨Nat.le_refl _, fun c h => by simp at h⟩
/-- a slice of a text -/
theorem cut_mk (l : List Nat) (lo hi : Option Int) : ∃ l', cutS (mk l) lo hi = mk l' ∧ l'.length ≤ l.length ∧ ∀ c ∈ l', c ∈ l := by
  refine ⟨(l.drop (HT.sIx (mk l).length 0 lo)).take (HT.sIx (mk l).length (mk l).length hi - HT.sIx (mk l).length 0 lo), rfl, ?_, fun c hc => List.mem_of_mem_drop (List.mem_of_mem_take hc)⟩
  rw [List.length_take, List.length_drop]
  omega
theorem Tx.cut {n : Nat} {l l' : List Nat} (h : Tx n l) (hl : l'.length ≤ l.length) (hm : ∀ c ∈ l', c ∈ l) : Tx n l' := ⟨Nat.le_trans hl h.1, fun c hc => h.2 c (hm c hc)⟩

/-! ### rows of words as data -/
def dS (l : List Nat) : PyData := .str (mk l)
def dRow (ws : List (List Nat)) : PyData := .list (ws.map dS)
def dRows (rows : List (List (List Nat))) : PyData := .list (rows.map dRow)
theorem dpa_words {K : PySem.W.Frag} {H : Hp} : ∀ ws : List (List Nat), DpAll K H (ws.map vS) (ws.map dS)
  | [] => .nil
  | w :: ws => .cons (.str _) (dpa_words ws)
/-- at p: the list of these rows -/
def RowsAt (H : Hp) (p : Addr) (rows : List (List (List Nat))) : Prop :=
  ∃ rs : List Addr, H p = some (.lst (rs.map V.ref)) ∧ rs.length = rows.length ∧ ∀ (k : Nat) (r : Addr) (ws : List (List Nat)), rs[k]? = some r → rows[k]? = some ws → H r = some (.lst (ws.map vS))
theorem dpa_rows {K : PySem.W.Frag} {H : Hp} : ∀ (rs : List Addr) (rows : List (List (List Nat))), rs.length = rows.length → (∀ (k : Nat) (r : Addr) (ws : List (List Nat)), rs[k]? = some r → rows[k]? = some ws → H r = some (.lst (ws.map vS))) → DpAll K H (rs.map V.ref) (rows.map dRow)
  | [], [], _, _ => .nil
  | r :: rs, ws :: rows, hl, h => .cons (.lst (SqL.of (h 0 r ws rfl rfl)) (dpa_words ws)) (dpa_rows rs rows (by simpa using hl) fun k r' ws' a b => h (k + 1) r' ws' a b)
  | [], _ :: _, hl, _ => by simp at hl
  | _ :: _, [], hl, _ => by simp at hl
theorem dp_rows {K : PySem.W.Frag} {H : Hp} {p : Addr} {rows : List (List (List Nat))} (h : RowsAt H p rows) : Dp K H (.ref p) (dRows rows) := by
  obtain ⟨rs, h1, h2, h3⟩ := h
  exact .lst (SqL.of h1) (dpa_rows rs rows h2 h3)
theorem RowsAt.fr {H H' : Hp} {p : Addr} {rows : List (List (List Nat))} (h : RowsAt H p rows) (e : Fr [] H H') : RowsAt H' p rows := by
  obtain ⟨rs, h1, h2, h3⟩ := h
  exact ⟨rs, e _ _ h1 (by simp), h2, fun k r ws a b => e _ _ (h3 k r ws a b) (by simp)⟩
/-- all words of plain signs -/
def AscR (rows : List (List (List Nat))) : Prop := ∀ ws ∈ rows, ∀ w ∈ ws, ∀ c ∈ w, c < 128
theorem strOk_mk {l : List Nat} (h : ∀ c ∈ l, c < 128) : PyData.strOk (mk l) = true := by
  unfold PyData.strOk
  rw [← Array.all_toList, List.all_eq_true]
  intro c hc
  have := h c hc
  exact decide_eq_true (by omega)
theorem row_lay : ∀ ws : List (List Nat), (∀ w ∈ ws, ∀ c ∈ w, c < 128) → PyData.canLayAll0 (ws.map dS) = true
  | [], _ => by simp [PyData.canLayAll0]
  | w :: ws, h => by
    have h1 := strOk_mk (h w List.mem_cons_self)
    have h2 := row_lay ws fun v hv => h v (List.mem_cons_of_mem _ hv)
    simp [PyData.canLayAll0, dS, PyData.canLay0, h1]
    exact h2
theorem rows_lay : ∀ rows : List (List (List Nat)), AscR rows → PyData.canLayAll0 (rows.map dRow) = true
  | [], _ => by simp [PyData.canLayAll0]
  | ws :: rows, h => by
    have h1 := row_lay ws (h ws List.mem_cons_self)
    have h2 := rows_lay rows fun v hv => h v (List.mem_cons_of_mem _ hv)
    simp only [List.map_cons, PyData.canLayAll0, dRow, PyData.canLay0, h1, h2]
    rfl
theorem row_depth : ∀ ws : List (List Nat), PyData.depthAll (ws.map dS) ≤ 1
  | [] => by simp [PyData.depthAll]
  | w :: ws => by
    have := row_depth ws
    simp only [List.map_cons, PyData.depthAll, dS, PyData.depth]
    omega
theorem rows_depth : ∀ rows : List (List (List Nat)), PyData.depthAll (rows.map dRow) ≤ 2
  | [] => by simp [PyData.depthAll]
  | ws :: rows => by
    have h1 := rows_depth rows
    have h2 := row_depth ws
    simp only [List.map_cons, PyData.depthAll, dRow, PyData.depth]
    omega
theorem rows_shaped {rows : List (List (List Nat))} (h : AscR rows) : SeqAt.shaped (dRows rows) = true :=
  shaped_of (by simp only [dRows, PyData.canLay0]; exact rows_lay rows h) (by have := rows_depth rows; simp only [dRows, PyData.depth]; omega)
theorem row_show : ∀ ws : List (List Nat), PyData.showableAll (ws.map dS) = true
  | [] => by simp [PyData.showableAll]
  | w :: ws => by simp [PyData.showableAll, dS, PyData.showable]; exact row_show ws
theorem rows_show : ∀ rows : List (List (List Nat)), PyData.showableAll (rows.map dRow) = true
  | [] => by simp [PyData.showableAll]
  | ws :: rows => by
    have h1 := row_show ws
    have h2 := rows_show rows
    simp only [List.map_cons, PyData.showableAll, dRow, PyData.showable, h1, h2]
    rfl
theorem rows_showable (rows : List (List (List Nat))) : (dRows rows).showable = true := by simp only [dRows, PyData.showable]; exact rows_show rows
/-- what the words weigh -/
def cost (rows : List (List (List Nat))) : Nat := (rows.map fun ws => (ws.map fun w => w.length + 1).sum + 1).sum
theorem row_weight : ∀ ws : List (List Nat), PyData.weightAll (ws.map dS) = (ws.map fun w => w.length + 1).sum
  | [] => rfl
  | w :: ws => by
    have e : (mk w).cps.size = w.length := by show w.toArray.size = _; simp
    simp only [List.map_cons, PyData.weightAll, dS, PyData.weight, List.sum_cons, e]
    have := row_weight ws
    omega
theorem rows_weight : ∀ rows : List (List (List Nat)), PyData.weightAll (rows.map dRow) = cost rows
  | [] => rfl
  | ws :: rows => by
    have h1 := row_weight ws
    have h2 := rows_weight rows
    unfold cost at h2 ⊢
    simp only [List.map_cons, PyData.weightAll, dRow, PyData.weight, List.sum_cons, h1, h2]
theorem row_short : ∀ ws : List (List Nat), (∀ w ∈ ws, ∀ c ∈ w, c < 128) → PyData.leavesShortAll 8 (ws.map dS) = true
  | [], _ => by simp [PyData.leavesShortAll]
  | w :: ws, h => by
    have h1 : (PyData.leavesShort 8 (dS w)) = true := by
      simp only [dS, PyData.leavesShort, List.all_eq_true, decide_eq_true_eq]
      intro c hc
      have := h w List.mem_cons_self c hc
      exact Nat.lt_of_lt_of_le this (by decide)
    have h2 := row_short ws fun v hv => h v (List.mem_cons_of_mem _ hv)
    simp only [List.map_cons, PyData.leavesShortAll, h1, h2]
    rfl
theorem rows_short : ∀ rows : List (List (List Nat)), AscR rows → PyData.leavesShortAll 8 (rows.map dRow) = true
  | [], _ => by simp [PyData.leavesShortAll]
  | ws :: rows, h => by
    have h1 := row_short ws (h ws List.mem_cons_self)
    have h2 := rows_short rows fun v hv => h v (List.mem_cons_of_mem _ hv)
    simp only [List.map_cons, PyData.leavesShortAll, dRow, PyData.leavesShort, h1, h2]
    rfl
theorem rows_shown {rows : List (List (List Nat))} (h : AscR rows) : (dRows rows).shown.length ≤ 10 * cost rows + 8 := by
  have := PyData.shown_le 8 (Nat.le_refl _) (dRows rows) (by simp only [dRows, PyData.leavesShort]; exact rows_short rows h)
  have e : (dRows rows).weight = cost rows := by simp only [dRows, PyData.weight]; exact rows_weight rows
  rw [e] at this
  exact this
/-! ### plain signs stay plain when a text is shown -/
def Asc (x : Str) : Prop := ∀ c ∈ tl x, c < 128
theorem asc_char : ∀ c, c < 128 → (∀ d ∈ Builtin.Str.reprChar 39 c, d < 128) ∧ ∀ d ∈ Builtin.Str.reprChar 34 c, d < 128 := by decide +kernel
theorem asc_fold (q : Nat) (hq : q = 39 ∨ q = 34) : ∀ (l : List Nat) (acc : Array Nat), (∀ c ∈ l, c < 128) → (∀ d ∈ acc.toList, d < 128) → ∀ d ∈ (l.foldl (fun out c => out ++ (Builtin.Str.reprChar q c).toArray) acc).toList, d < 128
  | [], acc, _, h => h
  | c :: l, acc, hl, h => by
    refine asc_fold q hq l _ (fun c hc => hl c (List.mem_cons_of_mem _ hc)) fun d hd => ?_
    rw [Array.toList_append] at hd
    rcases List.mem_append.mp hd with z | z
    · exact h d z
    · have hc := asc_char c (hl c List.mem_cons_self)
      have z' : d ∈ Builtin.Str.reprChar q c := by simpa using z
      rcases hq with rfl | rfl
      · exact hc.1 d z'
      · exact hc.2 d z'
theorem asc_repr {x : Str} (h : Asc x) : Asc (reprText x) := by
  have hq : reprQuote x = 39 ∨ reprQuote x = 34 := by
    unfold reprQuote
    split
    · exact .inr rfl
    · exact .inl rfl
  have q128 : reprQuote x < 128 := by omega
  intro d hd
  have hd' : d ∈ ((x.cps.foldl (fun out c => out ++ (Builtin.Str.reprChar (reprQuote x) c).toArray) #[reprQuote x]).push (reprQuote x)).toList := hd
  rw [Array.toList_push, ← Array.foldl_toList] at hd'
  rcases List.mem_append.mp hd' with z | z
  · exact asc_fold _ hq x.cps.toList _ h (fun d hd => by
      have : d = reprQuote x := by simpa using hd
      rw [this]
      exact q128) d z
  · have : d = reprQuote x := by simpa using z
    rw [this]
    exact q128
theorem asc_app {x y : Str} (h : Asc x) (g : Asc y) : Asc (x ++ y) := fun c hc => by
  rw [tl_append] at hc
  rcases List.mem_append.mp hc with z | z
  · exact h c z
  · exact g c z
theorem asc_from : ∀ (ts : List Str) (k : Nat) (acc : Str), (∀ t ∈ ts, Asc t) → Asc acc → Asc (textFrom k acc ts)
  | [], k, acc, _, h => h
  | t :: ts, k, acc, ht, h => by
    unfold textFrom
    refine asc_from ts _ _ (fun u hu => ht u (List.mem_cons_of_mem _ hu)) (asc_app (asc_app h ?_) (ht t List.mem_cons_self))
    split
    · show ∀ c ∈ tl (Str.ofString ", "), c < 128
      rw [tl_ofString]
      decide
    · show ∀ c ∈ tl (Str.ofString ""), c < 128
      rw [tl_ofString]
      decide
theorem asc_list {ts : List Str} (h : ∀ t ∈ ts, Asc t) : Asc (listText ts) := by
  unfold listText
  refine asc_app (asc_from ts 0 _ h ?_) ?_
  · show ∀ c ∈ tl (Str.ofString "["), c < 128
    rw [tl_ofString]
    decide
  · show ∀ c ∈ tl (Str.ofString "]"), c < 128
    rw [tl_ofString]
    decide
theorem asc_row : ∀ ws : List (List Nat), (∀ w ∈ ws, ∀ c ∈ w, c < 128) → ∀ t ∈ PyData.shownAll (ws.map dS), Asc t
  | [], _, t, ht => by simp [PyData.shownAll] at ht
  | w :: ws, h, t, ht => by
    simp only [List.map_cons, PyData.shownAll, List.mem_cons] at ht
    rcases ht with rfl | ht
    · simp only [dS, PyData.shown]
      exact asc_repr (h w List.mem_cons_self)
    · exact asc_row ws (fun v hv => h v (List.mem_cons_of_mem _ hv)) t ht
theorem asc_rows : ∀ rows : List (List (List Nat)), AscR rows → ∀ t ∈ PyData.shownAll (rows.map dRow), Asc t
  | [], _, t, ht => by simp [PyData.shownAll] at ht
  | ws :: rows, h, t, ht => by
    simp only [List.map_cons, PyData.shownAll, List.mem_cons] at ht
    rcases ht with rfl | ht
    · simp only [dRow, PyData.shown]
      exact asc_list (asc_row ws (h ws List.mem_cons_self))
    · exact asc_rows rows (fun v hv => h v (List.mem_cons_of_mem _ hv)) t ht
theorem rows_asc {rows : List (List (List Nat))} (h : AscR rows) : Asc (dRows rows).shown := by
  simp only [dRows, PyData.shown]
  exact asc_list (asc_rows rows h)
/-! ### tests of texts -/
theorem lit_if {a b : List Nat} {s : String} {A B : Prop} (hb : s.toList.map Char.toNat = b) (h1 : a = b → A) (h2 : a ≠ b → B) : if decide (V.str (mk a) = V.str (Str.ofString s)) = true then A else B := by
  have e : Str.ofString s = mk b := by rw [mk_lit, hb]
  rw [e]
  exact str_if h1 h2
theorem litn_if {a b : List Nat} {s : String} {A B : Prop} (hb : s.toList.map Char.toNat = b) (h1 : a ≠ b → A) (h2 : a = b → B) : if (!decide (V.str (mk a) = V.str (Str.ofString s))) = true then A else B := by
  have e : Str.ofString s = mk b := by rw [mk_lit, hb]
  rw [e]
  exact strn_if h1 h2
theorem le_a {c b : Nat} {s : String} (hs : s.toList.map Char.toNat = [b]) : (!decide ((mk [c]).cps.toList < (Str.ofString s).cps.toList)) = decide (b ≤ c) := by
  have e : (Str.ofString s).cps.toList = [b] := by rw [← hs]; exact tl_ofString s
  have e2 : (mk [c]).cps.toList = [c] := rfl
  rw [e, e2]
  by_cases h : b ≤ c
  · rw [decide_eq_true h, decide_eq_false (fun z => by have := (lt1 c b).mp z; omega)]
    rfl
  · rw [decide_eq_false h, decide_eq_true ((lt1 c b).mpr (by omega))]
    rfl
theorem le_b {c b : Nat} {s : String} (hs : s.toList.map Char.toNat = [b]) : (!decide ((Str.ofString s).cps.toList < (mk [c]).cps.toList)) = decide (c ≤ b) := by
  have e : (Str.ofString s).cps.toList = [b] := by rw [← hs]; exact tl_ofString s
  have e2 : (mk [c]).cps.toList = [c] := rfl
  rw [e, e2]
  by_cases h : c ≤ b
  · rw [decide_eq_true h, decide_eq_false (fun z => by have := (lt1 b c).mp z; omega)]
    rfl
  · rw [decide_eq_false h, decide_eq_true ((lt1 b c).mpr (by omega))]
    rfl
/-- '!' <= sign <= '~' -/
theorem sign_if {ta : TE} {σ : L2.St} {H : Hp} {c : Nat} {Q : Bool → Hp → Prop} (ha : ∀ R : VK, R (.str (mk [c])) H → ta σ H R) (h : Q (Lns.okS c) H) :
    tTest (tChain (fun x y H Q => ∃ i j, x = .str i ∧ y = .str j ∧ Q (.bl (!decide (j.cps.toList < i.cps.toList))) H) (fun x y H Q => ∃ i j, x = .str i ∧ y = .str j ∧ Q (.bl (!decide (j.cps.toList < i.cps.toList))) H)
      (tC (.str (Str.ofString "!"))) ta (tC (.str (Str.ofString "~")))) σ H Q := by
  refine ha _ ⟨_, _, rfl, rfl, _, rfl, ?_⟩
  rw [le_a (b := 33) (by decide)]
  by_cases h1 : 33 ≤ c
  · refine iteY (decide_eq_true h1) ⟨_, _, rfl, rfl, _, rfl, ?_⟩
    rw [le_b (b := 126) (by decide)]
    have e : Lns.okS c = decide (c ≤ 126) := by
      unfold Lns.okS
      rw [decide_eq_true h1]
      rfl
    rw [← e]
    exact h
  · refine iteN (decide_eq_false h1) ⟨_, rfl, ?_⟩
    have e : Lns.okS c = false := by
      unfold Lns.okS
      rw [decide_eq_false h1]
      rfl
    rw [← e]
    exact h
theorem at_lastm {α : Type} {xs : List α} {v : α} (h : xs[xs.length - 1]? = some v) : atI xs (-1) = some v := by
  have hl : 0 < xs.length := by
    have := (List.getElem?_eq_some_iff.mp h).1
    omega
  have e : xs.dropLast ++ [v] = xs := by
    have ne : xs ≠ [] := by
      intro z
      rw [z] at hl
      simp at hl
    have := List.dropLast_concat_getLast ne
    rw [List.getLast_eq_getElem] at this
    have g := (List.getElem?_eq_some_iff.mp h).2
    rw [g] at this
    exact this
  rw [← e]
  exact atI_last _ _
theorem lit1_eq {c b : Nat} {s : String} (hs : s.toList.map Char.toNat = [b]) : decide (V.str (mk [c]) = V.str (Str.ofString s)) = decide (c = b) := by
  have e : Str.ofString s = mk [b] := by rw [mk_lit, hs]
  rw [e]
  by_cases h : c = b
  · rw [decide_eq_true h, h]
    exact decide_eq_true rfl
  · rw [decide_eq_false h]
    exact decide_eq_false fun z => h (by have := mk_inj (V.str.inj z); simpa using this)
theorem lit1_ne {c b : Nat} {s : String} (hs : s.toList.map Char.toNat = [b]) : (!decide (V.str (mk [c]) = V.str (Str.ofString s))) = decide (c ≠ b) := by
  rw [lit1_eq hs]
  by_cases h : c = b <;> simp [h]
/-- short texts of plain signs -/
def TxS (n : Nat) (y : Str) : Prop := y.length ≤ n ∧ Asc y
theorem TxS.more {n m : Nat} {y : Str} (h : TxS n y) (le : n ≤ m) : TxS m y := ⟨Nat.le_trans h.1 le, h.2⟩
theorem str_app_len (x y : Str) : (x ++ y).length = x.length + y.length := by
  rw [len_tl, len_tl, len_tl, tl_append, List.length_append]
theorem TxS.app {n m : Nat} {x y : Str} (h : TxS n x) (g : TxS m y) : TxS (n + m) (x ++ y) :=
  ⟨by rw [str_app_len]; exact Nat.add_le_add h.1 g.1, asc_app h.2 g.2⟩
theorem TxS.cut {n : Nat} {x : Str} (h : TxS n x) (lo hi : Option Int) : TxS n (cutS x lo hi) := by
  refine ⟨Nat.le_trans (cutS_length x lo hi) h.1, fun c hc => ?_⟩
  have e : tl (cutS x lo hi) = (x.cps.toList.drop (HT.sIx x.length 0 lo)).take (HT.sIx x.length x.length hi - HT.sIx x.length 0 lo) := rfl
  rw [e] at hc
  exact h.2 c (List.mem_of_mem_drop (List.mem_of_mem_take hc))
theorem TxS.lit {s : String} {n : Nat} (h1 : (s.toList.map Char.toNat).length ≤ n) (h2 : ∀ c ∈ s.toList.map Char.toNat, c < 128) : TxS n (Str.ofString s) :=
  ⟨by rw [len_tl, tl_ofString]; exact h1, fun c hc => by rw [tl_ofString] at hc; exact h2 c hc⟩
theorem TxS.tx {n : Nat} {y : Str} (h : TxS n y) : Tx n (tl y) := ⟨by rw [← len_tl]; exact h.1, h.2⟩
theorem line_le {n : Nat} (h : n ≤ 16000000) : n ≤ sizeLine := Nat.le_trans h (by decide)
/-- t1 or t2, both answers known -/
theorem tOr_p {t1 t2 : TT} {σ : L2.St} {H : Hp} {Q : Bool → Hp → Prop} {p q : Prop} [Decidable p] [Decidable q] (h1 : ∀ R : Bool → Hp → Prop, R (decide p) H → t1 σ H R) (h2 : ∀ R : Bool → Hp → Prop, R (decide q) H → t2 σ H R) (h : Q (decide (p ∨ q)) H) : tOr t1 t2 σ H Q := by
  refine h1 _ ?_
  by_cases hp : p
  · refine iteY (decide_eq_true hp) ?_
    rw [decide_eq_true (Or.inl hp)] at h
    exact h
  · refine iteN (decide_eq_false hp) (h2 _ ?_)
    have e : decide (p ∨ q) = decide q := by simp [hp]
    rw [← e]
    exact h
/-- t1 and t2, where only the second one's answer matters -/
theorem tAnd_any {t1 t2 : TT} {σ : L2.St} {H : Hp} {Q : Bool → Hp → Prop} {p : Prop} (h1 : ∀ R : Bool → Hp → Prop, (∀ c, R c H) → t1 σ H R) (h2 : ∀ R : Bool → Hp → Prop, (p → R true H) → R false H → t2 σ H R) (hT : p → Q true H) (hF : Q false H) : tAnd t1 t2 σ H Q := by
  refine h1 _ fun c => ?_
  cases c with
  | true => exact iteT (h2 _ hT hF)
  | false => exact iteF hF
theorem dec_R {p : Prop} [Decidable p] {R : Bool → Hp → Prop} {H : Hp} (h1 : p → R true H) (h2 : R false H) : R (decide p) H := by
  by_cases h : p
  · rw [decide_eq_true h]
    exact h1 h
  · rw [decide_eq_false h]
    exact h2
/-- t1 or t2, both answers known, the second one asked only behind the first -/
theorem tOr_p2 {t1 t2 : TT} {σ : L2.St} {H : Hp} {Q : Bool → Hp → Prop} {p q : Prop} [Decidable p] [Decidable q] (h1 : ∀ R : Bool → Hp → Prop, R (decide p) H → t1 σ H R) (h2 : ¬ p → ∀ R : Bool → Hp → Prop, R (decide q) H → t2 σ H R) (h : Q (decide (p ∨ q)) H) : tOr t1 t2 σ H Q := by
  refine h1 _ ?_
  by_cases hp : p
  · refine iteY (decide_eq_true hp) ?_
    rw [decide_eq_true (Or.inl hp)] at h
    exact h
  · refine iteN (decide_eq_false hp) (h2 hp _ ?_)
    have e : decide (p ∨ q) = decide q := by simp [hp]
    rw [← e]
    exact h
/-- t1 and t2, both answers known -/
theorem tAnd_p {t1 t2 : TT} {σ : L2.St} {H : Hp} {Q : Bool → Hp → Prop} {p q : Prop} [Decidable p] [Decidable q] (h1 : ∀ R : Bool → Hp → Prop, R (decide p) H → t1 σ H R) (h2 : p → ∀ R : Bool → Hp → Prop, R (decide q) H → t2 σ H R) (h : Q (decide (p ∧ q)) H) : tAnd t1 t2 σ H Q := by
  refine h1 _ ?_
  by_cases hp : p
  · refine iteY (decide_eq_true hp) (h2 hp _ ?_)
    have e : decide (p ∧ q) = decide q := by simp [hp]
    rw [← e]
    exact h
  · refine iteN (decide_eq_false hp) ?_
    have e : decide (p ∧ q) = false := by simp [hp]
    rw [← e]
    exact h
theorem lit_eq {a b : List Nat} {s : String} (hb : s.toList.map Char.toNat = b) : decide (V.str (mk a) = V.str (Str.ofString s)) = decide (a = b) := by
  have e : Str.ofString s = mk b := by rw [mk_lit, hb]
  rw [e]
  by_cases h : a = b
  · rw [decide_eq_true h, h]
    exact decide_eq_true rfl
  · rw [decide_eq_false h]
    exact decide_eq_false fun z => h (mk_inj (V.str.inj z))
theorem int_eq {a b : Int} : decide (V.int a = V.int b) = decide (a = b) := by
  by_cases h : a = b
  · rw [decide_eq_true h, h]
    exact decide_eq_true rfl
  · rw [decide_eq_false h]
    exact decide_eq_false fun z => h (V.int.inj z)
end L2

/-! # Fractions: the lowest terms by taking rests, and how long that takes. Plain Lean -/
namespace Frc
/-- (F k, F (k + 1)) of Fibonacci's numbers -/
def fibP : Nat → Nat × Nat
  | 0 => (0, 1)
  | k + 1 => ((fibP k).2, (fibP k).1 + (fibP k).2)
def fib (k : Nat) : Nat := (fibP k).1
theorem fib_step (k : Nat) : fib (k + 2) = fib k + fib (k + 1) := rfl
/-- by a fold, for large numbers -/
def fibL : Nat → Nat → Nat → Nat
  | 0, a, _ => a
  | k + 1, a, b => fibL k b (a + b)
theorem fibL_eq : ∀ (k m : Nat), fibL k (fib m) (fib (m + 1)) = fib (m + k)
  | 0, m => rfl
  | k + 1, m => by
    show fibL k (fib (m + 1)) (fib m + fib (m + 1)) = _
    rw [← fib_step, fibL_eq k (m + 1)]
    congr 1
    omega
theorem fib_large : 10 ^ 400 < fib 2000 := by
  have := fibL_eq 2000 0
  rw [Nat.zero_add] at this
  rw [← this]
  show 10 ^ 400 < fibL 2000 0 1
  decide +kernel
/-- where the rests stand behind k steps: one and two, from top and bottom -/
structure At (t b k one two : Nat) : Prop where
  gcd : Nat.gcd one two = Nat.gcd t b
  pos : 0 < one ∨ k = 0
  big : k = 0 → two = b
  less : 0 < k → two < one
  fb : 0 < k → Frc.fib k * one + Frc.fib (k - 1) * two ≤ b
theorem At.zero (t b : Nat) : At t b 0 t b := ⟨rfl, .inr rfl, fun _ => rfl, fun h => absurd h (by omega), fun h => absurd h (by omega)⟩
theorem At.step {t b k one two : Nat} (h : At t b k one two) (h2 : 0 < two) : At t b (k + 1) two (one % two) := by
  have lt := Nat.mod_lt one h2
  refine ⟨?_, .inl h2, fun z => by omega, fun _ => lt, fun _ => ?_⟩
  · rw [Nat.gcd_comm, ← Nat.gcd_rec, Nat.gcd_comm]
    exact h.gcd
  · by_cases k0 : k = 0
    · have e := h.big k0
      rw [k0, e]
      show 1 * b + 0 * (one % b) ≤ b
      omega
    · have f := h.fb (by omega)
      have l := h.less (by omega)
      have q : two + one % two ≤ one := by
        have e := Nat.div_add_mod one two
        have p : 1 ≤ one / two := (Nat.le_div_iff_mul_le h2).mpr (by omega)
        have m : two * 1 ≤ two * (one / two) := Nat.mul_le_mul_left _ p
        omega
      obtain ⟨j, rfl⟩ : ∃ j, k = j + 1 := ⟨k - 1, by omega⟩
      show Frc.fib (j + 1 + 1) * two + Frc.fib (j + 1) * (one % two) ≤ b
      have s : Frc.fib (j + 1 + 1) = Frc.fib j + Frc.fib (j + 1) := fib_step j
      rw [s, Nat.add_mul]
      have f' : Frc.fib (j + 1) * one + Frc.fib j * two ≤ b := f
      have m : Frc.fib (j + 1) * (two + one % two) ≤ Frc.fib (j + 1) * one := Nat.mul_le_mul_left _ q
      rw [Nat.mul_add] at m
      omega
theorem At.late {t b one two : Nat} (h : At t b 2000 one two) (hb : b < 10 ^ 400) : False := by
  have f := h.fb (by omega)
  have p : 0 < one := by
    rcases h.pos with z | z
    · exact z
    · omega
  have l := fib_large
  have m : fib 2000 * 1 ≤ fib 2000 * one := Nat.mul_le_mul_left _ p
  omega
theorem At.done {t b k one : Nat} (h : At t b k one 0) : one = Nat.gcd t b := by
  have := h.gcd
  rw [Nat.gcd_zero_right] at this
  exact this
/-- top / bottom in lowest terms (bottom above 0) -/
def low (t b : Int) : Int × Int := (t / (Nat.gcd t.natAbs b.natAbs : Nat), b / (Nat.gcd t.natAbs b.natAbs : Nat))
theorem gcd_pos {t b : Int} (h : b ≠ 0) : 0 < Nat.gcd t.natAbs b.natAbs := Nat.gcd_pos_of_pos_right _ (by omega)
theorem low_neg (t b : Int) : low (-t) (-b) = ((-t) / (Nat.gcd t.natAbs b.natAbs : Nat), (-b) / (Nat.gcd t.natAbs b.natAbs : Nat)) := by
  unfold low
  rw [Int.natAbs_neg, Int.natAbs_neg]
/-- the lowest terms are the terms themselves, if only 1 divides both -/
theorem low_eq {t b : Int} (hb : 0 < b) : low t b = (t, b) ↔ Nat.gcd t.natAbs b.natAbs = 1 := by
  have g := gcd_pos (t := t) (b := b) (by omega)
  constructor
  · intro h
    have h2 : b / (Nat.gcd t.natAbs b.natAbs : Nat) = b := congrArg Prod.snd h
    refine Classical.byContradiction fun ne => ?_
    have g2 : 2 ≤ Nat.gcd t.natAbs b.natAbs := by omega
    have : b / (Nat.gcd t.natAbs b.natAbs : Nat) < b := Int.ediv_lt_of_lt_mul (by omega) (by
      have : (2 : Int) ≤ ((Nat.gcd t.natAbs b.natAbs : Nat) : Int) := by omega
      have m : b * 2 ≤ b * ((Nat.gcd t.natAbs b.natAbs : Nat) : Int) := Int.mul_le_mul_of_nonneg_left this (by omega)
      omega)
    omega
  · intro h
    unfold low
    rw [h]
    simp

/-! ### words of digits -/
def isD (c : Nat) : Bool := decide (48 ≤ c) && decide (c ≤ 57)
def val (cs : List Nat) : Nat := cs.foldl (fun acc c => acc * 10 + (c - 48)) 0
/-- the number that a word of digits tells, -1 if it tells none -/
def dig (l : List Nat) : Int := if l = [] ∨ 300 < l.length ∨ (l.head? = some 48 ∧ 1 < l.length) then -1 else if l.all isD = true then (val l : Int) else -1
theorem val_snoc (cs : List Nat) (c : Nat) : val (cs ++ [c]) = val cs * 10 + (c - 48) := by
  unfold val
  rw [List.foldl_append]
  rfl
theorem val_lt : ∀ (n : Nat) (cs : List Nat), cs.length = n → cs.all isD = true → val cs < 10 ^ n
  | 0, cs, h, _ => by
    have := List.eq_nil_of_length_eq_zero h
    rw [this]
    decide
  | n + 1, cs, h, hd => by
    have ne : cs ≠ [] := by
      intro z
      rw [z] at h
      simp at h
    rw [← List.dropLast_concat_getLast ne] at hd ⊢
    rw [List.all_append] at hd
    rw [Bool.and_eq_true] at hd
    have ih := val_lt n cs.dropLast (by simp [h]) hd.1
    rw [val_snoc]
    have hc : isD (cs.getLast ne) = true := by simpa using hd.2
    unfold isD at hc
    simp at hc
    rw [Nat.pow_succ]
    omega
theorem dig_lt (l : List Nat) : dig l < 10 ^ 300 := by
  unfold dig
  split
  · exact Int.lt_of_lt_of_le (show (-1 : Int) < 0 by decide) (Int.pow_nonneg (by decide))
  · split
    · rename_i h1 h2
      have a := val_lt l.length l rfl h2
      have b : l.length ≤ 300 := by omega
      have c : 10 ^ l.length ≤ 10 ^ 300 := Nat.pow_le_pow_right (by decide) b
      have d : val l < 10 ^ 300 := by omega
      exact_mod_cast d
    · exact Int.lt_of_lt_of_le (show (-1 : Int) < 0 by decide) (Int.pow_nonneg (by decide))
theorem dig_ge (l : List Nat) : -1 ≤ dig l := by
  unfold dig
  split
  · omega
  · split <;> omega
theorem val_pos : ∀ (cs : List Nat) (c : Nat), 48 < c → 0 < val (c :: cs) := by
  have key : ∀ (cs : List Nat) (a : Nat), 0 < a → 0 < cs.foldl (fun acc c => acc * 10 + (c - 48)) a := by
    intro cs
    induction cs with
    | nil => intro a h; exact h
    | cons c cs ih => intro a h; exact ih _ (by show 0 < a * 10 + (c - 48); omega)
  intro cs c h
  unfold val
  exact key cs _ (by show 0 < 0 * 10 + (c - 48); omega)
/-- only the word 0 tells 0 -/
theorem dig_zero {l : List Nat} : dig l = 0 ↔ l = [48] := by
  constructor
  · intro h
    unfold dig at h
    split at h
    · omega
    · rename_i h1
      split at h
      · rename_i h2
        cases l with
        | nil => exact absurd (.inl rfl) h1
        | cons c cs =>
          by_cases c48 : c = 48
          · subst c48
            cases cs with
            | nil => rfl
            | cons d ds => exact absurd (.inr (.inr ⟨rfl, by simp⟩)) h1
          · have hc : isD c = true := by
              rw [List.all_cons, Bool.and_eq_true] at h2
              exact h2.1
            unfold isD at hc
            simp at hc
            have := val_pos cs c (by omega)
            omega
      · omega
  · intro h
    rw [h]
    decide
end Frc

/-! # Own layer: repr of any data; exact slices; numbers as texts -/
namespace L2
open PySem PySem.Spec PyProof.Rows TL
section
variable {X : Cx}
/-- repr(x), x any data -/
def rReprX (K : PySem.W.Frag) : List V → Hp → VK → Prop := fun xs H Q => ∃ (x : V) (d : PyData), xs = [x] ∧ Dp K H x d ∧ SeqAt.shaped d = true ∧ d.showable = true ∧ d.shown.length ≤ sizeLine ∧ Q (.str d.shown) H
theorem cr_reprX (hgu : X.A.guards = some []) (hu : X.A.units + 66 < cLine) : CallR X (.builtin "repr") (rReprX X.K) := by
  intro pins s σ H xs us Q I r h
  obtain ⟨x, d, rfl, hd, sd, hs, hz, q⟩ := h
  cases hd with
  | non =>
    match us, r with
    | [u], .cons (rx : u = Value.none) .nil =>
      subst rx
      exact PySem.P.repr_of_none ⟨.str (PyData.shown .none), H, I.tok _, ⟨s.toks, rfl⟩, q⟩
  | bl b =>
    match us, r with
    | [u], .cons (rx : u = Value.bool b) .nil =>
      subst rx
      refine PySem.P.repr_of_bool ⟨.str (PyData.shown (.bool b)), H, I.tok _, ⟨s.toks, ?_⟩, q⟩
      cases b <;> rfl
  | int i =>
    match us, r with
    | [u], .cons (rx : ∃ t, u = Value.int i t) .nil =>
      obtain ⟨t, rfl⟩ := rx
      exact PySem.P.repr_of_int (of_decide_eq_true hs) ⟨.str (PyData.shown (.int i)), H, I.tok _, ⟨s.toks, rfl⟩, q⟩
  | str y =>
    match us, r with
    | [u], .cons (rx : ∃ t, u = Value.str y t) .nil =>
      obtain ⟨t, rfl⟩ := rx
      exact PySem.P.repr_of_str ⟨.str (PyData.shown (.str y)), H, I.tok _, ⟨s.toks, rfl⟩, q⟩ hz
  | @lst a ys ds h1 h2 => exact cr_reprD hgu hu pins s σ H _ us Q I r ⟨a, _, rfl, .lst h1 h2, sd, hs, hz, q⟩
  | @tup a ys ds h1 h2 => exact cr_reprD hgu hu pins s σ H _ us Q I r ⟨a, _, rfl, .tup h1 h2, sd, hs, hz, q⟩
end
/-- _law_same(left, right): the same data -/
def spSameX (K : PySem.W.Frag) : Sp := fun vs H Q _ => ∃ (x y : V) (d : PyData), vs = [x, y] ∧ Dp K H x d ∧ Dp K H y d ∧ SeqAt.shaped d = true ∧ d.showable = true ∧ d.shown.length ≤ sizeLine ∧ Q (.bl true) H
theorem cut_take (l : List Nat) (k : Nat) : cutS (mk l) none (some (k : Int)) = mk (l.take k) := by
  have e1 : HT.sIx (mk l).length 0 none = 0 := rfl
  unfold cutS
  rw [e1, HT.sIx_nat, mk_len]
  have e : (mk l).cps.toList = l := rfl
  rw [e, List.drop_zero, Nat.sub_zero]
  show mk (l.take (min k l.length)) = _
  by_cases h : k ≤ l.length
  · rw [Nat.min_eq_left h]
  · rw [Nat.min_eq_right (by omega), List.take_of_length_le (Nat.le_refl _), List.take_of_length_le (by omega)]
theorem cut_dropS (l : List Nat) (k : Nat) : cutS (mk l) (some (k : Int)) none = mk (l.drop k) := by
  have e1 : HT.sIx (mk l).length (mk l).length none = (mk l).length := rfl
  unfold cutS
  rw [e1, HT.sIx_nat, mk_len]
  have e : (mk l).cps.toList = l := rfl
  rw [e]
  show mk ((l.drop (min k l.length)).take (l.length - min k l.length)) = _
  rw [List.take_of_length_le (by rw [List.length_drop]; omega)]
  by_cases h : k ≤ l.length
  · rw [Nat.min_eq_left h]
  · rw [Nat.min_eq_right (by omega), List.drop_of_length_le (Nat.le_refl _), List.drop_of_length_le (by omega)]
/-- the text of a number -/
def numT (i : Int) : List Nat := tl (Str.ofString (toString i))
theorem mk_num (i : Int) : Str.ofString (toString i) = mk (numT i) := (mkt _).symm
theorem numT_nat (n : Nat) : numT (n : Int) = numL n := tl_num n
theorem numT_neg (n : Nat) : numT (-((n + 1 : Nat) : Int)) = 45 :: numL (n + 1) := by
  unfold numT
  have e : toString (-((n + 1 : Nat) : Int)) = "-" ++ toString (((n + 1 : Nat) : Nat)) := rfl
  have e2 : toString (((n + 1 : Nat) : Int)) = toString ((n + 1 : Nat)) := rfl
  rw [tl_ofString, e, String.toList_append, List.map_append]
  have := tl_num (n + 1)
  rw [tl_ofString, e2] at this
  rw [this]
  rfl
theorem numT_asc (i : Int) : ∀ c ∈ numT i, c < 128 := by
  have key : ∀ n : Nat, ∀ c ∈ numL n, c < 128 := fun n c hc => by
    have := numL_digits n c hc
    omega
  cases i with
  | ofNat n => exact fun c hc => key n c (by rw [← numT_nat]; exact hc)
  | negSucc n =>
    intro c hc
    have e : (Int.negSucc n) = -((n + 1 : Nat) : Int) := rfl
    rw [e, numT_neg] at hc
    rcases List.mem_cons.mp hc with z | z
    · omega
    · exact key _ c z
theorem numT_len {i : Int} {k : Nat} (hk : 0 < k) (h : i.natAbs < 10 ^ k) : (numT i).length ≤ k + 1 := by
  cases i with
  | ofNat n =>
    have e : numT (Int.ofNat n) = numL n := numT_nat n
    rw [e]
    have := numL_len hk (n := n) h
    omega
  | negSucc n =>
    have e : (Int.negSucc n) = -((n + 1 : Nat) : Int) := rfl
    rw [e, numT_neg, List.length_cons]
    have := numL_len hk (n := n + 1) (by simpa using h)
    omega
theorem log_1920 {i : Int} (h : i.natAbs < 10 ^ 570) : i.natAbs.log2 < 1920 := by
  by_cases c : i.natAbs = 0
  · rw [c]
    decide
  · rw [Nat.log2_lt c]
    exact Nat.lt_trans h (by decide +kernel)
theorem int_shown {i : Int} {k : Nat} (hk : 0 < k) (h : i.natAbs < 10 ^ k) : (PyData.shown (.int i)).length ≤ k + 1 := by
  show (Str.ofString (toString i)).length ≤ _
  rw [len_tl]
  exact numT_len hk h
/-! ### int(text) of digits -/
theorem int_dig {l : List Nat} (h : l.all Frc.isD = true) (h1 : l ≠ []) (h2 : l.length ≤ 640) : PySem.intText? (mk l) = some ((Frc.val l : Nat) : Int) := by
  have hd : NumText.AllDigits (mk l).cps.toList := fun c hc => by
    have := List.all_eq_true.mp h c hc
    unfold Frc.isD at this
    simpa using this
  have := PySem.intText_digits hd h1 (by rw [mk_len]; omega)
  exact this
mutual
/-- data stay as long as what is tracked stays -/
theorem dp_fr {K : PySem.W.Frag} {H H' : Hp} (e : Fr [] H H') : ∀ (d : PyData) (v : V), Dp K H v d → Dp K H' v d
  | .none, _, h => by cases h; exact .non
  | .bool b, _, h => by cases h; exact .bl b
  | .int i, _, h => by cases h; exact .int i
  | .str x, _, h => by cases h; exact .str x
  | .list ds, _, h => by
    cases h with
    | lst h1 h2 => exact .lst (e.l h1) (dpa_fr e ds _ h2)
  | .tuple ds, _, h => by
    cases h with
    | tup h1 h2 => exact .tup (e.t h1) (dpa_fr e ds _ h2)
  | .dict _, _, h => by cases h
theorem dpa_fr {K : PySem.W.Frag} {H H' : Hp} (e : Fr [] H H') : ∀ (ds : List PyData) (vs : List V), DpAll K H vs ds → DpAll K H' vs ds
  | [], _, h => by cases h; exact .nil
  | d :: ds, _, h => by
    cases h with
    | cons h1 h2 => exact .cons (dp_fr e d _ h1) (dpa_fr e ds _ h2)
end
end L2

namespace K18
open PySem PySem.Spec PyProof.Rows L2 TL
def top (i : Nat) : Stmt := PySem.Challenge.pw_eachfloweachlink_k18_fractions_exact.main.body.getD i (.Pass ⟨0, 0, 0, 0⟩)
/-! ratio(top, bottom): slots 0 top 1 bottom 2 common -/
abbrev s_ratio : Stmt := top 9
abbrev n_ratio : List Str := ["top", "bottom", "common"]
theorem sc_ratio : FnScope n_ratio ["top", "bottom"] (defScope s_ratio) := ⟨rfl, rfl, rfl, by decide +kernel, rfl, by decide +kernel, by decide +kernel⟩
/-! plus(one, other): slots 0 one 1 other -/
abbrev s_plus : Stmt := top 10
abbrev n_plus : List Str := ["one", "other"]
theorem sc_plus : FnScope n_plus ["one", "other"] (defScope s_plus) := ⟨rfl, rfl, rfl, by decide +kernel, rfl, by decide +kernel, by decide +kernel⟩
/-! minus(one, other): slots 0 one 1 other -/
abbrev s_minus : Stmt := top 11
abbrev n_minus : List Str := ["one", "other"]
theorem sc_minus : FnScope n_minus ["one", "other"] (defScope s_minus) := ⟨rfl, rfl, rfl, by decide +kernel, rfl, by decide +kernel, by decide +kernel⟩
/-! times(one, other): slots 0 one 1 other -/
abbrev s_times : Stmt := top 12
abbrev n_times : List Str := ["one", "other"]
theorem sc_times : FnScope n_times ["one", "other"] (defScope s_times) := ⟨rfl, rfl, rfl, by decide +kernel, rfl, by decide +kernel, by decide +kernel⟩
/-! is_less(one, other): slots 0 one 1 other -/
abbrev s_is_less : Stmt := top 13
abbrev n_is_less : List Str := ["one", "other"]
theorem sc_is_less : FnScope n_is_less ["one", "other"] (defScope s_is_less) := ⟨rfl, rfl, rfl, by decide +kernel, rfl, by decide +kernel, by decide +kernel⟩
/-! magnitude(one): slots 0 one -/
abbrev s_magnitude : Stmt := top 14
abbrev n_magnitude : List Str := ["one"]
theorem sc_magnitude : FnScope n_magnitude ["one"] (defScope s_magnitude) := ⟨rfl, rfl, rfl, by decide +kernel, rfl, by decide +kernel, by decide +kernel⟩
/-! floor_of(one): slots 0 one -/
abbrev s_floor_of : Stmt := top 15
abbrev n_floor_of : List Str := ["one"]
theorem sc_floor_of : FnScope n_floor_of ["one"] (defScope s_floor_of) := ⟨rfl, rfl, rfl, by decide +kernel, rfl, by decide +kernel, by decide +kernel⟩
/-! ceiling_of(one): slots 0 one -/
abbrev s_ceiling_of : Stmt := top 16
abbrev n_ceiling_of : List Str := ["one"]
theorem sc_ceiling_of : FnScope n_ceiling_of ["one"] (defScope s_ceiling_of) := ⟨rfl, rfl, rfl, by decide +kernel, rfl, by decide +kernel, by decide +kernel⟩
/-! digits_value(text): slots 0 text 1 sign -/
abbrev s_digits_value : Stmt := top 17
abbrev n_digits_value : List Str := ["text", "sign"]
theorem sc_digits_value : FnScope n_digits_value ["text"] (defScope s_digits_value) := ⟨rfl, rfl, rfl, by decide +kernel, rfl, by decide +kernel, by decide +kernel⟩
/-! _law_lowest(top, bottom): slots 0 top 1 bottom 2 one 3 two 4 k 5 left -/
abbrev s_law_lowest : Stmt := top 23
abbrev n_law_lowest : List Str := ["top", "bottom", "one", "two", "k", "left"]
theorem sc_law_lowest : FnScope n_law_lowest ["top", "bottom"] (defScope s_law_lowest) := ⟨rfl, rfl, rfl, by decide +kernel, rfl, by decide +kernel, by decide +kernel⟩
/-! _law_digits(word): slots 0 word 1 sign -/
abbrev s_law_digits : Stmt := top 30
abbrev n_law_digits : List Str := ["word", "sign"]
theorem sc_law_digits : FnScope n_law_digits ["word"] (defScope s_law_digits) := ⟨rfl, rfl, rfl, by decide +kernel, rfl, by decide +kernel, by decide +kernel⟩
/-! show_ratio(one): slots 0 one -/
abbrev s_show_ratio : Stmt := top 18
abbrev n_show_ratio : List Str := ["one"]
theorem sc_show_ratio : FnScope n_show_ratio ["one"] (defScope s_show_ratio) := ⟨rfl, rfl, rfl, by decide +kernel, rfl, by decide +kernel, by decide +kernel⟩
/-! _law_shown(one): slots 0 one -/
abbrev s_law_shown : Stmt := top 29
abbrev n_law_shown : List Str := ["one"]
theorem sc_law_shown : FnScope n_law_shown ["one"] (defScope s_law_shown) := ⟨rfl, rfl, rfl, by decide +kernel, rfl, by decide +kernel, by decide +kernel⟩
abbrev s_iB : Stmt := inClass (top 3) 0
theorem S_BadNumber : XS.ErrSyn "BadNumber.__init__" s_iB "value" [] where
  body := ⟨_, _, _, _, _, _, _, _, _, _, _, _, _, rfl, .nil, by decide +kernel⟩
  ar := ⟨_, rfl, rfl⟩
  kind := rfl
  sup := rfl
  cls := rfl
  self := rfl
  loc := by decide +kernel
  cell := by decide +kernel
  co := rfl
  gen := rfl
  nd := by decide +kernel
  short := by decide
  bind := fun _ _ _ _ _ _ _ us hl s => match us, hl with | [_, _], _ => .of_eq rfl
/-- what the top has written -/
structure Txt1 (P : Program) (K : PySem.W.Frag) (mg : Str → Option Value) (CB : Addr) : Prop extends Blt mg where
  bad : ∃ fI, XS.ErrTxt P K mg "BadNumber" "BadNumber.__init__" s_iB ["value"] CB fI
  g_gcd : mg "gcd" = some (.builtin "math.gcd")
  gD : ∃ t, mg "DIGITS" = some (.str (Str.ofString "0123456789") t)
  gM : ∃ t, mg "MOST_DIGITS" = some (.int 300 t)
/-- in lowest terms, whatever the bottom's sign -/
def rat (t b : Int) : Int × Int := if b < 0 then Frc.low (-t) (-b) else Frc.low t b
def plusF (a b c d : Int) : Int × Int := Frc.low (a * d + c * b) (b * d)
def minusF (a b c d : Int) : Int × Int := Frc.low (a * d - c * b) (b * d)
def timesF (a b c d : Int) : Int × Int := Frc.low (a * c) (b * d)
def spRatio (CB : Addr) : Sp := fun vs H Q E => ∃ t b : Int, vs = [.int t, .int b] ∧ b.natAbs < 10 ^ 650 ∧ (b ≠ 0 → ∀ (p : Addr) (H' : Hp), Fr [] H H' → H' p = some (.tup [.int (rat t b).1, .int (rat t b).2]) → Q (.ref p) H') ∧
  (b = 0 → ∀ (d : Addr) (H' : Hp), Fr [] H H' → H' d = some (.xd [(("value" : Str), .int 0)]) → E (.ref CB) (some d) H')
/-- two fractions with bottoms above 0 -/
def Two (K : PySem.W.Frag) (H : Hp) (p q : Addr) (a b c d : Int) : Prop := SqT K H p [.int a, .int b] ∧ SqT K H q [.int c, .int d] ∧ 0 < b ∧ 0 < d ∧ a.natAbs < 10 ^ 302 ∧ b.natAbs < 10 ^ 302 ∧ c.natAbs < 10 ^ 302 ∧ d.natAbs < 10 ^ 302
def spBin (K : PySem.W.Frag) (f : Int → Int → Int → Int → Int × Int) : Sp := fun vs H Q _ => ∃ (p q : Addr) (a b c d : Int), vs = [.ref p, .ref q] ∧ Two K H p q a b c d ∧ ∀ (r : Addr) (H' : Hp), Fr [] H H' → H' r = some (.tup [.int (f a b c d).1, .int (f a b c d).2]) → Q (.ref r) H'
def spLess (K : PySem.W.Frag) : Sp := fun vs H Q _ => ∃ (p q : Addr) (a b c d : Int), vs = [.ref p, .ref q] ∧ Two K H p q a b c d ∧ Q (.bl (decide (a * d < c * b))) H
def spMag (K : PySem.W.Frag) : Sp := fun vs H Q _ => ∃ (p : Addr) (a b : Int), vs = [.ref p] ∧ SqT K H p [.int a, .int b] ∧ ∀ (r : Addr) (H' : Hp), Fr [] H H' → H' r = some (.tup [.int (if a < 0 then -a else a), .int b]) → Q (.ref r) H'
def spFloor (K : PySem.W.Frag) : Sp := fun vs H Q _ => ∃ (p : Addr) (a b : Int), vs = [.ref p] ∧ SqT K H p [.int a, .int b] ∧ 0 < b ∧ b.natAbs < 10 ^ 302 ∧ Q (.int (a / b)) H
def spCeil (K : PySem.W.Frag) : Sp := fun vs H Q _ => ∃ (p : Addr) (a b : Int), vs = [.ref p] ∧ SqT K H p [.int a, .int b] ∧ 0 < b ∧ b.natAbs < 10 ^ 302 ∧ Q (.int (-(-a / b))) H
def spDig : Sp := fun vs H Q _ => ∃ l : List Nat, vs = [vS l] ∧ l.length ≤ 1000000 ∧ Q (.int (Frc.dig l)) H
def spLow : Sp := fun vs H Q _ => ∃ t b : Int, vs = [.int t, .int b] ∧ 0 < b ∧ b.natAbs < 10 ^ 400 ∧ ∀ (p : Addr) (H' : Hp), Fr [] H H' → H' p = some (.tup [.int (Frc.low t b).1, .int (Frc.low t b).2]) → Q (.ref p) H'
theorem mul_ok {i j : Int} (h1 : i.natAbs < 10 ^ 302) (h2 : j.natAbs < 10 ^ 302) : CMulW i j := by
  have e : 10 ^ 302 < 2 ^ 1010 := by decide +kernel
  exact wide_mul (a := 1010) (b := 1010) (Nat.lt_trans h1 e) (Nat.lt_trans h2 e) (by decide) (by decide) (by decide)
theorem div_ok {j : Int} (h0 : 0 < j) (h : j.natAbs < 10 ^ 700) : CDivW 0 j := by
  refine ⟨h0, ?_⟩
  rw [Nat.log2_lt (by omega)]
  exact Nat.lt_trans h (by decide +kernel)
theorem nat_mul {i j : Int} {a b : Nat} (h1 : i.natAbs < 10 ^ a) (h2 : j.natAbs < 10 ^ b) : (i * j).natAbs < 10 ^ (a + b) := by
  rw [Int.natAbs_mul, Nat.pow_add]
  exact Nat.mul_lt_mul'' h1 h2
theorem ten_le {a b : Nat} (h : a ≤ b) : 10 ^ a ≤ 10 ^ b := Nat.pow_le_pow_right (by decide) h
section
variable {P : Program} {w : World} {K : PySem.W.Frag} {mg : Str → Option Value} {base : Heap} {CB : Addr}
theorem ok_ratio {f : Addr} {fd : FuncData} (F : Fun K "ratio" "ratio" s_ratio f fd) (T : Txt1 P K mg CB) : FnOk P w K mg base (L2.CX P w) 2 f fd ["top", "bottom"] (spRatio CB) := by
  refine F.okX sc_ratio (fun vs H Q E h => ?_) (fun cdv A outer s H vs Q E hr h => ?_)
  · obtain ⟨t, b, rfl, _⟩ := h
    rfl
  · obtain ⟨t, b, rfl, hb, kQ, kE⟩ := h
    obtain ⟨fI, TB⟩ := T.bad
    refine ⟨_, (pss_cons (ps_if (pt_cmpR op_eq (pv 1) pe_int (nomark _))
      (pss_one (ps_raiseErr rfl TB S_BadNumber hr (takes_of rfl rfl rfl rfl) (pa_cons (pv 1) pa_nil)))
      pss_nil)
    (Evl.pss_cut (ps_if (pt_cmpR op_lt (pv 1) pe_int (nomark _))
      (pss_cons (ps_set (i := 0) sc_ratio.nd rfl (Or.inl rfl) (pe_un un_neg (pv 0)))
      (pss_one (ps_set (i := 1) sc_ratio.nd rfl (Or.inl rfl) (pe_un un_neg (pv 1)))))
      pss_nil)
    (pss_cons (ps_set (i := 2) sc_ratio.nd rfl (Or.inl rfl) (pe_callBfun cr_gcd rfl T.g_gcd (pa_cons (pv 0) (pa_cons (pv 1) pa_nil))))
    (pss_one (ps_ret (pe_tup (pa_cons (pe_op op_fdivW (pv 0) (pv 2)) (pa_cons (pe_op op_fdivW (pv 1) (pv 2)) pa_nil)))))))), ?_⟩
    refine ⟨_, rfl, rfl, _, rfl, eq_if (fun e => ?_) fun ne => ?_⟩
    · refine ⟨_, rfl, rfl, fun d hd => kE e d _ ((Fr.refl [] H).new hd) ?_⟩
      rw [upd_same, e]
      rfl
    have kQ := kQ ne
    refine ⟨fun σ' H' => H' = H ∧ ∃ t' b' : Int, 0 < b' ∧ b'.natAbs < 10 ^ 650 ∧ rat t b = Frc.low t' b' ∧ σ' = [some (.int t'), some (.int b'), none], ?_, ?_⟩
    · refine ⟨_, rfl, _, _, rfl, rfl, _, rfl, dec_iff (fun neg => ?_) fun pos => ⟨rfl, t, b, by omega, hb, if_neg pos, rfl⟩⟩
      exact ⟨_, rfl, _, rfl, _, rfl, _, rfl, rfl, -t, -b, by omega, by rw [Int.natAbs_neg]; exact hb, if_pos neg, rfl⟩
    rintro σ' H' ⟨rfl, t', b', h0, hb', e, rfl⟩
    have g := Frc.gcd_pos (t := t') (b := b') (by omega)
    have gl : Nat.gcd t'.natAbs b'.natAbs ≤ b'.natAbs := Nat.gcd_le_right _ (by omega)
    have dv : ∀ i : Int, CDivW i ((Nat.gcd t'.natAbs b'.natAbs : Nat) : Int) := fun i => div_ok (by omega) (by
      have := ten_le (show 650 ≤ 700 by decide)
      rw [Int.natAbs_natCast]
      omega)
    refine ⟨_, rfl, _, rfl, _, _, rfl, ?_⟩
    refine ⟨_, rfl, _, rfl, _, _, rfl, rfl, dv _, _, rfl, _, rfl, _, _, rfl, rfl, dv _, by show 2 ≤ sizeLine; decide, fun p hp => ?_⟩
    refine kQ p _ ((Fr.refl [] _).new hp) ?_
    rw [upd_same, e]
    rfl
theorem ok_bin {a b c d : Int} {p q : Addr} {H : Hp} (h : Two K H p q a b c d) : CMulW a d ∧ CMulW c b ∧ CMulW b d ∧ CMulW a c ∧ b * d ≠ 0 ∧ ¬ b * d < 0 ∧ (b * d).natAbs < 10 ^ 650 := by
  obtain ⟨_, _, hb, hd, la, lb, lc, ld⟩ := h
  have pos := Int.mul_pos hb hd
  exact ⟨mul_ok la ld, mul_ok lc lb, mul_ok lb ld, mul_ok la lc, by omega, by omega, Nat.lt_of_lt_of_le (nat_mul lb ld) (ten_le (by decide))⟩
theorem ok_plus {f : Addr} {fd : FuncData} (F : Fun K "plus" "plus" s_plus f fd) (F_ratio : FnB P w K mg base (L2.CX P w) 2 "ratio" ["top", "bottom"] (spRatio CB)) : FnOk P w K mg base CX0 3 f fd ["one", "other"] (spBin K plusF) := by
  refine F.ok sc_plus (fun vs H Q E h => ?_) (fun cdv A outer s H vs Q E hr h => ?_)
  · obtain ⟨p, q, a, b, c, d, rfl, _⟩ := h
    rfl
  · obtain ⟨p, q, a, b, c, d, rfl, h2, k⟩ := h
    obtain ⟨m1, m2, m3, m4, n0, ng, nl⟩ := ok_bin h2
    obtain ⟨hp, hq, _⟩ := h2
    refine ⟨_, (pss_one (ps_ret (pe_callF F_ratio (hr.mono (by decide)) rfl passN (pa_cons (pe_op op_add (pe_op op_mulW (pe_ix ix_tup (pv 0) pe_int (fun _ _ => rfl)) (pe_ix ix_tup (pv 1) pe_int (fun _ _ => rfl))) (pe_op op_mulW (pe_ix ix_tup (pv 1) pe_int (fun _ _ => rfl)) (pe_ix ix_tup (pv 0) pe_int (fun _ _ => rfl)))) (pa_cons (pe_op op_mulW (pe_ix ix_tup (pv 0) pe_int (fun _ _ => rfl)) (pe_ix ix_tup (pv 1) pe_int (fun _ _ => rfl))) pa_nil))))), ?_⟩
    refine ⟨_, rfl, _, _, _, _, rfl, rfl, hp, rfl, _, rfl, _, _, _, _, rfl, rfl, hq, rfl, _, _, rfl, rfl, m1, _, rfl, _, _, _, _, rfl, rfl, hq, rfl, _, rfl, _, _, _, _, rfl, rfl, hp, rfl, _, _, rfl, rfl, m2, _, _, rfl, rfl, ?_⟩
    refine ⟨_, rfl, _, _, _, _, rfl, rfl, hp, rfl, _, rfl, _, _, _, _, rfl, rfl, hq, rfl, _, _, rfl, rfl, m3, _, _, rfl, nl, fun _ r H' e hr => k r H' e ?_, fun z => absurd z n0⟩
    rw [hr]
    unfold rat
    rw [if_neg ng]
    rfl
theorem ok_minus {f : Addr} {fd : FuncData} (F : Fun K "minus" "minus" s_minus f fd) (F_ratio : FnB P w K mg base (L2.CX P w) 2 "ratio" ["top", "bottom"] (spRatio CB)) : FnOk P w K mg base CX0 3 f fd ["one", "other"] (spBin K minusF) := by
  refine F.ok sc_minus (fun vs H Q E h => ?_) (fun cdv A outer s H vs Q E hr h => ?_)
  · obtain ⟨p, q, a, b, c, d, rfl, _⟩ := h
    rfl
  · obtain ⟨p, q, a, b, c, d, rfl, h2, k⟩ := h
    obtain ⟨m1, m2, m3, m4, n0, ng, nl⟩ := ok_bin h2
    obtain ⟨hp, hq, _⟩ := h2
    refine ⟨_, (pss_one (ps_ret (pe_callF F_ratio (hr.mono (by decide)) rfl passN (pa_cons (pe_op op_sub (pe_op op_mulW (pe_ix ix_tup (pv 0) pe_int (fun _ _ => rfl)) (pe_ix ix_tup (pv 1) pe_int (fun _ _ => rfl))) (pe_op op_mulW (pe_ix ix_tup (pv 1) pe_int (fun _ _ => rfl)) (pe_ix ix_tup (pv 0) pe_int (fun _ _ => rfl)))) (pa_cons (pe_op op_mulW (pe_ix ix_tup (pv 0) pe_int (fun _ _ => rfl)) (pe_ix ix_tup (pv 1) pe_int (fun _ _ => rfl))) pa_nil))))), ?_⟩
    refine ⟨_, rfl, _, _, _, _, rfl, rfl, hp, rfl, _, rfl, _, _, _, _, rfl, rfl, hq, rfl, _, _, rfl, rfl, m1, _, rfl, _, _, _, _, rfl, rfl, hq, rfl, _, rfl, _, _, _, _, rfl, rfl, hp, rfl, _, _, rfl, rfl, m2, _, _, rfl, rfl, ?_⟩
    refine ⟨_, rfl, _, _, _, _, rfl, rfl, hp, rfl, _, rfl, _, _, _, _, rfl, rfl, hq, rfl, _, _, rfl, rfl, m3, _, _, rfl, nl, fun _ r H' e hr => k r H' e ?_, fun z => absurd z n0⟩
    rw [hr]
    unfold rat
    rw [if_neg ng]
    rfl
theorem ok_times {f : Addr} {fd : FuncData} (F : Fun K "times" "times" s_times f fd) (F_ratio : FnB P w K mg base (L2.CX P w) 2 "ratio" ["top", "bottom"] (spRatio CB)) : FnOk P w K mg base CX0 3 f fd ["one", "other"] (spBin K timesF) := by
  refine F.ok sc_times (fun vs H Q E h => ?_) (fun cdv A outer s H vs Q E hr h => ?_)
  · obtain ⟨p, q, a, b, c, d, rfl, _⟩ := h
    rfl
  · obtain ⟨p, q, a, b, c, d, rfl, h2, k⟩ := h
    obtain ⟨m1, m2, m3, m4, n0, ng, nl⟩ := ok_bin h2
    obtain ⟨hp, hq, _⟩ := h2
    refine ⟨_, (pss_one (ps_ret (pe_callF F_ratio (hr.mono (by decide)) rfl passN (pa_cons (pe_op op_mulW (pe_ix ix_tup (pv 0) pe_int (fun _ _ => rfl)) (pe_ix ix_tup (pv 1) pe_int (fun _ _ => rfl))) (pa_cons (pe_op op_mulW (pe_ix ix_tup (pv 0) pe_int (fun _ _ => rfl)) (pe_ix ix_tup (pv 1) pe_int (fun _ _ => rfl))) pa_nil))))), ?_⟩
    refine ⟨_, rfl, _, _, _, _, rfl, rfl, hp, rfl, _, rfl, _, _, _, _, rfl, rfl, hq, rfl, _, _, rfl, rfl, m4, ?_⟩
    refine ⟨_, rfl, _, _, _, _, rfl, rfl, hp, rfl, _, rfl, _, _, _, _, rfl, rfl, hq, rfl, _, _, rfl, rfl, m3, _, _, rfl, nl, fun _ r H' e hr => k r H' e ?_, fun z => absurd z n0⟩
    rw [hr]
    unfold rat
    rw [if_neg ng]
    rfl
theorem ok_is_less {f : Addr} {fd : FuncData} (F : Fun K "is_less" "is_less" s_is_less f fd) : FnOk P w K mg base CX0 1 f fd ["one", "other"] (spLess K) := by
  refine F.ok sc_is_less (fun vs H Q E h => ?_) (fun cdv A outer s H vs Q E hr h => ?_)
  · obtain ⟨p, q, a, b, c, d, rfl, _⟩ := h
    rfl
  · obtain ⟨p, q, a, b, c, d, rfl, h2, k⟩ := h
    obtain ⟨m1, m2, m3, m4, n0, ng, nl⟩ := ok_bin h2
    obtain ⟨hp, hq, _⟩ := h2
    refine ⟨_, (pss_one (ps_ret (pe_cmpR op_lt (pe_op op_mulW (pe_ix ix_tup (pv 0) pe_int (fun _ _ => rfl)) (pe_ix ix_tup (pv 1) pe_int (fun _ _ => rfl))) (pe_op op_mulW (pe_ix ix_tup (pv 1) pe_int (fun _ _ => rfl)) (pe_ix ix_tup (pv 0) pe_int (fun _ _ => rfl))) (nomark _)))), ?_⟩
    exact ⟨_, rfl, _, _, _, _, rfl, rfl, hp, rfl, _, rfl, _, _, _, _, rfl, rfl, hq, rfl, _, _, rfl, rfl, m1, _, rfl, _, _, _, _, rfl, rfl, hq, rfl, _, rfl, _, _, _, _, rfl, rfl, hp, rfl, _, _, rfl, rfl, m2, _, _, rfl, rfl, k⟩
theorem ok_magnitude {f : Addr} {fd : FuncData} (F : Fun K "magnitude" "magnitude" s_magnitude f fd) (T : Blt mg) : FnOk P w K mg base CX0 1 f fd ["one"] (spMag K) := by
  refine F.ok sc_magnitude (fun vs H Q E h => ?_) (fun cdv A outer s H vs Q E hr h => ?_)
  · obtain ⟨p, a, b, rfl, _⟩ := h
    rfl
  · obtain ⟨p, a, b, rfl, hp, k⟩ := h
    refine ⟨_, (pss_one (ps_ret (pe_tup (pa_cons (pe_callB call_abs (by rfl) T.m_abs (by decide +kernel) (pa_cons (pe_ix ix_tup (pv 0) pe_int (fun _ _ => rfl)) pa_nil)) (pa_cons (pe_ix ix_tup (pv 0) pe_int (fun _ _ => rfl)) pa_nil))))), ?_⟩
    refine ⟨_, rfl, _, _, _, _, rfl, rfl, hp, rfl, _, rfl, _, rfl, _, _, _, _, rfl, rfl, hp, rfl, by show 2 ≤ sizeLine; decide, fun r hr => ?_⟩
    exact k r _ ((Fr.refl [] H).new hr) upd_same
theorem ok_floor_of {f : Addr} {fd : FuncData} (F : Fun K "floor_of" "floor_of" s_floor_of f fd) : FnOk P w K mg base CX0 1 f fd ["one"] (spFloor K) := by
  refine F.ok sc_floor_of (fun vs H Q E h => ?_) (fun cdv A outer s H vs Q E hr h => ?_)
  · obtain ⟨p, a, b, rfl, _⟩ := h
    rfl
  · obtain ⟨p, a, b, rfl, hp, hb, lb, k⟩ := h
    refine ⟨_, (pss_one (ps_ret (pe_op op_fdivW (pe_ix ix_tup (pv 0) pe_int (fun _ _ => rfl)) (pe_ix ix_tup (pv 0) pe_int (fun _ _ => rfl))))), ?_⟩
    exact ⟨_, rfl, _, _, _, _, rfl, rfl, hp, rfl, _, rfl, _, _, _, _, rfl, rfl, hp, rfl, _, _, rfl, rfl, div_ok hb (Nat.lt_of_lt_of_le lb (ten_le (by decide))), k⟩
theorem ok_ceiling_of {f : Addr} {fd : FuncData} (F : Fun K "ceiling_of" "ceiling_of" s_ceiling_of f fd) : FnOk P w K mg base CX0 1 f fd ["one"] (spCeil K) := by
  refine F.ok sc_ceiling_of (fun vs H Q E h => ?_) (fun cdv A outer s H vs Q E hr h => ?_)
  · obtain ⟨p, a, b, rfl, _⟩ := h
    rfl
  · obtain ⟨p, a, b, rfl, hp, hb, lb, k⟩ := h
    refine ⟨_, (pss_one (ps_ret (pe_un un_neg (pe_op op_fdivW (pe_un un_neg (pe_ix ix_tup (pv 0) pe_int (fun _ _ => rfl))) (pe_ix ix_tup (pv 0) pe_int (fun _ _ => rfl)))))), ?_⟩
    exact ⟨_, rfl, _, _, _, _, rfl, rfl, hp, rfl, _, rfl, _, rfl, _, _, _, _, rfl, rfl, hp, rfl, _, _, rfl, rfl, div_ok hb (Nat.lt_of_lt_of_le lb (ten_le (by decide))), _, rfl, k⟩
end
section
variable {P : Program} {w : World} {K : PySem.W.Frag} {mg : Str → Option Value} {base : Heap} {CB : Addr}
theorem ok_law_lowest {f : Addr} {fd : FuncData} (F : Fun K "_law_lowest" "_law_lowest" s_law_lowest f fd) (T : Blt mg) : FnOk P w K mg base CX0 1 f fd ["top", "bottom"] spLow := by
  refine F.ok sc_law_lowest (fun vs H Q E h => ?_) (fun cdv A outer s H vs Q E hr h => ?_)
  · obtain ⟨t, b, rfl, _⟩ := h
    rfl
  · obtain ⟨t, b, rfl, hb, lb, k⟩ := h
    refine ⟨_, (pss_cons (ps_set (i := 2) sc_law_lowest.nd rfl (Or.inl rfl) (pe_callB call_abs (by rfl) T.m_abs (by decide +kernel) (pa_cons (pv 0) pa_nil)))
    (pss_cons (ps_set (i := 3) sc_law_lowest.nd rfl (Or.inl rfl) (pv 1))
    (pss_cons (ps_for PassesOwn.never rfl (pi_range1 (by rfl) T.m_range (pa_cons pe_int pa_nil)) (pg_name (i := 4) sc_law_lowest.nd rfl (Or.inl rfl))
      (pss_cons (ps_if (pt_cmpR op_eq (pv 3) pe_int (nomark _))
        (pss_one ps_break)
        pss_nil)
      (pss_cons (ps_set (i := 5) sc_law_lowest.nd rfl (Or.inl rfl) (pe_op op_mod (pe_callTy call_int1 (by rfl) T.m_int (by decide +kernel) (pa_cons (pv 2) pa_nil)) (pv 3)))
      (pss_cons (ps_set (i := 2) sc_law_lowest.nd rfl (Or.inl rfl) (pv 3))
      (pss_one (ps_set (i := 3) sc_law_lowest.nd rfl (Or.inl rfl) (pv 5)))))))
    (pss_one (ps_ret (pe_tup (pa_cons (pe_op op_fdivW (pv 0) (pv 2)) (pa_cons (pe_op op_fdivW (pv 1) (pv 2)) pa_nil)))))))), ?_⟩
    have e1 : (if t < 0 then -t else t) = ((t.natAbs : Nat) : Int) := by split <;> omega
    have e2 : ((b.natAbs : Nat) : Int) = b := by omega
    refine ⟨_, rfl, _, rfl, _, rfl, _, rfl, by decide, by decide, for_rng (n := 2000)
      (fun i σ H' => H' = H ∧ ∃ one two : Nat, Frc.At t.natAbs b.natAbs i one two ∧ ∃ o4 o5 : Option V, σ = [some (.int t), some (.int b), some (.int (one : Int)), some (.int (two : Int)), o4, o5])
      ⟨rfl, _, _, Frc.At.zero _ _, none, none, by rw [← e1, e2]; rfl⟩ ?_ ?_⟩
    · rintro i σ H' hi ⟨rfl, one, two, h, o4, o5, rfl⟩
      refine ⟨_, rfl, rfl, _, rfl, eq_if (fun e0 => ?_) fun ne => ?_⟩
      · have e0 : two = 0 := by omega
        subst e0
        have g := h.done
        have gp := Frc.gcd_pos (t := t) (b := b) (by omega)
        rw [← g] at gp
        have gl : one ≤ b.natAbs := by
          rw [g]
          exact Nat.gcd_le_right _ (by omega)
        have dv : ∀ i : Int, CDivW i ((one : Nat) : Int) := fun i => div_ok (by omega) (by
          have := ten_le (show 400 ≤ 700 by decide)
          rw [Int.natAbs_natCast]
          omega)
        refine ⟨_, rfl, _, rfl, _, _, rfl, rfl, dv _, _, rfl, _, rfl, _, _, rfl, rfl, dv _, by show 2 ≤ sizeLine; decide, fun p hp => ?_⟩
        refine k p _ ((Fr.refl [] _).new hp) ?_
        rw [upd_same]
        unfold Frc.low
        rw [← g]
      · exact ⟨_, rfl, .inl ⟨_, rfl, _, rfl, _, _, rfl, rfl, by omega, _, rfl, _, rfl, rfl, two, one % two, h.step (by omega), _, _, rfl⟩⟩
    · rintro σ H' ⟨rfl, one, two, h, o4, o5, rfl⟩
      exact (h.late lb).elim
theorem dig_in (c : Nat) : decide (c ∈ (Str.ofString "0123456789").cps.toList) = Frc.isD c := by
  have e : (Str.ofString "0123456789").cps.toList = [48, 49, 50, 51, 52, 53, 54, 55, 56, 57] := (tl_ofString _).trans (by decide)
  rw [e]
  unfold Frc.isD
  by_cases h : 48 ≤ c ∧ c ≤ 57
  · have : c = 48 ∨ c = 49 ∨ c = 50 ∨ c = 51 ∨ c = 52 ∨ c = 53 ∨ c = 54 ∨ c = 55 ∨ c = 56 ∨ c = 57 := by omega
    rcases this with rfl | rfl | rfl | rfl | rfl | rfl | rfl | rfl | rfl | rfl <;> decide
  · have h1 : c ∉ [48, 49, 50, 51, 52, 53, 54, 55, 56, 57] := by
      simp only [List.mem_cons, List.not_mem_nil, or_false]
      omega
    rw [decide_eq_false h1]
    by_cases h2 : 48 ≤ c
    · rw [decide_eq_true h2, decide_eq_false (show ¬ c ≤ 57 by omega)]
      rfl
    · rw [decide_eq_false h2]
      rfl
theorem ok_digits_value {f : Addr} {fd : FuncData} (F : Fun K "digits_value" "digits_value" s_digits_value f fd) (T : Txt1 P K mg CB) : FnOk P w K mg base CX0 1 f fd ["text"] spDig := by
  refine F.ok sc_digits_value (fun vs H Q E h => ?_) (fun cdv A outer s H vs Q E hr h => ?_)
  · obtain ⟨l, rfl, _⟩ := h
    rfl
  · obtain ⟨l, rfl, hl, k⟩ := h
    obtain ⟨tD, gDIG⟩ := T.gD
    obtain ⟨tM, gMOST⟩ := T.gM
    refine ⟨_, (pss_cons (ps_if (PW.pt (pw_or (pt_cmpR op_eq (pv 0) pe_str (nomark _)) (pw_or (pt_cmpR op_gt (pe_callB call_len_str (by rfl) T.m_len (by decide +kernel) (pa_cons (pv 0) pa_nil)) (pe_glob (v := .int 300) rfl gMOST ⟨_, rfl⟩) (nomark _)) (pw_or1 (PW.pt (pw_and (pt_cmpR op_eq (pe_ix ix_str (pv 0) pe_int (fun _ _ => rfl)) pe_str (nomark _)) (pw_and1 (pt_cmpR op_gt (pe_callB call_len_str (by rfl) T.m_len (by decide +kernel) (pa_cons (pv 0) pa_nil)) pe_int (nomark _)))))))))
      (pss_one (ps_ret (pe_un un_neg pe_int)))
      pss_nil)
    (pss_cons (ps_for PassesOwn.never rfl (pi_str (pv 0)) (pg_name (i := 1) sc_digits_value.nd rfl (Or.inl rfl))
      (pss_one (ps_if (pt_cmpR op_notIn_sign (pv 1) (pe_glob (v := .str (Str.ofString "0123456789")) rfl gDIG ⟨_, rfl⟩) rfl)
        (pss_one (ps_ret (pe_un un_neg pe_int)))
        pss_nil)))
    (pss_one (ps_ret (pe_callTy call_int_str (by rfl) T.m_int (by decide +kernel) (pa_cons (pv 0) pa_nil)))))), ?_⟩
    unfold Frc.dig at k
    refine tOr_p2 (p := l = []) (q := 300 < l.length ∨ (l.head? = some 48 ∧ 1 < l.length)) (fun R h => ⟨_, rfl, rfl, _, rfl, by rw [lit_eq (b := []) (by decide)]; exact h⟩) (fun ne R h => ?_) ?_
    · refine tOr_p2 (p := 300 < l.length) (q := l.head? = some 48 ∧ 1 < l.length) (fun R h => ⟨_, rfl, _, rfl, by rw [mk_len]; exact line_le (by omega), _, _, rfl, rfl, _, rfl, ?_⟩) (fun _ R h => ?_) h
      · have e : decide ((300 : Int) < (((mk l).length : Nat) : Int)) = decide (300 < l.length) := by
          rw [mk_len]
          exact decide_eq_decide.mpr (by omega)
        rw [e]
        exact h
      · cases l with
        | nil => exact absurd rfl ne
        | cons c cs =>
          refine tAnd_p (p := (c :: cs).head? = some 48) (q := 1 < (c :: cs).length) (fun R h => ⟨_, rfl, _, _, c, rfl, rfl, by rw [mk_len]; exact line_le (by omega), atI_nat (j := 0) rfl, rfl, _, rfl, ?_⟩) (fun _ R h => ⟨_, rfl, _, rfl, by rw [mk_len]; exact line_le (by omega), _, _, rfl, rfl, _, rfl, ?_⟩) h
          · have e : decide (V.str (⟨#[c]⟩ : Str) = V.str (Str.ofString "0")) = decide ((c :: cs).head? = some 48) := by
              rw [show (⟨#[c]⟩ : Str) = mk [c] from rfl, lit1_eq (b := 48) (by decide)]
              exact decide_eq_decide.mpr (by simp)
            rw [e]
            exact h
          · have e : decide ((1 : Int) < (((mk (c :: cs)).length : Nat) : Int)) = decide (1 < (c :: cs).length) := by
              rw [mk_len]
              exact decide_eq_decide.mpr (by omega)
            rw [e]
            exact h
    · refine dec_iff (fun bad => ?_) fun good => ?_
      · rw [if_pos bad] at k
        exact ⟨_, rfl, k⟩
      · rw [if_neg good] at k
        have hl3 : l.length ≤ 300 := by omega
        refine ⟨_, rfl, _, rfl, for_sgn (l := l) (fun j σ H'' => H'' = H ∧ (l.take j).all Frc.isD = true ∧ ∃ o : Option V, σ = [some (vS l), o]) ⟨rfl, rfl, _, rfl⟩ ?_ ?_⟩
        · rintro j c σ H'' hc ⟨rfl, ok2, o, rfl⟩
          refine ⟨_, rfl, c, _, rfl, rfl, ?_⟩
          rw [dig_in]
          refine ⟨_, rfl, ?_⟩
          cases ho : Frc.isD c with
          | true =>
            refine ⟨rfl, ?_, _, rfl⟩
            rw [take_succ hc, List.all_append, ok2, List.all_cons, ho]
            rfl
          | false =>
            have : l.all Frc.isD = false := by
              cases h : l.all Frc.isD with
              | false => rfl
              | true =>
                rw [List.all_eq_true] at h
                rw [h c (List.mem_of_getElem? hc)] at ho
                cases ho
            rw [if_neg (by rw [this]; decide)] at k
            exact ⟨_, rfl, k⟩
        · rintro σ H'' ⟨rfl, ok2, o, rfl⟩
          rw [List.take_length] at ok2
          rw [if_pos ok2] at k
          exact ⟨_, rfl, _, _, rfl, int_dig ok2 (fun z => good (.inl z)) (by omega), by rw [mk_len]; omega, k⟩
theorem ok_law_digits {f : Addr} {fd : FuncData} (F : Fun K "_law_digits" "_law_digits" s_law_digits f fd) (T : Blt mg) : FnOk P w K mg base CX0 1 f fd ["word"] spDig := by
  refine F.ok sc_law_digits (fun vs H Q E h => ?_) (fun cdv A outer s H vs Q E hr h => ?_)
  · obtain ⟨l, rfl, _⟩ := h
    rfl
  · obtain ⟨l, rfl, hl, k⟩ := h
    refine ⟨_, (pss_cons (ps_if (PW.pt (pw_or (pt_cmpR op_eq (pv 0) pe_str (nomark _)) (pw_or (pt_cmpR op_gt (pe_callB call_len_str (by rfl) T.m_len (by decide +kernel) (pa_cons (pv 0) pa_nil)) pe_int (nomark _)) (pw_or1 (PW.pt (pw_and (pt_cmpR op_eq (pe_ix ix_str (pv 0) pe_int (fun _ _ => rfl)) pe_str (nomark _)) (pw_and1 (pt_cmpR op_gt (pe_callB call_len_str (by rfl) T.m_len (by decide +kernel) (pa_cons (pv 0) pa_nil)) pe_int (nomark _)))))))))
      (pss_one (ps_ret (pe_un un_neg pe_int)))
      pss_nil)
    (pss_cons (ps_for PassesOwn.never rfl (pi_str (pv 0)) (pg_name (i := 1) sc_law_digits.nd rfl (Or.inl rfl))
      (pss_one (ps_if (pt_cmpR op_notIn_sign (pv 1) pe_str rfl)
        (pss_one (ps_ret (pe_un un_neg pe_int)))
        pss_nil)))
    (pss_one (ps_ret (pe_callTy call_int_str (by rfl) T.m_int (by decide +kernel) (pa_cons (pv 0) pa_nil)))))), ?_⟩
    unfold Frc.dig at k
    refine tOr_p2 (p := l = []) (q := 300 < l.length ∨ (l.head? = some 48 ∧ 1 < l.length)) (fun R h => ⟨_, rfl, rfl, _, rfl, by rw [lit_eq (b := []) (by decide)]; exact h⟩) (fun ne R h => ?_) ?_
    · refine tOr_p2 (p := 300 < l.length) (q := l.head? = some 48 ∧ 1 < l.length) (fun R h => ⟨_, rfl, _, rfl, by rw [mk_len]; exact line_le (by omega), _, _, rfl, rfl, _, rfl, ?_⟩) (fun _ R h => ?_) h
      · have e : decide ((300 : Int) < (((mk l).length : Nat) : Int)) = decide (300 < l.length) := by
          rw [mk_len]
          exact decide_eq_decide.mpr (by omega)
        rw [e]
        exact h
      · cases l with
        | nil => exact absurd rfl ne
        | cons c cs =>
          refine tAnd_p (p := (c :: cs).head? = some 48) (q := 1 < (c :: cs).length) (fun R h => ⟨_, rfl, _, _, c, rfl, rfl, by rw [mk_len]; exact line_le (by omega), atI_nat (j := 0) rfl, rfl, _, rfl, ?_⟩) (fun _ R h => ⟨_, rfl, _, rfl, by rw [mk_len]; exact line_le (by omega), _, _, rfl, rfl, _, rfl, ?_⟩) h
          · have e : decide (V.str (⟨#[c]⟩ : Str) = V.str (Str.ofString "0")) = decide ((c :: cs).head? = some 48) := by
              rw [show (⟨#[c]⟩ : Str) = mk [c] from rfl, lit1_eq (b := 48) (by decide)]
              exact decide_eq_decide.mpr (by simp)
            rw [e]
            exact h
          · have e : decide ((1 : Int) < (((mk (c :: cs)).length : Nat) : Int)) = decide (1 < (c :: cs).length) := by
              rw [mk_len]
              exact decide_eq_decide.mpr (by omega)
            rw [e]
            exact h
    · refine dec_iff (fun bad => ?_) fun good => ?_
      · rw [if_pos bad] at k
        exact ⟨_, rfl, k⟩
      · rw [if_neg good] at k
        have hl3 : l.length ≤ 300 := by omega
        refine ⟨_, rfl, _, rfl, for_sgn (l := l) (fun j σ H'' => H'' = H ∧ (l.take j).all Frc.isD = true ∧ ∃ o : Option V, σ = [some (vS l), o]) ⟨rfl, rfl, _, rfl⟩ ?_ ?_⟩
        · rintro j c σ H'' hc ⟨rfl, ok2, o, rfl⟩
          refine ⟨_, rfl, c, _, rfl, rfl, ?_⟩
          rw [dig_in]
          refine ⟨_, rfl, ?_⟩
          cases ho : Frc.isD c with
          | true =>
            refine ⟨rfl, ?_, _, rfl⟩
            rw [take_succ hc, List.all_append, ok2, List.all_cons, ho]
            rfl
          | false =>
            have : l.all Frc.isD = false := by
              cases h : l.all Frc.isD with
              | false => rfl
              | true =>
                rw [List.all_eq_true] at h
                rw [h c (List.mem_of_getElem? hc)] at ho
                cases ho
            rw [if_neg (by rw [this]; decide)] at k
            exact ⟨_, rfl, k⟩
        · rintro σ H'' ⟨rfl, ok2, o, rfl⟩
          rw [List.take_length] at ok2
          rw [if_pos ok2] at k
          exact ⟨_, rfl, _, _, rfl, int_dig ok2 (fun z => good (.inl z)) (by omega), by rw [mk_len]; omega, k⟩
end
/-! read_ratio(text): slots 0 text 1 body 2 parts 3 top 4 bottom -/
abbrev s_read_ratio : Stmt := top 19
abbrev n_read_ratio : List Str := ["text", "body", "parts", "top", "bottom"]
theorem sc_read_ratio : FnScope n_read_ratio ["text"] (defScope s_read_ratio) := ⟨rfl, rfl, rfl, by decide +kernel, rfl, by decide +kernel, by decide +kernel⟩
/-! _law_reads(text): slots 0 text 1 body 2 parts 3 top 4 bottom -/
abbrev s_law_reads : Stmt := top 31
abbrev n_law_reads : List Str := ["text", "body", "parts", "top", "bottom"]
theorem sc_law_reads : FnScope n_law_reads ["text"] (defScope s_law_reads) := ⟨rfl, rfl, rfl, by decide +kernel, rfl, by decide +kernel, by decide +kernel⟩
/-- the text of a fraction -/
def shw (a b : Int) : List Nat := if b = 1 then numT a else numT a ++ 47 :: numT b
def spShow (K : PySem.W.Frag) : Sp := fun vs H Q _ => ∃ (p : Addr) (a b : Int), vs = [.ref p] ∧ SqT K H p [.int a, .int b] ∧ a.natAbs < 10 ^ 570 ∧ b.natAbs < 10 ^ 570 ∧ Q (vS (shw a b)) H
def bodyOf (l : List Nat) : List Nat := if l.take 1 = [45] then l.drop 1 else l
def partsOf (l : List Nat) : List (List Nat) := Lns.spA 47 [] (bodyOf l)
def topOf (l : List Nat) : Int := Frc.dig ((partsOf l).getD 0 [])
def botOf (l : List Nat) : Int := if (partsOf l).length = 2 then Frc.dig ((partsOf l).getD 1 []) else 1
def badOf (l : List Nat) : Prop := ((partsOf l).length = 2 ∧ (botOf l < 2 ∨ ((Nat.gcd (topOf l).natAbs (botOf l).natAbs : Nat) : Int) ≠ 1)) ∨ topOf l < 0 ∨ 2 < (partsOf l).length ∨ l.take 2 = [45, 48]
def resOf (l : List Nat) : Int × Int := (if l.take 1 = [45] then -topOf l else topOf l, botOf l)
def spRead (CB : Addr) : Sp := fun vs H Q E => ∃ l : List Nat, vs = [vS l] ∧ l.length ≤ 100000 ∧ (¬ badOf l → ∀ (p : Addr) (H' : Hp), Fr [] H H' → H' p = some (.tup [.int (resOf l).1, .int (resOf l).2]) → Q (.ref p) H') ∧
  (badOf l → ∀ (d : Addr) (H' : Hp), Fr [] H H' → H' d = some (.xd [(("value" : Str), vS l)]) → E (.ref CB) (some d) H')
def spReads : Sp := fun vs H Q _ => ∃ l : List Nat, vs = [vS l] ∧ l.length ≤ 100000 ∧ ∀ (v : V) (H' : Hp), Fr [] H H' → ((badOf l ∧ v = .non) ∨ (¬ badOf l ∧ ∃ p : Addr, v = .ref p ∧ H' p = some (.tup [.int (resOf l).1, .int (resOf l).2]))) → Q v H'
theorem body_len (l : List Nat) : (bodyOf l).length ≤ l.length := by
  unfold bodyOf
  split
  · rw [List.length_drop]
    omega
  · exact Nat.le_refl _
theorem parts_ne (l : List Nat) : 0 < (partsOf l).length := List.length_pos_iff.mpr (Lns.spA_ne _ _ _)
theorem part_at {l : List Nat} {i : Nat} (h : i < (partsOf l).length) : (partsOf l)[i]? = some ((partsOf l).getD i []) := by
  rw [List.getD_eq_getElem?_getD, List.getElem?_eq_getElem h]
  rfl
theorem part_len {l : List Nat} {i : Nat} (h : i < (partsOf l).length) : ((partsOf l).getD i []).length ≤ l.length := by
  have := Lns.spA_mem 47 (bodyOf l) [] _ (List.mem_of_getElem? (part_at h))
  have b := body_len l
  rw [List.length_nil, Nat.zero_add] at this
  exact Nat.le_trans this b
theorem split_parts (l : List Nat) : (Txt.split (mk (bodyOf l)) (Str.ofString "/")).map V.str = (partsOf l).map vS := by
  rw [split_spA (mk (bodyOf l)) _ 47 (by rw [tl_ofString]; decide) (by decide), List.map_map]
  rfl
/-- the first part begins the text -/
theorem head_pre : ∀ (s acc : List Nat), ∃ r, acc ++ s = (Lns.spA 47 acc s).getD 0 [] ++ r
  | [], acc => ⟨[], by simp [Lns.spA]⟩
  | a :: s, acc => by
    by_cases h : a = 47
    · rw [h, Lns.spA_hit]
      exact ⟨47 :: s, by simp⟩
    · rw [Lns.spA_miss _ _ h]
      obtain ⟨r, e⟩ := head_pre s (acc ++ [a])
      exact ⟨r, by rw [← e]; simp⟩
/-- -0 ahead, told in two ways -/
theorem minus0 {l : List Nat} (h : 0 ≤ topOf l) : (topOf l = 0 ∧ l.take 1 = [45]) ↔ l.take 2 = [45, 48] := by
  constructor
  · rintro ⟨h0, h1⟩
    have hp := Frc.dig_zero.mp h0
    have hb : bodyOf l = l.drop 1 := if_pos h1
    obtain ⟨r, e⟩ := head_pre (bodyOf l) []
    unfold partsOf at hp
    rw [hp, hb] at e
    cases l with
    | nil => simp at h1
    | cons a t =>
      have ha : a = 45 := by simpa using h1
      have ht : t = 48 :: r := by simpa using e
      rw [ha, ht]
      rfl
  · intro h2
    have h1 : l.take 1 = [45] := by
      cases l with
      | nil => simp at h2
      | cons a t =>
        cases t with
        | nil => simp at h2
        | cons b t => simp at h2 ⊢; exact h2.1
    refine ⟨?_, h1⟩
    have hb : bodyOf l = l.drop 1 := if_pos h1
    have hd : ∃ t, l.drop 1 = 48 :: t := by
      cases l with
      | nil => simp at h2
      | cons a t =>
        cases t with
        | nil => simp at h2
        | cons b t => exact ⟨t, by simp at h2 ⊢; exact h2.2⟩
    obtain ⟨t, ht⟩ := hd
    unfold topOf partsOf at h ⊢
    rw [hb, ht] at h ⊢
    rw [Lns.spA_miss _ _ (by decide)] at h ⊢
    obtain ⟨x, r, e⟩ := Lns.spA_head 47 t ([] ++ [48])
    rw [e] at h ⊢
    have eg : (([] ++ [48] ++ x) :: r).getD 0 [] = 48 :: x := rfl
    rw [eg] at h ⊢
    cases x with
    | nil => decide
    | cons y ys =>
      have : Frc.dig (48 :: y :: ys) = -1 := by
        unfold Frc.dig
        rw [if_pos (.inr (.inr ⟨rfl, by simp⟩))]
      omega
section
variable {P : Program} {w : World} {K : PySem.W.Frag} {mg : Str → Option Value} {base : Heap} {CB : Addr}
theorem ok_show_ratio {f : Addr} {fd : FuncData} (F : Fun K "show_ratio" "show_ratio" s_show_ratio f fd) (T : Blt mg) : FnOk P w K mg base CX0 1 f fd ["one"] (spShow K) := by
  refine F.ok sc_show_ratio (fun vs H Q E h => ?_) (fun cdv A outer s H vs Q E hr h => ?_)
  · obtain ⟨p, a, b, rfl, _⟩ := h
    rfl
  · obtain ⟨p, a, b, rfl, hp, la, lb, k⟩ := h
    refine ⟨_, (pss_cons (ps_if (pt_cmpR op_eq (pe_ix ix_tup (pv 0) pe_int (fun _ _ => rfl)) pe_int (nomark _))
      (pss_one (ps_ret (pe_callTy call_str_int (by rfl) T.m_str (by decide +kernel) (pa_cons (pe_ix ix_tup (pv 0) pe_int (fun _ _ => rfl)) pa_nil))))
      pss_nil)
    (pss_one (ps_ret (pe_op op_add_str (pe_op op_add_str (pe_callTy call_str_int (by rfl) T.m_str (by decide +kernel) (pa_cons (pe_ix ix_tup (pv 0) pe_int (fun _ _ => rfl)) pa_nil)) pe_str) (pe_callTy call_str_int (by rfl) T.m_str (by decide +kernel) (pa_cons (pe_ix ix_tup (pv 0) pe_int (fun _ _ => rfl)) pa_nil)))))), ?_⟩
    have na := numT_len (by decide) la
    have nb := numT_len (by decide) lb
    refine ⟨_, rfl, _, _, _, _, rfl, rfl, hp, rfl, rfl, _, rfl, eq_if (fun e => ?_) fun ne => ?_⟩
    · unfold shw at k
      rw [if_pos e] at k
      have k : Q (.str (mk (numT a))) H := k
      rw [← mk_num] at k
      exact ⟨_, rfl, _, _, _, _, rfl, rfl, hp, rfl, _, rfl, log_1920 la, k⟩
    · unfold shw at k
      have es : Str.ofString "/" = mk [47] := ext_tl (by rw [tl_ofString]; rfl)
      have e : mk (numT a ++ 47 :: numT b) = Str.ofString (toString a) ++ Str.ofString "/" ++ Str.ofString (toString b) := by
        rw [mk_num a, mk_num b, es, mk_app, mk_app]
        simp
      have l1 : (Str.ofString (toString a)).length ≤ 571 := by rw [mk_num, mk_len]; exact na
      have l2 : (Str.ofString (toString b)).length ≤ 571 := by rw [mk_num, mk_len]; exact nb
      have l3 : (Str.ofString "/").length = 1 := by rw [es, mk_len]; rfl
      rw [if_neg ne] at k
      have k : Q (.str (mk (numT a ++ 47 :: numT b))) H := k
      rw [e] at k
      exact ⟨_, rfl, _, _, _, _, rfl, rfl, hp, rfl, _, rfl, log_1920 la, _, _, rfl, rfl, line_le (by omega), _, rfl, _, _, _, _, rfl, rfl, hp, rfl, _, rfl, log_1920 lb, _, _, rfl, rfl, line_le (by rw [str_app_len]; omega), k⟩
theorem ok_law_shown {f : Addr} {fd : FuncData} (F : Fun K "_law_shown" "_law_shown" s_law_shown f fd) (T : Blt mg) : FnOk P w K mg base CX0 1 f fd ["one"] (spShow K) := by
  refine F.ok sc_law_shown (fun vs H Q E h => ?_) (fun cdv A outer s H vs Q E hr h => ?_)
  · obtain ⟨p, a, b, rfl, _⟩ := h
    rfl
  · obtain ⟨p, a, b, rfl, hp, la, lb, k⟩ := h
    refine ⟨_, (pss_cons (ps_if (pt_cmpR op_eq (pe_ix ix_tup (pv 0) pe_int (fun _ _ => rfl)) pe_int (nomark _))
      (pss_one (ps_ret (pe_callTy call_str_int (by rfl) T.m_str (by decide +kernel) (pa_cons (pe_ix ix_tup (pv 0) pe_int (fun _ _ => rfl)) pa_nil))))
      pss_nil)
    (pss_one (ps_ret (pe_op op_add_str (pe_op op_add_str (pe_callTy call_str_int (by rfl) T.m_str (by decide +kernel) (pa_cons (pe_ix ix_tup (pv 0) pe_int (fun _ _ => rfl)) pa_nil)) pe_str) (pe_callTy call_str_int (by rfl) T.m_str (by decide +kernel) (pa_cons (pe_ix ix_tup (pv 0) pe_int (fun _ _ => rfl)) pa_nil)))))), ?_⟩
    have na := numT_len (by decide) la
    have nb := numT_len (by decide) lb
    refine ⟨_, rfl, _, _, _, _, rfl, rfl, hp, rfl, rfl, _, rfl, eq_if (fun e => ?_) fun ne => ?_⟩
    · unfold shw at k
      rw [if_pos e] at k
      have k : Q (.str (mk (numT a))) H := k
      rw [← mk_num] at k
      exact ⟨_, rfl, _, _, _, _, rfl, rfl, hp, rfl, _, rfl, log_1920 la, k⟩
    · unfold shw at k
      have es : Str.ofString "/" = mk [47] := ext_tl (by rw [tl_ofString]; rfl)
      have e : mk (numT a ++ 47 :: numT b) = Str.ofString (toString a) ++ Str.ofString "/" ++ Str.ofString (toString b) := by
        rw [mk_num a, mk_num b, es, mk_app, mk_app]
        simp
      have l1 : (Str.ofString (toString a)).length ≤ 571 := by rw [mk_num, mk_len]; exact na
      have l2 : (Str.ofString (toString b)).length ≤ 571 := by rw [mk_num, mk_len]; exact nb
      have l3 : (Str.ofString "/").length = 1 := by rw [es, mk_len]; rfl
      rw [if_neg ne] at k
      have k : Q (.str (mk (numT a ++ 47 :: numT b))) H := k
      rw [e] at k
      exact ⟨_, rfl, _, _, _, _, rfl, rfl, hp, rfl, _, rfl, log_1920 la, _, _, rfl, rfl, line_le (by omega), _, rfl, _, _, _, _, rfl, rfl, hp, rfl, _, rfl, log_1920 lb, _, _, rfl, rfl, line_le (by rw [str_app_len]; omega), k⟩
theorem ok_read_ratio {f : Addr} {fd : FuncData} (F : Fun K "read_ratio" "read_ratio" s_read_ratio f fd) (T : Txt1 P K mg CB) (F_digits_value : FnB P w K mg base CX0 1 "digits_value" ["text"] spDig) : FnOk P w K mg base (L2.CX P w) 2 f fd ["text"] (spRead CB) := by
  refine F.okX sc_read_ratio (fun vs H Q E h => ?_) (fun cdv A outer s H vs Q E hr h => ?_)
  · obtain ⟨l, rfl, _⟩ := h
    rfl
  · obtain ⟨l, rfl, hl, kQ, kE⟩ := h
    obtain ⟨fI, TB⟩ := T.bad
    refine ⟨_, (pss_cons (ps_set (i := 1) sc_read_ratio.nd rfl (Or.inl rfl) (pv 0))
    (Evl.pss_cut (ps_if (pt_cmpR op_eq (pe_slice sl_str (pv 0) po_none (po_some pe_int)) pe_str (nomark _))
      (pss_one (ps_set (i := 1) sc_read_ratio.nd rfl (Or.inl rfl) (pe_slice sl_str (pv 0) (po_some pe_int) po_none)))
      pss_nil)
    (pss_cons (ps_set (i := 2) sc_read_ratio.nd rfl (Or.inl rfl) (pe_split (pv 1) pe_str))
    (pss_cons (ps_set (i := 3) sc_read_ratio.nd rfl (Or.inl rfl) (pe_callF F_digits_value (hr.mono (by decide)) rfl pass0 (pa_cons (pe_ix ix_list (pv 2) pe_int (fun _ _ => rfl)) pa_nil)))
    (pss_cons (ps_set (i := 4) sc_read_ratio.nd rfl (Or.inl rfl) pe_int)
    (Evl.pss_cut (ps_if (pt_cmpR op_eq (pe_callB call_len_seq (by rfl) T.m_len (by decide +kernel) (pa_cons (pv 2) pa_nil)) pe_int (nomark _))
      (pss_cons (ps_set (i := 4) sc_read_ratio.nd rfl (Or.inl rfl) (pe_callF F_digits_value (hr.mono (by decide)) rfl pass0 (pa_cons (pe_ix ix_list (pv 2) pe_int (fun _ _ => rfl)) pa_nil)))
      (pss_one (ps_if (PW.pt (pw_or (pt_cmpR op_lt (pv 4) pe_int (nomark _)) (pw_or1 (pt_cmpR op_ne (pe_callBfun cr_gcd rfl T.g_gcd (pa_cons (pv 3) (pa_cons (pv 4) pa_nil))) pe_int (nomark _)))))
        (pss_one (ps_raiseErr rfl TB S_BadNumber hr (takes_of rfl rfl rfl rfl) (pa_cons (pv 0) pa_nil)))
        pss_nil)))
      pss_nil)
    (pss_cons (ps_if (PW.pt (pw_or (pt_cmpR op_lt (pv 3) pe_int (nomark _)) (pw_or (pt_cmpR op_gt (pe_callB call_len_seq (by rfl) T.m_len (by decide +kernel) (pa_cons (pv 2) pa_nil)) pe_int (nomark _)) (pw_or1 (pt_cmpR op_eq (pe_slice sl_str (pv 0) po_none (po_some pe_int)) pe_str (nomark _))))))
      (pss_one (ps_raiseErr rfl TB S_BadNumber hr (takes_of rfl rfl rfl rfl) (pa_cons (pv 0) pa_nil)))
      pss_nil)
    (pss_cons (ps_if (pt_cmpR op_eq (pe_slice sl_str (pv 0) po_none (po_some pe_int)) pe_str (nomark _))
      (pss_one (ps_ret (pe_tup (pa_cons (pe_un un_neg (pv 3)) (pa_cons (pv 4) pa_nil)))))
      pss_nil)
    (pss_one (ps_ret (pe_tup (pa_cons (pv 3) (pa_cons (pv 4) pa_nil))))))))))))), ?_⟩
    have c1 : cutS (mk l) none (some 1) = mk (l.take 1) := cut_take l 1
    have c2 : cutS (mk l) none (some 2) = mk (l.take 2) := cut_take l 2
    have d1 : cutS (mk l) (some 1) none = mk (l.drop 1) := cut_dropS l 1
    have ml : (mk l).length ≤ sizeLine := by rw [mk_len]; exact line_le (by omega)
    have bl := body_len l
    have pne := parts_ne l
    refine ⟨_, rfl, ?_⟩
    refine ⟨fun σ' H' => H' = H ∧ σ' = [some (vS l), some (vS (bodyOf l)), none, none, none], ?_, ?_⟩
    · refine ⟨_, rfl, _, rfl, _, rfl, ml, rfl, _, rfl, ?_⟩
      rw [c1]
      refine lit_if (b := [45]) (by decide) (fun e => ?_) fun ne => ⟨rfl, by unfold bodyOf; rw [if_neg ne]; rfl⟩
      refine ⟨_, rfl, _, rfl, _, rfl, ml, rfl, ?_⟩
      rw [d1]
      unfold bodyOf
      rw [if_pos e]
      rfl
    rintro σ' H' ⟨rfl, rfl⟩
    refine ⟨_, rfl, ⟨_, rfl⟩, _, _, rfl, rfl, by decide +kernel, by rw [mk_len]; exact line_le (by omega), fun pp hpp => ?_⟩
    rw [split_parts]
    have e1 := (Fr.refl [] H').new (o := .lst ((partsOf l).map vS)) hpp
    have h1 : (upd H' pp (.lst ((partsOf l).map vS))) pp = some (.lst ((partsOf l).map vS)) := upd_same
    generalize upd H' pp (.lst ((partsOf l).map vS)) = H1 at e1 h1 ⊢
    have lm : ((partsOf l).map vS).length = (partsOf l).length := List.length_map _
    refine ⟨_, rfl, _, _, _, _, rfl, rfl, SqL.of h1, at_map (j := 0) (part_at pne), _, rfl, by have := part_len pne; omega, ?_⟩
    refine ⟨fun σ' H' => H' = H1 ∧ ¬ ((partsOf l).length = 2 ∧ (botOf l < 2 ∨ ((Nat.gcd (topOf l).natAbs (botOf l).natAbs : Nat) : Int) ≠ 1)) ∧ σ' = [some (vS l), some (vS (bodyOf l)), some (.ref pp), some (.int (topOf l)), some (.int (botOf l))], ?_, ?_⟩
    · refine ⟨_, rfl, _, _, rfl, .inl (SqL.of h1), rfl, _, rfl, eq_if (fun e => ?_) fun ne => ?_⟩
      · have e : (partsOf l).length = 2 := by rw [lm] at e; omega
        have hb : botOf l = Frc.dig ((partsOf l).getD 1 []) := if_pos e
        refine ⟨_, rfl, _, _, _, _, rfl, rfl, SqL.of h1, at_map (j := 1) (part_at (by omega)), _, rfl, by have := part_len (l := l) (i := 1) (by omega); omega, ?_⟩
        dsimp only [gName]
        refine tOr_p (p := botOf l < 2) (q := ((Nat.gcd (topOf l).natAbs (botOf l).natAbs : Nat) : Int) ≠ 1) (fun R h => ⟨_, rfl, _, _, rfl, rfl, _, rfl, by rw [← hb]; exact h⟩) (fun R h => ⟨_, rfl, _, rfl, _, _, rfl, rfl, _, rfl, ?_⟩) ?_
        · rw [int_eq, ← hb]
          have e : decide (((Nat.gcd (topOf l).natAbs (botOf l).natAbs : Nat) : Int) ≠ 1) = !decide (((Nat.gcd (topOf l).natAbs (botOf l).natAbs : Nat) : Int) = 1) := by simp
          rw [e] at h
          exact h
        · refine dec_iff (fun bad => ?_) fun good => ?_
          · exact ⟨_, rfl, rfl, fun d hd => kE (.inl ⟨e, bad⟩) d _ (e1.new hd) (by rw [upd_same]; rfl)⟩
          · exact ⟨rfl, fun z => good z.2, by rw [hb]; rfl⟩
      · have ne : (partsOf l).length ≠ 2 := by rw [lm] at ne; omega
        have hb : botOf l = 1 := if_neg ne
        exact ⟨rfl, fun z => ne z.1, by rw [hb]; rfl⟩
    rintro σ' H2 ⟨rfl, good, rfl⟩
    refine tOr_p (p := topOf l < 0) (q := 2 < (partsOf l).length ∨ l.take 2 = [45, 48]) (fun R h => ⟨_, rfl, _, _, rfl, rfl, _, rfl, h⟩) (fun R h => ?_) ?_
    · refine tOr_p (p := 2 < (partsOf l).length) (q := l.take 2 = [45, 48]) (fun R h => ⟨_, rfl, _, _, rfl, .inl (SqL.of h1), _, _, rfl, rfl, _, rfl, ?_⟩) (fun R h => ⟨_, rfl, _, rfl, _, rfl, ml, rfl, _, rfl, ?_⟩) h
      · have e : decide ((2 : Int) < ((((partsOf l).map vS).length : Nat) : Int)) = decide (2 < (partsOf l).length) := by
          rw [lm]
          exact decide_eq_decide.mpr (by omega)
        rw [e]
        exact h
      · rw [c2, lit_eq (b := [45, 48]) (by decide)]
        exact h
    refine dec_iff (fun bad => ?_) fun ok => ?_
    · exact ⟨_, rfl, rfl, fun d hd => kE (.inr bad) d _ (e1.new hd) (by rw [upd_same]; rfl)⟩
    have kQ := kQ fun z => z.elim good ok
    refine ⟨_, rfl, _, rfl, _, rfl, ml, rfl, _, rfl, ?_⟩
    rw [c1]
    refine lit_if (b := [45]) (by decide) (fun e => ?_) fun ne => ?_
    · refine ⟨_, rfl, _, rfl, _, rfl, by show 2 ≤ sizeLine; decide, fun p hp => kQ p _ (e1.new hp) ?_⟩
      rw [upd_same]
      unfold resOf
      rw [if_pos e]
    · refine ⟨_, rfl, _, rfl, by show 2 ≤ sizeLine; decide, fun p hp => kQ p _ (e1.new hp) ?_⟩
      rw [upd_same]
      unfold resOf
      rw [if_neg ne]
theorem ok_law_reads {f : Addr} {fd : FuncData} (F : Fun K "_law_reads" "_law_reads" s_law_reads f fd) (T : Blt mg) (F_law_digits : FnB P w K mg base CX0 1 "_law_digits" ["word"] spDig) (F_law_lowest : FnB P w K mg base CX0 1 "_law_lowest" ["top", "bottom"] spLow) :
    FnOk P w K mg base CX0 2 f fd ["text"] spReads := by
  refine F.ok sc_law_reads (fun vs H Q E h => ?_) (fun cdv A outer s H vs Q E hr h => ?_)
  · obtain ⟨l, rfl, _⟩ := h
    rfl
  · obtain ⟨l, rfl, hl, k⟩ := h
    have kQ : ¬ badOf l → ∀ (p : Addr) (H' : Hp), Fr [] H H' → H' p = some (.tup [.int (resOf l).1, .int (resOf l).2]) → Q (.ref p) H' := fun hn p H' e hp => k _ H' e (.inr ⟨hn, p, rfl, hp⟩)
    have kE : badOf l → ∀ (H' : Hp), Fr [] H H' → Q .non H' := fun hb H' e => k _ H' e (.inl ⟨hb, rfl⟩)
    refine ⟨_, (pss_cons (ps_set (i := 1) sc_law_reads.nd rfl (Or.inl rfl) (pv 0))
    (Evl.pss_cut (ps_if (pt_cmpR op_eq (pe_slice sl_str (pv 0) po_none (po_some pe_int)) pe_str (nomark _))
      (pss_one (ps_set (i := 1) sc_law_reads.nd rfl (Or.inl rfl) (pe_slice sl_str (pv 0) (po_some pe_int) po_none)))
      pss_nil)
    (pss_cons (ps_set (i := 2) sc_law_reads.nd rfl (Or.inl rfl) (pe_split (pv 1) pe_str))
    (pss_cons (ps_if (pt_cmpR op_gt (pe_callB call_len_seq (by rfl) T.m_len (by decide +kernel) (pa_cons (pv 2) pa_nil)) pe_int (nomark _))
      (pss_one (ps_ret pe_non))
      pss_nil)
    (pss_cons (ps_set (i := 3) sc_law_reads.nd rfl (Or.inl rfl) (pe_callF F_law_digits (hr.mono (by decide)) rfl pass0 (pa_cons (pe_ix ix_list (pv 2) pe_int (fun _ _ => rfl)) pa_nil)))
    (pss_cons (ps_if (PW.pt (pw_or (pt_cmpR op_lt (pv 3) pe_int (nomark _)) (pw_or1 (PW.pt (pw_and (pt_cmpR op_eq (pv 3) pe_int (nomark _)) (pw_and1 (pt_cmpR op_eq (pe_slice sl_str (pv 0) po_none (po_some pe_int)) pe_str (nomark _))))))))
      (pss_one (ps_ret pe_non))
      pss_nil)
    (pss_cons (ps_set (i := 4) sc_law_reads.nd rfl (Or.inl rfl) pe_int)
    (Evl.pss_cut (ps_if (pt_cmpR op_eq (pe_callB call_len_seq (by rfl) T.m_len (by decide +kernel) (pa_cons (pv 2) pa_nil)) pe_int (nomark _))
      (pss_cons (ps_set (i := 4) sc_law_reads.nd rfl (Or.inl rfl) (pe_callF F_law_digits (hr.mono (by decide)) rfl pass0 (pa_cons (pe_ix ix_list (pv 2) pe_int (fun _ _ => rfl)) pa_nil)))
      (pss_one (ps_if (PW.pt (pw_or (pt_cmpR op_lt (pv 4) pe_int (nomark _)) (pw_or1 (pt_cmpR (op_neD hr.units) (pe_callF F_law_lowest (hr.mono (by decide)) rfl pass0 (pa_cons (pv 3) (pa_cons (pv 4) pa_nil))) (pe_tup (pa_cons (pv 3) (pa_cons (pv 4) pa_nil))) (nomark _)))))
        (pss_one (ps_ret pe_non))
        pss_nil)))
      pss_nil)
    (pss_cons (ps_if (pt_cmpR op_eq (pe_slice sl_str (pv 0) po_none (po_some pe_int)) pe_str (nomark _))
      (pss_one (ps_ret (pe_tup (pa_cons (pe_un un_neg (pv 3)) (pa_cons (pv 4) pa_nil)))))
      pss_nil)
    (pss_one (ps_ret (pe_tup (pa_cons (pv 3) (pa_cons (pv 4) pa_nil)))))))))))))), ?_⟩
    have c1 : cutS (mk l) none (some 1) = mk (l.take 1) := cut_take l 1
    have d1 : cutS (mk l) (some 1) none = mk (l.drop 1) := cut_dropS l 1
    have ml : (mk l).length ≤ sizeLine := by rw [mk_len]; exact line_le (by omega)
    have bl := body_len l
    have pne := parts_ne l
    refine ⟨_, rfl, ?_⟩
    refine ⟨fun σ' H' => H' = H ∧ σ' = [some (vS l), some (vS (bodyOf l)), none, none, none], ?_, ?_⟩
    · refine ⟨_, rfl, _, rfl, _, rfl, ml, rfl, _, rfl, ?_⟩
      rw [c1]
      refine lit_if (b := [45]) (by decide) (fun e => ?_) fun ne => ⟨rfl, by unfold bodyOf; rw [if_neg ne]; rfl⟩
      refine ⟨_, rfl, _, rfl, _, rfl, ml, rfl, ?_⟩
      rw [d1]
      unfold bodyOf
      rw [if_pos e]
      rfl
    rintro σ' H' ⟨rfl, rfl⟩
    refine ⟨_, rfl, ⟨_, rfl⟩, _, _, rfl, rfl, by decide +kernel, by rw [mk_len]; exact line_le (by omega), fun pp hpp => ?_⟩
    rw [split_parts]
    have e1 := (Fr.refl [] H').new (o := .lst ((partsOf l).map vS)) hpp
    have h1 : (upd H' pp (.lst ((partsOf l).map vS))) pp = some (.lst ((partsOf l).map vS)) := upd_same
    generalize upd H' pp (.lst ((partsOf l).map vS)) = H1 at e1 h1 ⊢
    have lm : ((partsOf l).map vS).length = (partsOf l).length := List.length_map _
    refine ⟨_, rfl, _, _, rfl, .inl (SqL.of h1), _, _, rfl, rfl, _, rfl, dec_iff (fun many => ?_) fun few => ?_⟩
    · exact kE (.inr (.inr (.inl (by rw [lm] at many; omega)))) _ e1
    have few : ¬ 2 < (partsOf l).length := by rw [lm] at few; omega
    refine ⟨_, rfl, _, _, _, _, rfl, rfl, SqL.of h1, at_map (j := 0) (part_at pne), _, rfl, by have := part_len pne; omega, ?_⟩
    dsimp only [gName]
    refine tOr_p (p := topOf l < 0) (q := topOf l = 0 ∧ l.take 1 = [45]) (fun R h => ⟨_, rfl, _, _, rfl, rfl, _, rfl, h⟩) (fun R h => ?_) ?_
    · refine tAnd_p (p := topOf l = 0) (q := l.take 1 = [45]) (fun R h => ⟨_, rfl, rfl, _, rfl, ?_⟩) (fun _ R h => ⟨_, rfl, _, rfl, _, rfl, ml, rfl, _, rfl, ?_⟩) h
      · rw [int_eq]
        exact h
      · rw [c1, lit_eq (b := [45]) (by decide)]
        exact h
    refine dec_iff (fun bad => ?_) fun ok => ?_
    · refine kE (.inr ?_) _ e1
      rcases bad with z | z
      · exact .inl z
      · exact .inr (.inr ((minus0 (by omega)).mp z))
    have t0 : ¬ topOf l < 0 := fun z => ok (.inl z)
    have n2 : ¬ l.take 2 = [45, 48] := fun z => ok (.inr ((minus0 (by omega)).mpr z))
    refine ⟨fun σ' H' => Fr [] H1 H' ∧ ¬ ((partsOf l).length = 2 ∧ (botOf l < 2 ∨ ((Nat.gcd (topOf l).natAbs (botOf l).natAbs : Nat) : Int) ≠ 1)) ∧ σ' = [some (vS l), some (vS (bodyOf l)), some (.ref pp), some (.int (topOf l)), some (.int (botOf l))], ?_, ?_⟩
    · refine ⟨_, rfl, _, _, rfl, .inl (SqL.of h1), rfl, _, rfl, eq_if (fun e => ?_) fun ne => ?_⟩
      · have e : (partsOf l).length = 2 := by rw [lm] at e; omega
        have hb : botOf l = Frc.dig ((partsOf l).getD 1 []) := if_pos e
        have bl2 := Frc.dig_lt ((partsOf l).getD 1 [])
        rw [← hb] at bl2
        refine ⟨_, rfl, _, _, _, _, rfl, rfl, SqL.of h1, at_map (j := 1) (part_at (by omega)), _, rfl, by have := part_len (l := l) (i := 1) (by omega); omega, ?_⟩
        rw [← hb]
        dsimp only [gName]
        refine ⟨_, rfl, _, _, rfl, rfl, _, rfl, dec_iff (fun low => iteT ?_) fun high => ?_⟩
        · exact kE (.inl ⟨e, .inl low⟩) _ e1
        · have b400 : (botOf l).natAbs < 10 ^ 400 := by
            have x : (10 : Int) ^ 300 ≤ 10 ^ 400 := by decide +kernel
            have y : ((botOf l).natAbs : Int) < ((10 ^ 400 : Nat) : Int) := by
              rw [Int.natCast_pow]
              have : ((botOf l).natAbs : Int) = botOf l := by omega
              rw [this]
              exact Int.lt_of_lt_of_le bl2 x
            omega
          refine ⟨_, rfl, _, rfl, _, _, rfl, by omega, b400, fun q H2 e2 hq => ?_⟩
          refine ⟨_, rfl, _, rfl, by show 2 ≤ sizeLine; decide, fun r hr => ?_⟩
          have hq3 : (upd H2 r (.tup [.int (topOf l), .int (botOf l)])) q = some (.tup [.int (Frc.low (topOf l) (botOf l)).1, .int (Frc.low (topOf l) (botOf l)).2]) := by rw [upd_ne (ne_of_none hq hr)]; exact hq
          refine ⟨dPr (Frc.low (topOf l) (botOf l)), dPr (topOf l, botOf l), dp_pr (SqT.of hq3), dp_pr (SqT.of upd_same), pr_shaped _, pr_shaped _, _, rfl, ?_⟩
          rw [pr_eqv]
          refine not_if (fun ne => ?_) fun eq => ?_
          · exact kE (.inl ⟨e, .inr fun z => ne ((Frc.low_eq (by omega)).mpr (by omega))⟩) _ (e1.trans (e2.new hr))
          · refine ⟨e2.new hr, fun z => ?_, rfl⟩
            rcases z.2 with z | z
            · exact high z
            · have := (Frc.low_eq (by omega)).mp eq
              omega
      · have ne : (partsOf l).length ≠ 2 := by rw [lm] at ne; omega
        have hb : botOf l = 1 := if_neg ne
        exact ⟨Fr.refl _ _, fun z => ne z.1, by rw [hb]; rfl⟩
    rintro σ' H2 ⟨e2, good, rfl⟩
    have kQ := kQ fun z => z.elim good fun y => y.elim t0 fun x => x.elim few n2
    refine ⟨_, rfl, _, rfl, _, rfl, ml, rfl, _, rfl, ?_⟩
    rw [c1]
    refine lit_if (b := [45]) (by decide) (fun e => ?_) fun ne => ?_
    · refine ⟨_, rfl, _, rfl, _, rfl, by show 2 ≤ sizeLine; decide, fun p hp => kQ p _ ((e1.trans e2).new hp) ?_⟩
      rw [upd_same]
      unfold resOf
      rw [if_pos e]
    · refine ⟨_, rfl, _, rfl, by show 2 ≤ sizeLine; decide, fun p hp => kQ p _ ((e1.trans e2).new hp) ?_⟩
      rw [upd_same]
      unfold resOf
      rw [if_neg ne]
end
/-! _law_figures(bag, size): slots 0 bag 1 size 2 digits 3 k -/
abbrev s_law_figures : Stmt := top 25
abbrev n_law_figures : List Str := ["bag", "size", "digits", "k"]
theorem sc_law_figures : FnScope n_law_figures ["bag", "size"] (defScope s_law_figures) := ⟨rfl, rfl, rfl, by decide +kernel, rfl, by decide +kernel, by decide +kernel⟩
/-! _law_integer(bag): slots 0 bag 1 size 2 value -/
abbrev s_law_integer : Stmt := top 26
abbrev n_law_integer : List Str := ["bag", "size", "value"]
theorem sc_law_integer : FnScope n_law_integer ["bag"] (defScope s_law_integer) := ⟨rfl, rfl, rfl, by decide +kernel, rfl, by decide +kernel, by decide +kernel⟩
/-! _law_fraction(bag): slots 0 bag -/
abbrev s_law_fraction : Stmt := top 27
abbrev n_law_fraction : List Str := ["bag"]
theorem sc_law_fraction : FnScope n_law_fraction ["bag"] (defScope s_law_fraction) := ⟨rfl, rfl, rfl, by decide +kernel, rfl, by decide +kernel, by decide +kernel⟩
/-! _law_long(bag): slots 0 bag 1 sizes 2 top 3 bottom 4 k -/
abbrev s_law_long : Stmt := top 28
abbrev n_law_long : List Str := ["bag", "sizes", "top", "bottom", "k"]
theorem sc_law_long : FnScope n_law_long ["bag"] (defScope s_law_long) := ⟨rfl, rfl, rfl, by decide +kernel, rfl, by decide +kernel, by decide +kernel⟩
/-- a number of digits, the first of them above 0 -/
def Fig (n : Nat) (l : List Nat) : Prop := l.all Frc.isD = true ∧ l.length ≤ n ∧ ∃ d r, l = d :: r ∧ 48 < d
def spFig : Sp := fun vs H Q _ => ∃ (b c : Addr) (n : Nat), vs = [.ref b, .int (n : Int)] ∧ BagC H b c ∧ 1 ≤ n ∧ n ≤ 301 ∧ ∀ (l : List Nat) (H' : Hp), Fig n l → Fr [b] H H' → BagC H' b c → Q (vS l) H'
def spInt : Sp := fun vs H Q _ => ∃ (b c : Addr), vs = [.ref b] ∧ BagC H b c ∧ ∀ (i : Int) (H' : Hp), i.natAbs < 10 ^ 60 → Fr [b] H H' → BagC H' b c → Q (.int i) H'
/-- a fraction that a helper draws -/
def spDraw (n : Nat) : Sp := fun vs H Q _ => ∃ (b c : Addr), vs = [.ref b] ∧ BagC H b c ∧ ∀ (p : Addr) (x y : Int) (H' : Hp), 0 < y → x.natAbs < 10 ^ n → y.natAbs < 10 ^ n → Fr [b] H H' → BagC H' b c → H' p = some (.tup [.int x, .int y]) → Q (.ref p) H'
theorem numL_isD (n : Nat) : (numL n).all Frc.isD = true := by
  rw [List.all_eq_true]
  intro c hc
  have := numL_digits n c hc
  unfold Frc.isD
  rw [decide_eq_true this.1, decide_eq_true this.2]
  rfl
theorem Fig.val {n : Nat} {l : List Nat} (h : Fig n l) : 0 < Frc.val l ∧ Frc.val l < 10 ^ n := by
  obtain ⟨h1, h2, d, r, rfl, hd⟩ := h
  exact ⟨Frc.val_pos r d hd, Nat.lt_of_lt_of_le (Frc.val_lt _ _ rfl h1) (ten_le h2)⟩
theorem Fig.int {n : Nat} {l : List Nat} (h : Fig n l) (hn : n ≤ 301) : PySem.intText? (mk l) = some ((Frc.val l : Nat) : Int) ∧ (mk l).length ≤ 640 := by
  obtain ⟨h1, h2, d, r, rfl, hd⟩ := h
  exact ⟨int_dig h1 (by simp) (by omega), by rw [mk_len]; omega⟩
theorem low_bound {t b : Int} (hb : 0 < b) : 0 < (Frc.low t b).2 ∧ (Frc.low t b).1.natAbs ≤ t.natAbs ∧ (Frc.low t b).2.natAbs ≤ b.natAbs := by
  have g := Frc.gcd_pos (t := t) (b := b) (by omega)
  have d : ((Nat.gcd t.natAbs b.natAbs : Nat) : Int) ∣ b := by
    have := Nat.gcd_dvd_right t.natAbs b.natAbs
    exact Int.ofNat_dvd_left.mpr this
  have d1 : ((Nat.gcd t.natAbs b.natAbs : Nat) : Int) ∣ t := by
    have := Nat.gcd_dvd_left t.natAbs b.natAbs
    exact Int.ofNat_dvd_left.mpr this
  unfold Frc.low
  refine ⟨Int.ediv_pos_of_pos_of_dvd hb (by omega) d, ?_, ?_⟩
  · obtain ⟨k, hk⟩ := d1
    show (t / ((Nat.gcd t.natAbs b.natAbs : Nat) : Int)).natAbs ≤ _
    generalize ((Nat.gcd t.natAbs b.natAbs : Nat) : Int) = gi at hk g
    have gi0 : gi ≠ 0 ∨ gi = 0 := by omega
    rcases gi0 with z | z
    · rw [hk, Int.mul_ediv_cancel_left _ z, Int.natAbs_mul]
      have : 1 ≤ gi.natAbs := by omega
      exact Nat.le_mul_of_pos_left _ this
    · rw [z]
      simp
  · obtain ⟨k, hk⟩ := d
    show (b / ((Nat.gcd t.natAbs b.natAbs : Nat) : Int)).natAbs ≤ _
    generalize ((Nat.gcd t.natAbs b.natAbs : Nat) : Int) = gi at hk g
    have gi0 : gi ≠ 0 ∨ gi = 0 := by omega
    rcases gi0 with z | z
    · rw [hk, Int.mul_ediv_cancel_left _ z, Int.natAbs_mul]
      have : 1 ≤ gi.natAbs := by omega
      exact Nat.le_mul_of_pos_left _ this
    · rw [z]
      simp
/-! _law_bag(script): slots 0 script 1 seed 2 cell -/
abbrev s_law_bag : Stmt := top 21
abbrev n_law_bag : List Str := ["script", "seed", "cell"]
theorem sc_law_bag : FnScope n_law_bag ["script"] (defScope s_law_bag) := ⟨rfl, rfl, rfl, by decide +kernel, rfl, by decide +kernel, by decide +kernel⟩
/-! _law_take(bag, many): slots 0 bag 1 many 2 cell 3 told -/
abbrev s_law_take : Stmt := top 22
abbrev n_law_take : List Str := ["bag", "many", "cell", "told"]
theorem sc_law_take : FnScope n_law_take ["bag", "many"] (defScope s_law_take) := ⟨rfl, rfl, rfl, by decide +kernel, rfl, by decide +kernel, by decide +kernel⟩
theorem m31 : (0 : Int) < 2147483647 := by decide
section
variable {P : Program} {w : World} {K : PySem.W.Frag} {mg : Str → Option Value} {base : Heap}
theorem ok_law_take {f : Addr} {fd : FuncData} (F : Fun K "_law_take" "_law_take" s_law_take f fd) (T : Blt mg) : FnOk P w K mg base CX0 1 f fd ["bag", "many"] spTake := by
  refine F.ok sc_law_take (fun vs H Q E h => ?_) (fun cdv A outer s H vs Q E hr h => ?_)
  · obtain ⟨b, c, many, rfl, _⟩ := h
    rfl
  · obtain ⟨b, c, many, rfl, ⟨ns, i, v, sd, hB⟩, hm, hlog, k⟩ := h
    have hb := hB.1
    have hc := hB.2.1
    have hv : 0 ≤ v := hB.2.2.2.1
    have hi : 0 ≤ i := hB.2.2.1
    refine ⟨_, (Evl.pss_cut (ps_if (pt_cmpR op_lt (pe_ix ix_list (pv 0) pe_int (fun _ _ => rfl)) (pv 1) (nomark _))
      (pss_cons (ps_set (i := 2) sc_law_take.nd rfl (Or.inl rfl) (pe_ix ix_list (pv 0) pe_int (fun _ _ => rfl)))
      (Evl.pss_cut (ps_if (pt_cmpR op_lt (pe_ix ix_list (pv 0) pe_int (fun _ _ => rfl)) (pe_callB call_len_seq (by rfl) T.m_len (by decide +kernel) (pa_cons (pe_ix ix_list (pv 0) pe_int (fun _ _ => rfl)) pa_nil)) (nomark _))
        (pss_one (ps_set (i := 2) sc_law_take.nd rfl (Or.inl rfl) (pe_ix ix_list (pe_ix ix_list (pv 0) pe_int (fun _ _ => rfl)) (pe_ix ix_list (pv 0) pe_int (fun _ _ => rfl)) (fun _ _ => rfl))))
        pss_nil)
      (pss_cons (ps_asg (pe_op op_add (pe_ix ix_list (pv 0) pe_int (fun _ _ => rfl)) pe_int) (pg_sub (pv 0) pe_int set_list))
      (pss_cons (ps_asg (pe_op op_mod (pe_callTy call_int1 (by rfl) T.m_int (by decide +kernel) (pa_cons (pe_op op_add (pe_op op_add (pe_op op_mul (pe_ix ix_list (pv 0) pe_int (fun _ _ => rfl)) pe_int) pe_int) (pe_ix ix_list (pv 0) pe_int (fun _ _ => rfl))) pa_nil)) pe_int) (pg_sub (pv 0) pe_int set_list))
      (Evl.pss_cut (ps_if (pt_cmpR op_lt (pv 2) pe_int (nomark _))
        (pss_one (ps_set (i := 2) sc_law_take.nd rfl (Or.inl rfl) (pe_un un_neg (pv 2))))
        pss_nil)
      (Evl.pss_cut (ps_if (pt_cmpR op_lt (pv 2) (pe_op op_pow pe_int pe_int) (nomark _))
        (pss_cons (ps_set (i := 2) sc_law_take.nd rfl (Or.inl rfl) (pe_op op_mod (pe_callTy call_int1 (by rfl) T.m_int (by decide +kernel) (pa_cons (pe_op op_add (pe_op op_add (pe_op op_mul (pe_op op_add (pv 2) (pe_ix ix_list (pv 0) pe_int (fun _ _ => rfl))) pe_int) (pe_op op_mul (pe_ix ix_list (pv 0) pe_int (fun _ _ => rfl)) pe_int)) pe_int) pa_nil)) pe_int))
        (pss_one (ps_set (i := 2) sc_law_take.nd rfl (Or.inl rfl) (pe_op op_add (pe_op op_mod (pe_callTy call_int1 (by rfl) T.m_int (by decide +kernel) (pa_cons (pe_op op_add (pe_op op_mul (pv 2) pe_int) (pe_op op_mul pe_int (pe_ix ix_list (pv 0) pe_int (fun _ _ => rfl)))) pa_nil)) pe_int) pe_int))))
        pss_nil)
      (pss_one (ps_asg (pv 2) (pg_sub (pv 0) pe_int set_list)))))))))
      pss_nil)
    (pss_cons (ps_set (i := 3) sc_law_take.nd rfl (Or.inl rfl) (pe_op op_mod (pe_callTy call_int1 (by rfl) T.m_int (by decide +kernel) (pa_cons (pe_ix ix_list (pv 0) pe_int (fun _ _ => rfl)) pa_nil)) (pv 1)))
    (pss_cons (ps_asg (pe_op op_fdivW (pe_ix ix_list (pv 0) pe_int (fun _ _ => rfl)) (pv 1)) (pg_sub (pv 0) pe_int set_list))
    (pss_one (ps_ret (pv 3)))))), ?_⟩
    -- behind the if: the bag, whatever is in it
    refine ⟨fun σ' H1 => ∃ (o : Option V) (i1 v1 s1 : Int), σ' = [some (.ref b), some (.int many), o, none] ∧ Fr [b] H H1 ∧ BagAt H1 b c ns i1 v1 s1, ?_, ?_⟩
    · refine ⟨_, rfl, _, _, _, _, rfl, rfl, SqL.of hb, rfl, _, rfl, _, _, rfl, rfl, _, rfl, dec_iff (fun hlt => ?_) fun hge => ⟨_, _, _, _, rfl, Fr.refl _ _, hB⟩⟩
      -- cell = bag[3]; if bag[1] < len(bag[0]): cell = bag[0][bag[1]]
      refine ⟨_, rfl, _, _, _, _, rfl, rfl, SqL.of hb, rfl, ?_⟩
      refine ⟨fun σ' H1 => H1 = H ∧ ∃ cell : Int, σ' = [some (.ref b), some (.int many), some (.int cell), none], ?_, ?_⟩
      · refine ⟨_, rfl, _, _, _, _, rfl, rfl, SqL.of hb, rfl, _, rfl, _, _, _, _, rfl, rfl, SqL.of hb, rfl, _, _, rfl, .inl (SqL.of hc), _, _, rfl, rfl, _, rfl, dec_iff (fun hin => ?_) fun hout => ⟨rfl, _, rfl⟩⟩
        have hlt2 : i.toNat < ns.length := by
          rw [List.length_map] at hin
          omega
        exact ⟨_, rfl, _, _, _, _, rfl, rfl, SqL.of hb, rfl, _, rfl, _, _, _, _, rfl, rfl, SqL.of hb, rfl, _, _, _, _, rfl, rfl, SqL.of hc, at_int hi (by rw [List.getElem?_map, List.getElem?_eq_getElem hlt2]; rfl), rfl, _, rfl⟩
      rintro σ' H1 ⟨rfl, cell, rfl⟩
      -- bag[1] = bag[1] + 1; bag[3] = int(..) % ..
      refine ⟨_, rfl, _, _, _, _, rfl, rfl, SqL.of hb, rfl, _, _, rfl, rfl, _, rfl, _, _, _, _, rfl, rfl, hb, rfl, ?_⟩
      refine ⟨_, rfl, _, _, _, _, rfl, rfl, SqL.of upd_same, rfl, _, _, rfl, rfl, .inr (by decide), _, _, rfl, rfl, _, rfl, _, _, _, _, rfl, rfl, SqL.of upd_same, rfl, _, _, rfl, rfl, .inl ⟨_, rfl, _, _, rfl, rfl, m31, ?_⟩⟩
      refine ⟨_, rfl, _, _, _, _, rfl, rfl, upd_same, rfl, ?_⟩
      rw [upd_upd]
      show Evl.tCut _ _ _ _ (upd H1 b (.lst [.ref c, .int (i + 1), .int v, .int ((sd * 69621 + 12345 + (i + 1)) % 2147483647)]))
      have B2 : ∀ z : Int, 0 ≤ z → BagAt (upd H1 b (.lst [.ref c, .int (i + 1), .int v, .int z])) b c ns (i + 1) v z := fun z hz => hB.put (by omega) hv hz
      have hz0 : 0 ≤ (sd * 69621 + 12345 + (i + 1)) % 2147483647 := Int.emod_nonneg _ (by decide)
      have B3 := B2 _ hz0
      have h3 := B3.1
      have e3 : Fr [b] H1 (upd H1 b (.lst [.ref c, .int (i + 1), .int v, .int ((sd * 69621 + 12345 + (i + 1)) % 2147483647)])) := (Fr.refl _ _).put (.inl (by simp))
      revert B3 h3 e3
      generalize upd H1 b (.lst [.ref c, .int (i + 1), .int v, .int ((sd * 69621 + 12345 + (i + 1)) % 2147483647)]) = H2
      intro B3 h3 e3
      -- if cell < 0: cell = -cell
      refine ⟨fun σ' H' => H' = H2 ∧ ∃ cell : Int, 0 ≤ cell ∧ σ' = [some (.ref b), some (.int many), some (.int cell), none], ?_, ?_⟩
      · refine ⟨_, rfl, _, _, rfl, rfl, _, rfl, dec_iff (fun hneg => ?_) fun hpos => ⟨rfl, cell, by omega, rfl⟩⟩
        exact ⟨_, rfl, _, rfl, rfl, -cell, by omega, rfl⟩
      rintro σ' H' ⟨rfl, cell, hcell, rfl⟩
      -- if cell < 10 ** 18: cell = ..
      refine ⟨fun σ' H2 => H2 = H' ∧ ∃ cell : Int, 0 ≤ cell ∧ σ' = [some (.ref b), some (.int many), some (.int cell), none], ?_, ?_⟩
      · refine ⟨_, rfl, _, _, rfl, rfl, ⟨by decide, by decide, by decide⟩, _, _, rfl, rfl, _, rfl, dec_iff (fun hlow => ?_) fun hhigh => ⟨rfl, cell, hcell, rfl⟩⟩
        refine ⟨_, rfl, _, rfl, _, _, _, _, rfl, rfl, SqL.of h3, rfl, _, _, rfl, rfl, _, _, rfl, rfl, .inr (by decide), _, rfl, _, _, _, _, rfl, rfl, SqL.of h3, rfl, _, _, rfl, rfl, .inr (by decide), _, _, rfl, rfl, _, _, rfl, rfl, .inl ⟨_, rfl, _, _, rfl, rfl, m31, ?_⟩⟩
        refine ⟨_, rfl, _, _, rfl, rfl, .inr (by decide), _, rfl, _, _, _, _, rfl, rfl, SqL.of h3, rfl, _, _, rfl, rfl, .inl (by decide), _, _, rfl, rfl, .inl ⟨_, rfl, _, _, rfl, rfl, m31, _, _, rfl, rfl, ?_⟩⟩
        refine ⟨rfl, _, ?_, rfl⟩
        have := Int.emod_nonneg (((cell + (i + 1)) * 48271 + (i + 1) * 40692 + 3) % 2147483647 * 69621 + 7919 * (i + 1)) (b := 2147483647) (by decide)
        omega
      rintro σ' H2 ⟨rfl, cell, hcell, rfl⟩
      -- bag[2] = cell
      refine ⟨_, rfl, _, rfl, _, _, _, _, rfl, rfl, h3, rfl, ?_⟩
      exact ⟨_, _, _, _, rfl, e3.put (.inl (by simp)), B3.put B3.2.2.1 hcell B3.2.2.2.2⟩
    rintro σ' H1 ⟨o, i1, v1, s1, rfl, e1, B1⟩
    have h1 := B1.1
    refine ⟨_, rfl, _, _, _, _, rfl, rfl, SqL.of h1, rfl, .inl ⟨_, rfl, _, rfl, _, _, rfl, rfl, hm, ?_⟩⟩
    refine ⟨_, rfl, _, _, _, _, rfl, rfl, SqL.of h1, rfl, _, rfl, _, _, rfl, rfl, ⟨hm, hlog⟩, ?_⟩
    refine ⟨_, rfl, _, _, _, _, rfl, rfl, h1, rfl, _, rfl, ?_⟩
    refine k _ _ (Int.emod_nonneg _ (by omega)) (Int.emod_lt_of_pos _ hm) (e1.put (.inl (by simp))) ⟨ns, i1, v1 / many, s1, ?_⟩
    exact B1.put B1.2.2.1 (Int.ediv_nonneg B1.2.2.2.1 (by omega)) B1.2.2.2.2
end
section
variable {P : Program} {w : World} {K : PySem.W.Frag} {mg : Str → Option Value} {base : Heap}
theorem ok_law_bag {f : Addr} {fd : FuncData} (F : Fun K "_law_bag" "_law_bag" s_law_bag f fd) (T : Blt mg) : FnOk P w K mg base CX0 1 f fd ["script"] (spBag K) := by
  refine F.ok sc_law_bag (fun vs H Q E h => ?_) (fun cdv A outer s H vs Q E hr h => ?_)
  · obtain ⟨a, ns, rfl, _⟩ := h
    rfl
  · obtain ⟨a, ns, rfl, hS, hlen, k⟩ := h
    refine ⟨_, (pss_cons (ps_set (i := 1) sc_law_bag.nd rfl (Or.inl rfl) pe_int)
    (pss_cons (ps_for PassesOwn.never rfl (pi_list (pv 0)) (pg_name (i := 2) sc_law_bag.nd rfl (Or.inl rfl))
      (pss_one (ps_set (i := 1) sc_law_bag.nd rfl (Or.inl rfl) (pe_op op_mod (pe_callTy call_int1 (by rfl) T.m_int (by decide +kernel) (pa_cons (pe_op op_add (pe_op op_add (pe_op op_mul (pv 1) pe_int) (pe_op op_mod (pe_callTy call_int1 (by rfl) T.m_int (by decide +kernel) (pa_cons (pv 2) pa_nil)) pe_int)) pe_int) pa_nil)) pe_int))))
    (pss_one (ps_ret (pe_lst (pa_cons (pe_lc (own := [("cell", 2)]) rfl sc_law_bag.nd (pi_list (pv 0)) (blkOk_by (own := [("cell", 2)]) (N := n_law_bag) (sc := defScope s_law_bag) (by decide +kernel)) (fun _ _ _ _ _ => (pg_name (i := 2) sc_law_bag.nd rfl (Or.inl rfl))) (fun _ _ _ _ _ => pts_nil) (fun _ _ _ _ _ => (pe_callTy call_int1 (by rfl) T.m_int (by decide +kernel) (pa_cons (pv 2) pa_nil)))) (pa_cons pe_int (pa_cons pe_int (pa_cons (pv 1) pa_nil))))))))), ?_⟩
    refine ⟨_, rfl, a, rfl, ⟨_, hS⟩, for_list (K := K) (a := a) (xs := ns.map V.int) (fun i σ H' => H' = H ∧ ∃ (seed : Int) (o : Option V), 0 ≤ seed ∧ σ = [some (.ref a), some (.int seed), o])
      ⟨rfl, 7, none, by decide, rfl⟩ (fun i σ H' _ ⟨e, _⟩ => by rw [e]; exact hS) ?_ ?_⟩
    · rintro i y σ H' hi ⟨rfl, seed, o, hs, rfl⟩
      obtain ⟨z, hz, rfl⟩ := get_map_int hi
      refine ⟨_, rfl, _, _, rfl, rfl, .inr (by decide), _, rfl, .inl ⟨_, rfl, _, _, rfl, rfl, by show (0 : Int) < 1000003; decide, _, _, rfl, rfl, _, _, rfl, rfl, .inl ⟨_, rfl, _, _, rfl, rfl, m31, ?_⟩⟩⟩
      exact ⟨rfl, _, _, Int.emod_nonneg _ (by decide), rfl⟩
    · rintro σ H' ⟨rfl, seed, o, hs, rfl⟩
      refine ⟨_, rfl, a, rfl, ⟨_, hS⟩, fun D hD => lc_list (K := K) (a := a) (xs := ns.map V.int) (fun i H2 => H2 = upd H' D (.lst ((ns.take i).map V.int))) rfl
        (fun i H2 _ e => by rw [e]; exact ((Fr.refl [] H').new hD).l hS) ?_ ?_⟩
      · rintro i y H2 hi rfl
        obtain ⟨z, hz, rfl⟩ := get_map_int hi
        refine ⟨rfl, _, rfl, .inl ⟨_, rfl, _, upd_same, ?_, ?_⟩⟩
        · rw [List.length_map, List.length_take]
          exact Nat.lt_of_le_of_lt (Nat.le_trans (Nat.min_le_right _ _) hlen) (by decide)
        · rw [upd_upd, take_succ hz, List.map_append]
          rfl
      · rintro H2 rfl
        rw [List.length_map, List.take_length]
        refine ⟨_, rfl, by show 4 ≤ sizeLine; decide, fun l hl => ?_⟩
        have hlD : D ≠ l := ne_of_none upd_same hl
        refine k l D _ ?_ hD (((Fr.refl [] H').new hD).new hl) ⟨ns, 0, 0, seed, upd_same, by rw [upd_ne hlD]; exact upd_same, by decide, by decide, hs⟩
        exact ((Fr.refl [] H').new hD).free hl
end
section
variable {P : Program} {w : World} {K : PySem.W.Frag} {mg : Str → Option Value} {base : Heap} {CB : Addr}
theorem ok_law_figures {f : Addr} {fd : FuncData} (F : Fun K "_law_figures" "_law_figures" s_law_figures f fd) (T : Blt mg) (F_law_take : FnB P w K mg base CX0 1 "_law_take" ["bag", "many"] spTake) : FnOk P w K mg base CX0 2 f fd ["bag", "size"] spFig := by
  refine F.ok sc_law_figures (fun vs H Q E h => ?_) (fun cdv A outer s H vs Q E hr h => ?_)
  · obtain ⟨b, c, n, rfl, _⟩ := h
    rfl
  · obtain ⟨b, c, n, rfl, hB, h1, h301, k⟩ := h
    refine ⟨_, (pss_cons (ps_set (i := 2) sc_law_figures.nd rfl (Or.inl rfl) (pe_callTy call_str_int (by rfl) T.m_str (by decide +kernel) (pa_cons (pe_op op_add pe_int (pe_callF F_law_take (hr.mono (by decide)) rfl pass0 (pa_cons (pv 0) (pa_cons pe_int pa_nil)))) pa_nil)))
    (pss_cons (ps_for PassesOwn.never rfl (pi_range1 (by rfl) T.m_range (pa_cons pe_int pa_nil)) (pg_name (i := 3) sc_law_figures.nd rfl (Or.inl rfl))
      (pss_one (ps_if (pt_cmpR op_lt (pe_callB call_len_str (by rfl) T.m_len (by decide +kernel) (pa_cons (pv 2) pa_nil)) (pv 1) (nomark _))
        (pss_one (ps_set (i := 2) sc_law_figures.nd rfl (Or.inl rfl) (pe_op op_add_str (pv 2) (pe_slice sl_str (pe_callTy call_str_int (by rfl) T.m_str (by decide +kernel) (pa_cons (pe_op op_add (pe_op op_pow pe_int pe_int) (pe_callF F_law_take (hr.mono (by decide)) rfl pass0 (pa_cons (pv 0) (pa_cons (pe_op op_pow pe_int pe_int) pa_nil)))) pa_nil)) (po_some pe_int) po_none))))
        pss_nil)))
    (pss_one (ps_ret (pe_slice sl_str (pv 2) po_none (po_some (pv 1))))))), ?_⟩
    have e9 : (10 : Int) ^ (9 : Int).toNat = 1000000000 := by decide
    refine ⟨_, rfl, b, c, 9, rfl, hB, by decide, by decide, fun t H1 t0 t1 e1 B1 => ⟨_, _, rfl, rfl, ?_⟩⟩
    obtain ⟨tn, rfl⟩ : ∃ q : Nat, t = (q : Int) := ⟨t.toNat, by omega⟩
    have hd0 : numT (1 + (tn : Int)) = [48 + (1 + tn)] := by
      have e : (1 : Int) + (tn : Int) = ((1 + tn : Nat) : Int) := by omega
      rw [e, numT_nat, numL_lt (by omega)]
    refine ⟨_, rfl, log_1920 (Nat.lt_of_lt_of_le (show (1 + (tn : Int)).natAbs < 10 by omega) (ten_le (a := 1) (by decide))), ?_⟩
    rw [mk_num, hd0]
    refine ⟨_, rfl, by decide, by decide, for_rng (n := 34)
      (fun i σ H' => Fr [b] H H' ∧ BagC H' b c ∧ ∃ (r : List Nat) (o : Option V), r.all Frc.isD = true ∧ r.length ≤ 11 * i ∧ σ = [some (.ref b), some (.int (n : Int)), some (vS ((48 + (1 + tn)) :: r)), o]) ⟨e1, B1, [], none, rfl, by simp, rfl⟩ ?_ ?_⟩
    · rintro i σ H2 hi ⟨e2, B2, r, o, hr1, hr2, rfl⟩
      have ll : (mk ((48 + (1 + tn)) :: r)).length ≤ 400 := by rw [mk_len, List.length_cons]; omega
      refine ⟨_, rfl, _, rfl, line_le (by omega), _, rfl, _, _, rfl, rfl, _, rfl, dec_iff (fun lt => ?_) fun ge => ⟨e2, B2, r, _, hr1, by omega, rfl⟩⟩
      refine ⟨_, rfl, _, _, rfl, rfl, ⟨by decide, by decide, by decide⟩, _, rfl, _, _, rfl, rfl, ⟨by decide, by decide, by decide⟩, b, c, _, rfl, B2, by rw [e9]; decide, by rw [e9]; decide, fun u H3 u0 u1 e3 B3 => ⟨_, _, rfl, rfl, ?_⟩⟩
      rw [e9] at u1
      have eu : ∃ un : Nat, (10 : Int) ^ (9 : Int).toNat + u = (un : Int) ∧ un < 10000000000 := ⟨(1000000000 + u).toNat, by rw [e9]; omega, by omega⟩
      obtain ⟨un, eu, ul⟩ := eu
      have lu := numL_len (n := un) (k := 10) (by decide) (by simpa using ul)
      refine ⟨_, rfl, ?_, ?_⟩
      · rw [eu, Int.natAbs_natCast]
        exact log_1920 (i := (un : Int)) (by rw [Int.natAbs_natCast]; exact Nat.lt_of_lt_of_le ul (ten_le (a := 10) (by decide)))
      rw [mk_num, eu, numT_nat]
      have d1 : cutS (mk (numL un)) (some 1) none = mk ((numL un).drop 1) := cut_dropS _ 1
      refine ⟨_, rfl, _, rfl, by rw [mk_len]; exact line_le (by omega), ?_⟩
      rw [d1]
      refine ⟨_, _, rfl, rfl, line_le ?_, ?_⟩
      · rw [mk_len ((numL un).drop 1), List.length_drop]
        omega
      · refine ⟨e2.trans e3, B3, r ++ (numL un).drop 1, some (.int (i : Int)), ?_, ?_, ?_⟩
        · rw [List.all_append, hr1]
          have := numL_isD un
          rw [List.all_eq_true] at this
          show (true && _) = true
          rw [Bool.true_and, List.all_eq_true]
          exact fun c hc => this c (List.mem_of_mem_drop hc)
        · rw [List.length_append, List.length_drop]
          omega
        · have : mk ((48 + (1 + tn)) :: (r ++ (numL un).drop 1)) = mk ((48 + (1 + tn)) :: r) ++ mk ((numL un).drop 1) := by rw [mk_app]; rfl
          unfold vS
          rw [this]
          rfl
    · rintro σ H2 ⟨e2, B2, r, o, hr1, hr2, rfl⟩
      refine ⟨_, rfl, _, rfl, _, rfl, _, rfl, by rw [mk_len, List.length_cons]; exact line_le (by omega), ?_⟩
      rw [cut_take]
      obtain ⟨m, rfl⟩ : ∃ m, n = m + 1 := ⟨n - 1, by omega⟩
      refine k _ H2 ⟨?_, by rw [List.length_take]; omega, _, _, rfl, by omega⟩ e2 B2
      rw [List.take_succ_cons, List.all_cons]
      have h1 : Frc.isD (48 + (1 + tn)) = true := by
        unfold Frc.isD
        rw [decide_eq_true (by omega), decide_eq_true (by omega)]
        rfl
      rw [h1, Bool.true_and, List.all_eq_true]
      rw [List.all_eq_true] at hr1
      exact fun c hc => hr1 c (List.mem_of_mem_take hc)
theorem ok_law_integer {f : Addr} {fd : FuncData} (F : Fun K "_law_integer" "_law_integer" s_law_integer f fd) (T : Blt mg) (F_law_take : FnB P w K mg base CX0 1 "_law_take" ["bag", "many"] spTake)
    (F_law_figures : FnB P w K mg base CX0 2 "_law_figures" ["bag", "size"] spFig) : FnOk P w K mg base CX0 3 f fd ["bag"] spInt := by
  refine F.ok sc_law_integer (fun vs H Q E h => ?_) (fun cdv A outer s H vs Q E hr h => ?_)
  · obtain ⟨b, c, rfl, _⟩ := h
    rfl
  · obtain ⟨b, c, rfl, hB, k⟩ := h
    refine ⟨_, (pss_cons (ps_set (i := 1) sc_law_integer.nd rfl (Or.inl rfl) (pe_ix ix_list (pe_lst (pa_cons pe_int (pa_cons pe_int (pa_cons pe_int (pa_cons pe_int (pa_cons pe_int (pa_cons (pe_op op_add pe_int (pe_callF F_law_take (hr.mono (by decide)) rfl pass0 (pa_cons (pv 0) (pa_cons pe_int pa_nil)))) pa_nil))))))) (pe_callF F_law_take (hr.mono (by decide)) rfl pass0 (pa_cons (pv 0) (pa_cons pe_int pa_nil))) (fun _ _ => rfl)))
    (pss_cons (ps_if (pt_cmpR op_eq (pv 1) pe_int (nomark _))
      (pss_one (ps_ret pe_int))
      pss_nil)
    (pss_cons (ps_set (i := 2) sc_law_integer.nd rfl (Or.inl rfl) (pe_callTy call_int_str (by rfl) T.m_int (by decide +kernel) (pa_cons (pe_callF F_law_figures (hr.mono (by decide)) rfl pass0 (pa_cons (pv 0) (pa_cons (pv 1) pa_nil))) pa_nil)))
    (pss_cons (ps_if (pt_cmpR op_eq (pe_callF F_law_take (hr.mono (by decide)) rfl pass0 (pa_cons (pv 0) (pa_cons pe_int pa_nil))) pe_int (nomark _))
      (pss_one (ps_ret (pe_un un_neg (pv 2))))
      pss_nil)
    (pss_one (ps_ret (pv 2))))))), ?_⟩
    refine ⟨_, rfl, b, c, 60, rfl, hB, by decide, by decide, fun t H1 t0 t1 e1 B1 => ⟨_, _, rfl, rfl, by show 6 ≤ sizeLine; decide, fun q hq => ?_⟩⟩
    have B2 := B1.new (o := .lst [.int 1, .int 0, .int 1, .int 2, .int 3, .int (1 + t)]) hq
    have g2 : (upd H1 q (.lst [.int 1, .int 0, .int 1, .int 2, .int 3, .int (1 + t)])) q = some (.lst [.int 1, .int 0, .int 1, .int 2, .int 3, .int (1 + t)]) := upd_same
    have e2 := e1.new (o := .lst [.int 1, .int 0, .int 1, .int 2, .int 3, .int (1 + t)]) hq
    have nq := B1.neb hq
    refine ⟨_, rfl, b, c, 6, rfl, B2, by decide, by decide, fun u H3 u0 u1 e3 B3 => ?_⟩
    have pick : ∃ sz : Nat, atI [V.int 1, .int 0, .int 1, .int 2, .int 3, .int (1 + t)] u = some (.int (sz : Int)) ∧ sz ≤ 60 := by
      have hu : u = 0 ∨ u = 1 ∨ u = 2 ∨ u = 3 ∨ u = 4 ∨ u = 5 := by omega
      rcases hu with rfl | rfl | rfl | rfl | rfl | rfl
      · exact ⟨1, rfl, by decide⟩
      · exact ⟨0, rfl, by decide⟩
      · exact ⟨1, rfl, by decide⟩
      · exact ⟨2, rfl, by decide⟩
      · exact ⟨3, rfl, by decide⟩
      · refine ⟨(1 + t).toNat, ?_, by omega⟩
        rw [Int.toNat_of_nonneg (by omega)]
        rfl
    obtain ⟨sz, hsz, hs60⟩ := pick
    have e4 := e2.trans e3
    refine ⟨_, _, _, _, rfl, rfl, SqL.of (e3 _ _ g2 (by simpa using nq)), hsz, ?_⟩
    refine ⟨_, rfl, rfl, _, rfl, eq_if (fun z => ?_) fun nz => ?_⟩
    · exact k 0 H3 (by decide +kernel) e4 B3
    · refine ⟨_, rfl, _, rfl, b, c, sz, rfl, B3, by omega, by omega, fun l H4 hl e5 B5 => ?_⟩
      obtain ⟨i1, i2⟩ := hl.int (by omega)
      obtain ⟨v0, v1⟩ := hl.val
      have v60 : Frc.val l < 10 ^ 60 := Nat.lt_of_lt_of_le v1 (ten_le hs60)
      refine ⟨_, _, rfl, i1, i2, ?_⟩
      refine ⟨_, rfl, b, c, 2, rfl, B5, by decide, by decide, fun y H6 y0 y1 e6 B6 => ⟨rfl, _, rfl, eq_if (fun _ => ?_) fun _ => ?_⟩⟩
      · exact ⟨_, rfl, _, rfl, k _ H6 (by rw [Int.natAbs_neg, Int.natAbs_natCast]; exact v60) ((e4.trans e5).trans e6) B6⟩
      · exact ⟨_, rfl, k _ H6 (by rw [Int.natAbs_natCast]; exact v60) ((e4.trans e5).trans e6) B6⟩
end
section
variable {P : Program} {w : World} {K : PySem.W.Frag} {mg : Str → Option Value} {base : Heap} {CB : Addr}
theorem ok_law_fraction {f : Addr} {fd : FuncData} (F : Fun K "_law_fraction" "_law_fraction" s_law_fraction f fd) (T : Blt mg) (F_law_integer : FnB P w K mg base CX0 3 "_law_integer" ["bag"] spInt) (F_law_lowest : FnB P w K mg base CX0 1 "_law_lowest" ["top", "bottom"] spLow) :
    FnOk P w K mg base CX0 4 f fd ["bag"] (spDraw 60) := by
  refine F.ok sc_law_fraction (fun vs H Q E h => ?_) (fun cdv A outer s H vs Q E hr h => ?_)
  · obtain ⟨b, c, rfl, _⟩ := h
    rfl
  · obtain ⟨b, c, rfl, hB, k⟩ := h
    refine ⟨_, (pss_one (ps_ret (pe_callF F_law_lowest (hr.mono (by decide)) rfl pass0 (pa_cons (pe_callF F_law_integer (hr.mono (by decide)) rfl pass0 (pa_cons (pv 0) pa_nil)) (pa_cons (pe_callB (call_max2 rfl) (by rfl) T.m_max (by decide +kernel) (pa_cons pe_int (pa_cons (pe_callB call_abs (by rfl) T.m_abs (by decide +kernel) (pa_cons (pe_callF F_law_integer (hr.mono (by decide)) rfl pass0 (pa_cons (pv 0) pa_nil)) pa_nil)) pa_nil))) pa_nil))))), ?_⟩
    refine ⟨_, rfl, b, c, rfl, hB, fun i H1 hi e1 B1 => ⟨_, rfl, b, c, rfl, B1, fun j H2 hj e2 B2 => ⟨_, rfl, _, _, rfl, ?_⟩⟩⟩
    have hm : ∃ m : Int, (if (1 : Int) < (if j < 0 then -j else j) then (if j < 0 then -j else j) else 1) = m ∧ 0 < m ∧ m.natAbs < 10 ^ 60 := by
      refine ⟨_, rfl, ?_, ?_⟩
      · split <;> omega
      · have : 1 < 10 ^ 60 := by decide +kernel
        by_cases z : j < 0
        · simp only [if_pos z]
          split <;> omega
        · simp only [if_neg z]
          split <;> omega
    obtain ⟨m, em, m0, ml⟩ := hm
    refine ⟨i, m, ?_, m0, Nat.lt_of_lt_of_le ml (ten_le (by decide)), fun p H3 e3 hp => ?_⟩
    · rw [← em]
      rfl
    · obtain ⟨l1, l2, l3⟩ := low_bound (t := i) m0
      exact k p _ _ H3 l1 (Nat.lt_of_le_of_lt l2 hi) (Nat.lt_of_le_of_lt l3 ml) ((e1.trans e2).trans e3.nil) (B2.fr e3 (by simp) (by simp)) hp
theorem ok_law_long {f : Addr} {fd : FuncData} (F : Fun K "_law_long" "_law_long" s_law_long f fd) (T : Blt mg) (F_law_take : FnB P w K mg base CX0 1 "_law_take" ["bag", "many"] spTake)
    (F_law_figures : FnB P w K mg base CX0 2 "_law_figures" ["bag", "size"] spFig) (F_law_lowest : FnB P w K mg base CX0 1 "_law_lowest" ["top", "bottom"] spLow) : FnOk P w K mg base CX0 4 f fd ["bag"] (spDraw 301) := by
  refine F.ok sc_law_long (fun vs H Q E h => ?_) (fun cdv A outer s H vs Q E hr h => ?_)
  · obtain ⟨b, c, rfl, _⟩ := h
    rfl
  · obtain ⟨b, c, rfl, hB, k⟩ := h
    refine ⟨_, (pss_cons (ps_setLc (i := 1) (own := [("k", 4)]) rfl sc_law_long.nd rfl rfl (sw_true rfl rfl rfl (by decide +kernel)) (pi_range1 (by rfl) T.m_range (pa_cons pe_int pa_nil)) (blkOk_by (own := [("k", 4)]) (N := n_law_long) (sc := defScope s_law_long) (by decide +kernel)) (fun _ _ _ _ _ => (pg_name (i := 4) sc_law_long.nd rfl (Or.inl rfl))) (fun _ _ _ _ _ => pts_nil) (fun _ _ _ _ _ => (pe_ix (r := rIxL K) ix_list (pe_lst (pa_cons pe_int (pa_cons pe_int (pa_cons (pe_op op_add pe_int (pe_callF F_law_take (hr.mono (by decide)) rfl pass0 (pa_cons (pv 0) (pa_cons pe_int pa_nil)))) pa_nil)))) (pe_callF F_law_take (hr.mono (by decide)) rfl pass0 (pa_cons (pv 0) (pa_cons pe_int pa_nil))) (fun _ _ => rfl))))
    (pss_cons (ps_set (i := 2) sc_law_long.nd rfl (Or.inl rfl) (pe_callTy call_int_str (by rfl) T.m_int (by decide +kernel) (pa_cons (pe_callF F_law_figures (hr.mono (by decide)) rfl pass0 (pa_cons (pv 0) (pa_cons (pe_ix ix_list (pv 1) pe_int (fun _ _ => rfl)) pa_nil))) pa_nil)))
    (pss_cons (ps_set (i := 3) sc_law_long.nd rfl (Or.inl rfl) pe_int)
    (Evl.pss_cut (ps_if (pt_cmpR op_eq (pe_callF F_law_take (hr.mono (by decide)) rfl pass0 (pa_cons (pv 0) (pa_cons pe_int pa_nil))) pe_int (nomark _))
      (pss_one (ps_set (i := 3) sc_law_long.nd rfl (Or.inl rfl) (pe_callTy call_int_str (by rfl) T.m_int (by decide +kernel) (pa_cons (pe_callF F_law_figures (hr.mono (by decide)) rfl pass0 (pa_cons (pv 0) (pa_cons (pe_ix ix_list (pv 1) pe_int (fun _ _ => rfl)) pa_nil))) pa_nil))))
      pss_nil)
    (Evl.pss_cut (ps_if (pt_cmpR op_eq (pe_callF F_law_take (hr.mono (by decide)) rfl pass0 (pa_cons (pv 0) (pa_cons pe_int pa_nil))) pe_int (nomark _))
      (pss_one (ps_set (i := 2) sc_law_long.nd rfl (Or.inl rfl) (pe_un un_neg (pv 2))))
      pss_nil)
    (pss_one (ps_ret (pe_callF F_law_lowest (hr.mono (by decide)) rfl pass0 (pa_cons (pv 2) (pa_cons (pv 3) pa_nil)))))))))), ?_⟩
    refine ⟨_, rfl, by decide, by decide, fun D hD => lc_rng (n := 2) (fun i H1 => Fr [b] H H1 ∧ BagC H1 b c ∧ ∃ zs : List Nat, zs.length = i ∧ (∀ z ∈ zs, 1 ≤ z ∧ z ≤ 301) ∧ H1 D = some (.lst (zs.map fun (z : Nat) => V.int (z : Int))))
      ⟨(Fr.refl _ H).new hD, hB.new hD, [], rfl, fun z hz => by simp at hz, upd_same⟩ ?_ ?_⟩
    · rintro i H1 hi ⟨e1, B1, zs, hl, hz, h1⟩
      have nDb : D ≠ b := hB.neb hD
      have nDc : D ≠ c := hB.nec hD
      refine ⟨rfl, _, rfl, b, c, 52, rfl, B1, by decide, by decide, fun t H2 t0 t1 e2 B2 => ⟨_, _, rfl, rfl, by show 3 ≤ sizeLine; decide, fun q hq => ?_⟩⟩
      have h2 := e2 _ _ h1 (by simpa using nDb)
      have B3 := B2.new (o := .lst [.int 300, .int 301, .int (250 + t)]) hq
      have g3 : (upd H2 q (.lst [.int 300, .int 301, .int (250 + t)])) q = some (.lst [.int 300, .int 301, .int (250 + t)]) := upd_same
      have e3 := (e1.trans e2).new (o := .lst [.int 300, .int 301, .int (250 + t)]) hq
      have h3 : (upd H2 q (.lst [.int 300, .int 301, .int (250 + t)])) D = some (.lst (zs.map fun (z : Nat) => V.int (z : Int))) := by rw [upd_ne (ne_of_none h2 hq)]; exact h2
      have nq := B2.neb hq
      refine ⟨_, rfl, b, c, 3, rfl, B3, by decide, by decide, fun u H4 u0 u1 e4 B4 => ?_⟩
      have pick : ∃ sz : Nat, atI [V.int 300, .int 301, .int (250 + t)] u = some (.int (sz : Int)) ∧ 1 ≤ sz ∧ sz ≤ 301 := by
        have hu : u = 0 ∨ u = 1 ∨ u = 2 := by omega
        rcases hu with rfl | rfl | rfl
        · exact ⟨300, rfl, by decide, by decide⟩
        · exact ⟨301, rfl, by decide, by decide⟩
        · refine ⟨(250 + t).toNat, ?_, by omega, by omega⟩
          rw [Int.toNat_of_nonneg (by omega)]
          rfl
      obtain ⟨sz, hsz, s1, s2⟩ := pick
      have h4 := e4 _ _ h3 (by simpa using nDb)
      refine ⟨_, _, _, _, rfl, rfl, SqL.of (e4 _ _ g3 (by simpa using nq)), hsz, _, h4, ?_, ?_⟩
      · rw [List.length_map, hl]
        exact Nat.lt_of_lt_of_le (show i < 100 by omega) (by decide)
      · refine ⟨(e3.trans e4).put (.inr hD), B4.put nDb nDc, zs ++ [sz], by simp [hl], fun z hz2 => ?_, by rw [upd_same, List.map_append]; rfl⟩
        rcases List.mem_append.mp hz2 with y | y
        · exact hz z y
        · have : z = sz := by simpa using y
          rw [this]
          exact ⟨s1, s2⟩
    · rintro H1 ⟨e1, B1, zs, hl, hz, h1⟩
      have nDb : D ≠ b := hB.neb hD
      match zs, hl, hz, h1 with
      | [z0, z1], _, hz, h1 =>
        have y0 := hz z0 (by simp)
        have y1 := hz z1 (by simp)
        refine ⟨_, rfl, _, rfl, _, _, _, _, rfl, rfl, SqL.of h1, rfl, b, c, z0, rfl, B1, y0.1, y0.2, fun l H2 hf e2 B2 => ?_⟩
        obtain ⟨i1, i2⟩ := hf.int y0.2
        obtain ⟨v0, v1⟩ := hf.val
        have v301 : Frc.val l < 10 ^ 301 := Nat.lt_of_lt_of_le v1 (ten_le y0.2)
        have h2 := e2 _ _ h1 (by simpa using nDb)
        refine ⟨_, _, rfl, i1, i2, ?_⟩
        refine ⟨fun σ' H' => Fr [b] H H' ∧ BagC H' b c ∧ ∃ bo : Nat, 0 < bo ∧ bo < 10 ^ 301 ∧ σ' = [some (.ref b), some (.ref D), some (.int ((Frc.val l : Nat) : Int)), some (.int (bo : Int)), none], ?_, ?_⟩
        · refine ⟨_, rfl, b, c, 2, rfl, B2, by decide, by decide, fun y H3 y0' y1' e3 B3 => ⟨rfl, _, rfl, eq_if (fun _ => ?_) fun _ => ⟨(e1.trans e2).trans e3, B3, 1, by decide, by decide +kernel, rfl⟩⟩⟩
          refine ⟨_, rfl, _, rfl, _, _, _, _, rfl, rfl, SqL.of (e3 _ _ h2 (by simpa using nDb)), rfl, b, c, z1, rfl, B3, y1.1, y1.2, fun l2 H4 hf2 e4 B4 => ?_⟩
          obtain ⟨j1, j2⟩ := hf2.int y1.2
          obtain ⟨w0, w1⟩ := hf2.val
          exact ⟨_, _, rfl, j1, j2, ((e1.trans e2).trans e3).trans e4, B4, _, w0, Nat.lt_of_lt_of_le w1 (ten_le y1.2), rfl⟩
        rintro σ' H3 ⟨e3, B3, bo, bo0, bo1, rfl⟩
        refine ⟨fun σ' H' => Fr [b] H H' ∧ BagC H' b c ∧ ∃ ti : Int, ti.natAbs < 10 ^ 301 ∧ σ' = [some (.ref b), some (.ref D), some (.int ti), some (.int (bo : Int)), none], ?_, ?_⟩
        · refine ⟨_, rfl, b, c, 2, rfl, B3, by decide, by decide, fun y H4 y0' y1' e4 B4 => ⟨rfl, _, rfl, eq_if (fun _ => ?_) fun _ => ⟨e3.trans e4, B4, _, by rw [Int.natAbs_natCast]; exact v301, rfl⟩⟩⟩
          exact ⟨_, rfl, _, rfl, e3.trans e4, B4, _, by rw [Int.natAbs_neg, Int.natAbs_natCast]; exact v301, rfl⟩
        rintro σ' H4 ⟨e4, B4, ti, tl1, rfl⟩
        refine ⟨_, rfl, _, rfl, ti, (bo : Int), rfl, by omega, by rw [Int.natAbs_natCast]; exact Nat.lt_of_lt_of_le bo1 (ten_le (by decide)), fun p H5 e5 hp => ?_⟩
        obtain ⟨l1, l2, l3⟩ := low_bound (t := ti) (b := (bo : Int)) (by omega)
        exact k p _ _ H5 l1 (Nat.lt_of_le_of_lt l2 tl1) (Nat.lt_of_le_of_lt l3 (by rw [Int.natAbs_natCast]; exact bo1)) (e4.trans e5.nil) (B4.fr e5 (by simp) (by simp)) hp
end
/-! _law_near(bag, one): slots 0 bag 1 one 2 text 3 kind 4 at 5 sign 6 more 7 words 8 k -/
abbrev s_law_near : Stmt := top 32
abbrev n_law_near : List Str := ["bag", "one", "text", "kind", "at", "sign", "more", "words", "k"]
theorem sc_law_near : FnScope n_law_near ["bag", "one"] (defScope s_law_near) := ⟨rfl, rfl, rfl, by decide +kernel, rfl, by decide +kernel, by decide +kernel⟩
/-! _law_outcome(text): slots 0 text 1 told 2 e -/
abbrev s_law_outcome : Stmt := top 33
abbrev n_law_outcome : List Str := ["text", "told", "e"]
theorem sc_law_outcome : FnScope n_law_outcome ["text"] (defScope s_law_outcome) := ⟨rfl, rfl, rfl, by decide +kernel, rfl, by decide +kernel, by decide +kernel⟩
/-! _law_divided(top, bottom): slots 0 top 1 bottom 2 told 3 e -/
abbrev s_law_divided : Stmt := top 34
abbrev n_law_divided : List Str := ["top", "bottom", "told", "e"]
theorem sc_law_divided : FnScope n_law_divided ["top", "bottom"] (defScope s_law_divided) := ⟨rfl, rfl, rfl, by decide +kernel, rfl, by decide +kernel, by decide +kernel⟩
/-! _law_same(left, right): slots 0 left 1 right -/
abbrev s_law_same : Stmt := top 24
abbrev n_law_same : List Str := ["left", "right"]
theorem sc_law_same : FnScope n_law_same ["left", "right"] (defScope s_law_same) := ⟨rfl, rfl, rfl, by decide +kernel, rfl, by decide +kernel, by decide +kernel⟩
structure IsX1 (K : PySem.W.Frag) (C : Addr) : Prop where
  c : PySem.W.findIn K (.ref C) "__class__" = some (some (.builtin "object.__class__"))
  m : PySem.W.mroIn K C (.type "object") = some true
structure Txt2 (P : Program) (K : PySem.W.Frag) (mg : Str → Option Value) (CD CT CM CB : Addr) : Prop extends Txt1 P K mg CB where
  h1 : PySem.W.specialIn K (.builtin "object.__class__") "__get__" = some (some (.builtin "getset_descriptor.__get__"))
  h2 : PySem.W.takesIn K (.builtin "object.__class__") = some true
  g_DealError : mg "DealError" = some (.ref CD)
  g_BadText : mg "BadText" = some (.ref CT)
  g_BadName : mg "BadName" = some (.ref CM)
  iB : IsX1 K CB
  kBD : PySem.W.kitOne K (.ref CB) (.ref CD) = some true
  kBT : PySem.W.kitOne K (.ref CB) (.ref CT) = some false
  kBM : PySem.W.kitOne K (.ref CB) (.ref CM) = some false
def spNear : Sp := fun vs H Q _ => ∃ (b c p : Addr) (x y : Int), vs = [.ref b, .ref p] ∧ BagC H b c ∧ H p = some (.tup [.int x, .int y]) ∧ x.natAbs < 10 ^ 302 ∧ y.natAbs < 10 ^ 302 ∧ ∀ (z : Str) (H' : Hp), TxS 7000 z → Fr [b] H H' → BagC H' b c → Q (.str z) H'
/-- data: a pair -/
theorem pr_show {x y : Int} (hx : x.natAbs < 10 ^ 570) (hy : y.natAbs < 10 ^ 570) : (dPr (x, y)).showable = true := by
  simp only [dPr, PyData.showable, PyData.showableAll, decide_eq_true (log_1920 hx), decide_eq_true (log_1920 hy)]
  rfl
theorem pr_len {x y : Int} (hx : x.natAbs < 10 ^ 570) (hy : y.natAbs < 10 ^ 570) : (dPr (x, y)).shown.length ≤ 2000 := by
  have h1 := int_shown (by decide) hx
  have h2 := int_shown (by decide) hy
  have h3 := tupleText_len_le (PyData.shownAll [.int x, .int y])
  simp only [dPr, PyData.shown] at h1 h2 ⊢
  simp only [PyData.shownAll, PyData.shown, List.map_cons, List.map_nil, List.sum_cons, List.sum_nil, List.length_cons, List.length_nil] at h3
  simp only [PyData.shownAll, PyData.shown]
  omega
def badN : PyData := .list [.str (Str.ofString "bad"), .int 0, .bool true, .bool false]
def badT (y : Str) : PyData := .list [.str (Str.ofString "bad"), .str y, .bool true, .bool false]
def toldF (x y : Int) : PyData := .list [.str (Str.ofString "told"), dPr (x, y)]
theorem lit_ok : PyData.strOk (Str.ofString "bad") = true ∧ PyData.strOk (Str.ofString "told") = true := by decide +kernel
theorem badN_ok : SeqAt.shaped badN = true ∧ badN.showable = true ∧ badN.shown.length ≤ sizeLine := by
  refine ⟨shaped_of (by simp [badN, PyData.canLay0, PyData.canLayAll0, lit_ok.1]) (by simp [badN, PyData.depth, PyData.depthAll]), by decide +kernel, ?_⟩
  decide +kernel
theorem told_ok {x y : Int} (hx : x.natAbs < 10 ^ 570) (hy : y.natAbs < 10 ^ 570) : SeqAt.shaped (toldF x y) = true ∧ (toldF x y).showable = true ∧ (toldF x y).shown.length ≤ sizeLine := by
  refine ⟨shaped_of (by simp [toldF, PyData.canLay0, PyData.canLayAll0, lit_ok.2, dPr]) (by simp [toldF, PyData.depth, PyData.depthAll, dPr]), ?_, ?_⟩
  · have := pr_show hx hy
    simp only [toldF, PyData.showable, PyData.showableAll, this]
    rfl
  · have h1 := pr_len hx hy
    have h2 : (PyData.shown (.str (Str.ofString "told"))).length ≤ 10 := by decide +kernel
    have h := listText_len_le (PyData.shownAll [.str (Str.ofString "told"), dPr (x, y)])
    have e : (toldF x y).shown = listText (PyData.shownAll [.str (Str.ofString "told"), dPr (x, y)]) := by
      unfold toldF
      rw [PyData.shown]
    rw [e]
    simp only [PyData.shownAll, List.map_cons, List.map_nil, List.sum_cons, List.sum_nil, List.length_cons, List.length_nil] at h
    simp only [PyData.shownAll]
    exact line_le (by omega)
theorem badT_ok {y : Str} {n : Nat} (h : TxS n y) (hn : n ≤ 100000) : SeqAt.shaped (badT y) = true ∧ (badT y).showable = true ∧ (badT y).shown.length ≤ sizeLine := by
  have ho : PyData.strOk y = true := strOk_mk (l := tl y) h.2
  refine ⟨shaped_of (by simp [badT, PyData.canLay0, PyData.canLayAll0, lit_ok.1, ho]) (by simp [badT, PyData.depth, PyData.depthAll]), by simp [badT, PyData.showable, PyData.showableAll], ?_⟩
  have hr := StrLaws.reprText_len y (fun c hc => Nat.lt_of_lt_of_le (h.2 c hc) (by decide))
  have h1 := h.1
  have h2 : (PyData.shown (.str (Str.ofString "bad"))).length ≤ 10 := by decide +kernel
  have b1 : ∀ q : Bool, (PyData.shown (.bool q)).length ≤ 5 := fun q => by cases q <;> decide
  have c1 := b1 true
  have c2 := b1 false
  have hl := listText_len_le (PyData.shownAll [.str (Str.ofString "bad"), .str y, .bool true, .bool false])
  have e : (badT y).shown = listText (PyData.shownAll [.str (Str.ofString "bad"), .str y, .bool true, .bool false]) := by
    unfold badT
    rw [PyData.shown]
  rw [e]
  simp only [PyData.shownAll, List.map_cons, List.map_nil, List.sum_cons, List.sum_nil, List.length_cons, List.length_nil] at hl
  simp only [PyData.shownAll]
  have e2 : (PyData.shown (.str y)) = reprText y := by rw [PyData.shown]
  rw [e2] at hl ⊢
  exact line_le (by omega)
def dueD (t b : Int) : PyData := if b = 0 then badN else toldF (rat t b).1 (rat t b).2
theorem due_ok {t b : Int} (ht : t.natAbs < 10 ^ 63) (hb : b.natAbs < 10 ^ 63) : SeqAt.shaped (dueD t b) = true ∧ (dueD t b).showable = true ∧ (dueD t b).shown.length ≤ sizeLine := by
  unfold dueD
  by_cases z : b = 0
  · rw [if_pos z]
    exact badN_ok
  · rw [if_neg z]
    have u : ∀ {i : Int} {j : Nat}, i.natAbs ≤ j → j < 10 ^ 63 → i.natAbs < 10 ^ 570 := fun h h2 => Nat.lt_of_le_of_lt h (Nat.lt_of_lt_of_le h2 (ten_le (by decide)))
    unfold rat
    by_cases n : b < 0
    · rw [if_pos n]
      have p := low_bound (t := -t) (b := -b) (by omega)
      exact told_ok (u p.2.1 (by rw [Int.natAbs_neg]; exact ht)) (u p.2.2 (by rw [Int.natAbs_neg]; exact hb))
    · rw [if_neg n]
      have p := low_bound (t := t) (b := b) (by omega)
      exact told_ok (u p.2.1 ht) (u p.2.2 hb)
instance badDec (l : List Nat) : Decidable (badOf l) := by
  unfold badOf
  infer_instance
def outD (l : List Nat) : PyData := if badOf l then badT (mk l) else toldF (resOf l).1 (resOf l).2
def spOut (K : PySem.W.Frag) : Sp := fun vs H Q _ => ∃ l : List Nat, vs = [vS l] ∧ l.length ≤ 100000 ∧ ∀ (q : Addr) (H' : Hp), Fr [] H H' → Dp K H' (.ref q) (outD l) → Q (.ref q) H'
def spDiv (K : PySem.W.Frag) : Sp := fun vs H Q _ => ∃ t b : Int, vs = [.int t, .int b] ∧ b.natAbs < 10 ^ 650 ∧ ∀ (q : Addr) (H' : Hp), Fr [] H H' → Dp K H' (.ref q) (dueD t b) → Q (.ref q) H'
section
variable {P : Program} {w : World} {K : PySem.W.Frag} {mg : Str → Option Value} {base : Heap} {CD CT CM CB : Addr}
theorem ok_law_same {f : Addr} {fd : FuncData} (F : Fun K "_law_same" "_law_same" s_law_same f fd) (T : Blt mg) : FnG P w K mg base CX0 1 f fd ["left", "right"] (spSameX K) := by
  refine F.okG sc_law_same (fun vs H Q E h => ?_) (fun cdv A outer s H vs Q E hr hgu h => ?_)
  · obtain ⟨x, y, d, rfl, _⟩ := h
    rfl
  · obtain ⟨x, y, d, rfl, h1, h2, h3, h4, h5, k⟩ := h
    have hu66 : (A.deeper (envOfC "_law_same" (defScope s_law_same) s.heap.objs.size f cdv)).units + 66 < cLine := by have := hr.un; omega
    refine ⟨_, (pss_one (ps_ret (pe_cmpR op_eq (pe_callB (cr_reprX hgu hu66) (by rfl) T.m_repr (by decide +kernel) (pa_cons (pv 0) pa_nil)) (pe_callB (cr_reprX hgu hu66) (by rfl) T.m_repr (by decide +kernel) (pa_cons (pv 1) pa_nil)) (nomark _)))), ?_⟩
    refine ⟨_, rfl, x, d, rfl, h1, h3, h4, h5, _, rfl, y, d, rfl, h2, h3, h4, h5, rfl, ?_⟩
    rw [decide_eq_true rfl]
    exact k
theorem ok_law_outcome {f : Addr} {fd : FuncData} (F : Fun K "_law_outcome" "_law_outcome" s_law_outcome f fd) (T : Txt2 P K mg CD CT CM CB) (F_read_ratio : FnB P w K mg base (L2.CX P w) 2 "read_ratio" ["text"] (spRead CB)) :
    FnOk P w K mg base CX0 3 f fd ["text"] (spOut K) := by
  refine F.ok sc_law_outcome (fun vs H Q E h => ?_) (fun cdv A outer s H vs Q E hr h => ?_)
  · obtain ⟨l, rfl, _⟩ := h
    rfl
  · obtain ⟨l, rfl, hl, k⟩ := h
    obtain ⟨fB, TB⟩ := T.bad
    have TX1 := xfB_ok TB.xf
    have TN1 := TB.noF "value" (by simp)
    refine ⟨_, (Evl.pss_cut (ps_try_gen rfl rfl sc_law_outcome.nd takes0
      (fun W pn xe tk po => (pss_one (ps_set (i := 1) sc_law_outcome.nd rfl (Or.inl rfl) (pe_callFS F_read_ratio (hr.mono (by decide)) rfl (fun σ => passAt tk σ) (pa_cons (pv 0) pa_nil)))))
      (HdsG.named (i := 2) ⟨rfl, by decide, .inl TB.gC⟩ rfl rfl (fun a oe cls d pn hz hf => (pss_one (ps_ret (pe_lst (pa_cons pe_str (pa_cons (pe_xf TX1 TN1 hz hf (pv 2)) (pa_cons (pe_callB (call_isX T.h1 T.h2 hz hf) (by rfl) T.m_isinstance (by decide +kernel) (pa_cons (pv 2) (pa_cons (pe_glob (v := .ref _) rfl T.g_DealError rfl) pa_nil))) (pa_cons (pe_or (pe_callB (call_isX T.h1 T.h2 hz hf) (by rfl) T.m_isinstance (by decide +kernel) (pa_cons (pv 2) (pa_cons (pe_glob (v := .ref _) rfl T.g_BadText rfl) pa_nil))) (pe_one (pe_callB (call_isX T.h1 T.h2 hz hf) (by rfl) T.m_isinstance (by decide +kernel) (pa_cons (pv 2) (pa_cons (pe_glob (v := .ref _) rfl T.g_BadName rfl) pa_nil))))) pa_nil)))))))) (HdsG.plain ⟨rfl, by decide, .inl T.g_DealError⟩ (fun a oe cls d pn hz hf => (pss_one (ps_ret (pe_lst (pa_cons pe_str pa_nil))))) HdsG.nil)))
    (pss_one (ps_ret (pe_lst (pa_cons pe_str (pa_cons (pv 1) pa_nil)))))), ?_⟩
    refine ⟨fun σ' H' => ¬ badOf l ∧ Fr [] H H' ∧ ∃ r : Addr, H' r = some (.tup [.int (resOf l).1, .int (resOf l).2]) ∧ σ' = [some (vS l), some (.ref r), none], ?_, ?_⟩
    · refine ⟨_, rfl, l, rfl, hl, fun hn r H1 e1 hr1 => ⟨hn, e1, r, hr1, rfl⟩, fun hb dd H1 e1 hx => ?_⟩
      refine ⟨true, TB.te, fun _ e0 he0 => ?_, fun z => by cases z⟩
      refine ⟨_, rfl, rfl, rfl, dd, _, _, rfl, hx, rfl, ?_⟩
      refine ⟨_, rfl, CB, dd, _, _, .ref CD, true, rfl, rfl, rfl, (fun u h => h), T.kBD, hx, ⟨T.iB.c, T.iB.m, TB.xf⟩, ?_⟩
      refine ⟨_, rfl, CB, dd, _, _, .ref CT, false, rfl, rfl, rfl, (fun u h => h), T.kBT, hx, ⟨T.iB.c, T.iB.m, TB.xf⟩, ?_⟩
      refine ⟨_, rfl, iteF ⟨_, rfl, CB, dd, _, _, .ref CM, false, rfl, rfl, rfl, (fun u h => h), T.kBM, hx, ⟨T.iB.c, T.iB.m, TB.xf⟩, ?_⟩⟩
      exact ⟨by show 4 ≤ sizeLine; decide, fun q hq => k q _ (e1.new hq) (by unfold outD; rw [if_pos hb]; exact .lst (SqL.of upd_same) (.cons (.str _) (.cons (.str _) (.cons (.bl _) (.cons (.bl _) .nil)))))⟩
    · rintro σ' H1 ⟨hn, e1, r, hr1, rfl⟩
      exact ⟨_, rfl, by show 2 ≤ sizeLine; decide, fun q hq => k q _ (e1.new hq) (by unfold outD; rw [if_neg hn]; exact .lst (SqL.of upd_same) (.cons (.str _) (.cons (dp_pr (p := ((resOf l).1, (resOf l).2)) (SqT.of (by rw [upd_ne (ne_of_none hr1 hq)]; exact hr1))) .nil)))⟩
theorem ok_law_divided {f : Addr} {fd : FuncData} (F : Fun K "_law_divided" "_law_divided" s_law_divided f fd) (T : Txt2 P K mg CD CT CM CB) (F_ratio : FnB P w K mg base (L2.CX P w) 2 "ratio" ["top", "bottom"] (spRatio CB)) :
    FnOk P w K mg base CX0 3 f fd ["top", "bottom"] (spDiv K) := by
  refine F.ok sc_law_divided (fun vs H Q E h => ?_) (fun cdv A outer s H vs Q E hr h => ?_)
  · obtain ⟨t, b, rfl, _⟩ := h
    rfl
  · obtain ⟨t, b, rfl, hl, k⟩ := h
    obtain ⟨fB, TB⟩ := T.bad
    have TX1 := xfB_ok TB.xf
    have TN1 := TB.noF "value" (by simp)
    refine ⟨_, (Evl.pss_cut (ps_try_gen rfl rfl sc_law_divided.nd takes0
      (fun W pn xe tk po => (pss_one (ps_set (i := 2) sc_law_divided.nd rfl (Or.inl rfl) (pe_callFS F_ratio (hr.mono (by decide)) rfl (fun σ => passAt tk σ) (pa_cons (pv 0) (pa_cons (pv 1) pa_nil))))))
      (HdsG.named (i := 3) ⟨rfl, by decide, .inl TB.gC⟩ rfl rfl (fun a oe cls d pn hz hf => (pss_one (ps_ret (pe_lst (pa_cons pe_str (pa_cons (pe_xf TX1 TN1 hz hf (pv 3)) (pa_cons (pe_callB (call_isX T.h1 T.h2 hz hf) (by rfl) T.m_isinstance (by decide +kernel) (pa_cons (pv 3) (pa_cons (pe_glob (v := .ref _) rfl T.g_DealError rfl) pa_nil))) (pa_cons (pe_or (pe_callB (call_isX T.h1 T.h2 hz hf) (by rfl) T.m_isinstance (by decide +kernel) (pa_cons (pv 3) (pa_cons (pe_glob (v := .ref _) rfl T.g_BadText rfl) pa_nil))) (pe_one (pe_callB (call_isX T.h1 T.h2 hz hf) (by rfl) T.m_isinstance (by decide +kernel) (pa_cons (pv 3) (pa_cons (pe_glob (v := .ref _) rfl T.g_BadName rfl) pa_nil))))) pa_nil)))))))) (HdsG.plain ⟨rfl, by decide, .inl T.g_DealError⟩ (fun a oe cls d pn hz hf => (pss_one (ps_ret (pe_lst (pa_cons pe_str pa_nil))))) HdsG.nil)))
    (pss_one (ps_ret (pe_lst (pa_cons pe_str (pa_cons (pv 2) pa_nil)))))), ?_⟩
    refine ⟨fun σ' H' => b ≠ 0 ∧ Fr [] H H' ∧ ∃ r : Addr, H' r = some (.tup [.int (rat t b).1, .int (rat t b).2]) ∧ σ' = [some (.int t), some (.int b), some (.ref r), none], ?_, ?_⟩
    · refine ⟨_, rfl, _, rfl, t, b, rfl, hl, fun hn r H1 e1 hr1 => ⟨hn, e1, r, hr1, rfl⟩, fun hb dd H1 e1 hx => ?_⟩
      refine ⟨true, TB.te, fun _ e0 he0 => ?_, fun z => by cases z⟩
      refine ⟨_, rfl, rfl, rfl, dd, _, _, rfl, hx, rfl, ?_⟩
      refine ⟨_, rfl, CB, dd, _, _, .ref CD, true, rfl, rfl, rfl, (fun u h => h), T.kBD, hx, ⟨T.iB.c, T.iB.m, TB.xf⟩, ?_⟩
      refine ⟨_, rfl, CB, dd, _, _, .ref CT, false, rfl, rfl, rfl, (fun u h => h), T.kBT, hx, ⟨T.iB.c, T.iB.m, TB.xf⟩, ?_⟩
      refine ⟨_, rfl, iteF ⟨_, rfl, CB, dd, _, _, .ref CM, false, rfl, rfl, rfl, (fun u h => h), T.kBM, hx, ⟨T.iB.c, T.iB.m, TB.xf⟩, ?_⟩⟩
      exact ⟨by show 4 ≤ sizeLine; decide, fun q hq => k q _ (e1.new hq) (by unfold dueD; rw [if_pos hb]; exact .lst (SqL.of upd_same) (.cons (.str _) (.cons (.int _) (.cons (.bl _) (.cons (.bl _) .nil)))))⟩
    · rintro σ' H1 ⟨hn, e1, r, hr1, rfl⟩
      exact ⟨_, rfl, by show 2 ≤ sizeLine; decide, fun q hq => k q _ (e1.new hq) (by unfold dueD; rw [if_neg hn]; exact .lst (SqL.of upd_same) (.cons (.str _) (.cons (dp_pr (p := ((rat t b).1, (rat t b).2)) (SqT.of (by rw [upd_ne (ne_of_none hr1 hq)]; exact hr1))) .nil)))⟩
end
section
variable {P : Program} {w : World} {K : PySem.W.Frag} {mg : Str → Option Value} {base : Heap}
/-- where _law_near stands: some text, short and plain -/
def NearSt (b c p : Addr) (x y kind at_ : Int) (sg : Str) (H : Hp) (m : Nat) (σ' : L2.St) (H' : Hp) : Prop :=
  Fr [b] H H' ∧ BagC H' b c ∧ H' p = some (.tup [.int x, .int y]) ∧ ∃ (t : Str) (o6 o7 o8 : Option V), TxS m t ∧ σ' = [some (.ref b), some (.ref p), some (.str t), some (.int kind), some (.int at_), some (.str sg), o6, o7, o8]
theorem numS {i : Int} {k : Nat} (hk : 0 < k) (h : i.natAbs < 10 ^ k) : TxS (k + 1) (Str.ofString (toString i)) :=
  ⟨by rw [len_tl]; exact numT_len hk h, numT_asc i⟩
theorem sgS {c : Nat} (h : c < 128) : TxS 1 (⟨#[c]⟩ : Str) := ⟨Nat.le_refl 1, fun d hd => by
  have : d = c := by simpa using hd
  omega⟩
theorem ok_law_near {f : Addr} {fd : FuncData} (F : Fun K "_law_near" "_law_near" s_law_near f fd) (T : Blt mg) (F_law_take : FnB P w K mg base CX0 1 "_law_take" ["bag", "many"] spTake) (F_law_shown : FnB P w K mg base CX0 1 "_law_shown" ["one"] (spShow K)) :
    FnOk P w K mg base CX0 2 f fd ["bag", "one"] spNear := by
  refine F.ok sc_law_near (fun vs H Q E h => ?_) (fun cdv A outer s H vs Q E hr h => ?_)
  · obtain ⟨b, c, p, x, y, rfl, _⟩ := h
    rfl
  · obtain ⟨b, c, p, x, y, rfl, hB, hp, lx, ly, k⟩ := h
    refine ⟨_, (pss_cons (ps_set (i := 2) sc_law_near.nd rfl (Or.inl rfl) (pe_callF F_law_shown (hr.mono (by decide)) rfl pass0 (pa_cons (pv 1) pa_nil)))
    (pss_cons (ps_set (i := 3) sc_law_near.nd rfl (Or.inl rfl) (pe_callF F_law_take (hr.mono (by decide)) rfl pass0 (pa_cons (pv 0) (pa_cons pe_int pa_nil))))
    (pss_cons (ps_set (i := 4) sc_law_near.nd rfl (Or.inl rfl) (pe_callF F_law_take (hr.mono (by decide)) rfl pass0 (pa_cons (pv 0) (pa_cons (pe_op op_add (pe_callB call_len_str (by rfl) T.m_len (by decide +kernel) (pa_cons (pv 2) pa_nil)) pe_int) pa_nil))))
    (pss_cons (ps_set (i := 5) sc_law_near.nd rfl (Or.inl rfl) (pe_ix ix_str pe_str (pe_callF F_law_take (hr.mono (by decide)) rfl pass0 (pa_cons (pv 0) (pa_cons pe_int pa_nil))) (fun _ _ => rfl)))
    (Evl.pss_cut (ps_if (pt_cmpR op_eq (pv 3) pe_int (nomark _))
      (pss_cons (ps_set (i := 6) sc_law_near.nd rfl (Or.inl rfl) (pe_op op_add pe_int (pe_callF F_law_take (hr.mono (by decide)) rfl pass0 (pa_cons (pv 0) (pa_cons pe_int pa_nil)))))
      (pss_one (ps_set (i := 2) sc_law_near.nd rfl (Or.inl rfl) (pe_op op_add_str (pe_op op_add_str (pe_callTy call_str_int (by rfl) T.m_str (by decide +kernel) (pa_cons (pe_op op_mulW (pv 6) (pe_ix ix_tup (pv 1) pe_int (fun _ _ => rfl))) pa_nil)) pe_str) (pe_callTy call_str_int (by rfl) T.m_str (by decide +kernel) (pa_cons (pe_op op_mulW (pv 6) (pe_ix ix_tup (pv 1) pe_int (fun _ _ => rfl))) pa_nil))))))
      pss_nil)
    (Evl.pss_cut (ps_if (pt_cmpR op_eq (pv 3) pe_int (nomark _))
      (pss_one (ps_set (i := 2) sc_law_near.nd rfl (Or.inl rfl) (pe_op op_add_str (pe_op op_add_str (pe_slice sl_str (pv 2) po_none (po_some (pv 4))) (pv 5)) (pe_slice sl_str (pv 2) (po_some (pv 4)) po_none))))
      pss_nil)
    (Evl.pss_cut (ps_if (pt_cmpR op_eq (pv 3) pe_int (nomark _))
      (pss_one (ps_set (i := 2) sc_law_near.nd rfl (Or.inl rfl) (pe_op op_add_str (pe_slice sl_str (pv 2) po_none (po_some (pv 4))) (pe_slice sl_str (pv 2) (po_some (pe_op op_add (pv 4) pe_int)) po_none))))
      pss_nil)
    (Evl.pss_cut (ps_if (pt_cmpR op_eq (pv 3) pe_int (nomark _))
      (pss_one (ps_set (i := 2) sc_law_near.nd rfl (Or.inl rfl) (pe_op op_add_str (pe_op op_add_str (pe_slice sl_str (pv 2) po_none (po_some (pv 4))) (pv 5)) (pe_slice sl_str (pv 2) (po_some (pe_op op_add (pv 4) pe_int)) po_none))))
      pss_nil)
    (Evl.pss_cut (ps_if (pt_cmpR op_eq (pv 3) pe_int (nomark _))
      (pss_one (ps_set (i := 2) sc_law_near.nd rfl (Or.inl rfl) (pe_op op_add_str (pe_op op_add_str (pe_callTy call_str_int (by rfl) T.m_str (by decide +kernel) (pa_cons (pe_ix ix_tup (pv 1) pe_int (fun _ _ => rfl)) pa_nil)) pe_str) (pe_callTy call_str_int (by rfl) T.m_str (by decide +kernel) (pa_cons (pe_ix ix_tup (pv 1) pe_int (fun _ _ => rfl)) pa_nil)))))
      pss_nil)
    (Evl.pss_cut (ps_if (pt_cmpR op_eq (pv 3) pe_int (nomark _))
      (pss_one (ps_set (i := 2) sc_law_near.nd rfl (Or.inl rfl) (pe_op op_add_str (pe_ix ix_list (pe_lst (pa_cons pe_str (pa_cons pe_str (pa_cons pe_str (pa_cons pe_str pa_nil))))) (pe_callF F_law_take (hr.mono (by decide)) rfl pass0 (pa_cons (pv 0) (pa_cons pe_int pa_nil))) (fun _ _ => rfl)) (pv 2))))
      pss_nil)
    (Evl.pss_cut (ps_if (pt_cmpR op_eq (pv 3) pe_int (nomark _))
      (pss_cons (ps_set (i := 7) sc_law_near.nd rfl (Or.inl rfl) (pe_lst (pa_cons pe_str (pa_cons pe_str (pa_cons pe_str (pa_cons pe_str (pa_cons pe_str (pa_cons pe_str (pa_cons pe_str (pa_cons pe_str (pa_cons pe_str (pa_cons pe_str (pa_cons pe_str (pa_cons pe_str (pa_cons pe_str (pa_cons pe_str (pa_cons pe_str pa_nil)))))))))))))))))
      (pss_cons (ps_set (i := 7) sc_law_near.nd rfl (Or.inl rfl) (pe_op op_cat (pv 7) (pe_lst (pa_cons pe_str (pa_cons pe_str (pa_cons pe_str (pa_cons pe_str (pa_cons pe_str (pa_cons pe_str (pa_cons pe_str (pa_cons pe_str (pa_cons pe_str (pa_cons pe_str (pa_cons pe_str (pa_cons pe_str (pa_cons pe_str (pa_cons pe_str pa_nil)))))))))))))))))
      (pss_cons (ps_set (i := 7) sc_law_near.nd rfl (Or.inl rfl) (pe_op op_cat (pv 7) (pe_lst (pa_cons pe_str (pa_cons pe_str (pa_cons pe_str (pa_cons pe_str (pa_cons pe_str (pa_cons pe_str (pa_cons pe_str (pa_cons pe_str (pa_cons pe_str pa_nil))))))))))))
      (pss_one (ps_set (i := 2) sc_law_near.nd rfl (Or.inl rfl) (pe_ix ix_list (pv 7) (pe_callF F_law_take (hr.mono (by decide)) rfl pass0 (pa_cons (pv 0) (pa_cons (pe_callB call_len_seq (by rfl) T.m_len (by decide +kernel) (pa_cons (pv 7) pa_nil)) pa_nil))) (fun _ _ => rfl)))))))
      pss_nil)
    (Evl.pss_cut (ps_if (pt_cmpR op_eq (pv 3) pe_int (nomark _))
      (pss_cons (ps_set (i := 2) sc_law_near.nd rfl (Or.inl rfl) pe_str)
      (pss_one (ps_for PassesOwn.never rfl (pi_range1 (by rfl) T.m_range (pa_cons (pe_callF F_law_take (hr.mono (by decide)) rfl pass0 (pa_cons (pv 0) (pa_cons pe_int pa_nil))) pa_nil)) (pg_name (i := 8) sc_law_near.nd rfl (Or.inl rfl))
        (pss_one (ps_set (i := 2) sc_law_near.nd rfl (Or.inl rfl) (pe_op op_add_str (pv 2) (pe_ix ix_str pe_str (pe_callF F_law_take (hr.mono (by decide)) rfl pass0 (pa_cons (pv 0) (pa_cons pe_int pa_nil))) (fun _ _ => rfl))))))))
      pss_nil)
    (pss_one (ps_ret (pv 2))))))))))))))), ?_⟩
    have npb : p ≠ b := by
      obtain ⟨i, v, s, hb⟩ := hB.b
      exact ne_of hp hb (by intro z; cases z)
    have x570 : x.natAbs < 10 ^ 570 := Nat.lt_of_lt_of_le lx (ten_le (by decide))
    have y570 : y.natAbs < 10 ^ 570 := Nat.lt_of_lt_of_le ly (ten_le (by decide))
    have sx := numS (by decide) lx
    have sy := numS (by decide) ly
    have lit : ∀ {s : String} (n : Nat), ((s.toList.map Char.toNat).length ≤ n ∧ ∀ c ∈ s.toList.map Char.toNat, c < 128) → TxS n (Str.ofString s) := fun n h => .lit h.1 h.2
    have s47 : TxS 1 (Str.ofString "/") := lit 1 (by decide)
    have hshw : TxS 700 (mk (shw x y)) := by
      have e : mk (shw x y) = Str.ofString (toString x) ∨ mk (shw x y) = Str.ofString (toString x) ++ Str.ofString "/" ++ Str.ofString (toString y) := by
        unfold shw
        by_cases z : y = 1
        · rw [if_pos z]
          exact .inl (mk_num x).symm
        · rw [if_neg z]
          have es : Str.ofString "/" = mk [47] := ext_tl (by rw [tl_ofString]; rfl)
          refine .inr ?_
          rw [mk_num x, mk_num y, es, mk_app, mk_app]
          simp
      rcases e with e | e
      · rw [e]
        exact sx.more (by decide)
      · rw [e]
        exact ((sx.app s47).app sy).more (by decide)
    refine ⟨_, rfl, p, x, y, rfl, SqT.of hp, x570, y570, ?_⟩
    refine ⟨_, rfl, b, c, 9, rfl, hB, by decide, by decide, fun kind H1 k0 k1 e1 B1 => ?_⟩
    have hsl := hshw.1
    refine ⟨_, rfl, _, rfl, _, rfl, line_le (by omega), _, _, rfl, rfl, b, c, _, rfl, B1, by omega, log_ok (Nat.lt_of_le_of_lt (m := 1000001) (by omega) (by decide)), fun at_ H2 a0 a1 e2 B2 => ?_⟩
    refine ⟨_, rfl, b, c, 18, rfl, B2, by decide, by decide, fun u H3 u0 u1 e3 B3 => ?_⟩
    generalize hsg : Str.ofString _ = sgs
    have hg1 : (tl sgs).length = 18 := by rw [← hsg, tl_ofString]; decide
    have hg2 : ∀ c ∈ tl sgs, c < 128 := by rw [← hsg, tl_ofString]; decide
    have hgl : sgs.length = 18 := by rw [len_tl]; exact hg1
    clear hsg
    have hu : u.toNat < (tl sgs).length := by omega
    have hc := List.getElem?_eq_getElem hu
    have hc128 := hg2 _ (List.mem_of_getElem? hc)
    generalize (tl sgs)[u.toNat] = ch at hc hc128
    have sg := sgS hc128
    refine ⟨_, _, ch, rfl, rfl, line_le (by omega), at_int u0 hc, ?_⟩
    have hp3 := e3 _ _ (e2 _ _ (e1 _ _ hp (by simpa using npb)) (by simpa using npb)) (by simpa using npb)
    have e3 := (e1.trans e2).trans e3
    clear e1 e2 B1 B2
    have pick : ∀ {xs : List V} {m : Nat} {i : Int}, (∀ v ∈ xs, ∃ z, v = .str z ∧ TxS m z) → 0 ≤ i → i < xs.length → ∃ z, atI xs i = some (.str z) ∧ TxS m z := fun {xs m i} h h0 h1 => by
      have hi : i.toNat < xs.length := by omega
      obtain ⟨z, hz, ht⟩ := h _ (List.getElem_mem hi)
      exact ⟨z, at_int h0 (by rw [List.getElem?_eq_getElem hi, hz]), ht⟩
    -- kind 1
    refine ⟨NearSt b c p x y kind at_ ⟨#[ch]⟩ H 700, ?_, ?_⟩
    · refine ⟨_, rfl, rfl, _, rfl, eq_if (fun _ => ?_) fun _ => ⟨e3, B3, hp3, _, _, _, _, hshw, rfl⟩⟩
      refine ⟨_, rfl, b, c, 9, rfl, B3, by decide, by decide, fun t H4 t0 t1 e4 B4 => ⟨_, _, rfl, rfl, ?_⟩⟩
      have hp4 := e4 _ _ hp3 (by simpa using npb)
      have m1 : (1 + t).natAbs < 10 ^ 1 := by omega
      have mx : ((1 + t) * x).natAbs < 10 ^ (1 + 302) := nat_mul m1 lx
      have my : ((1 + t) * y).natAbs < 10 ^ (1 + 302) := nat_mul m1 ly
      have sx1 := numS (by decide) mx
      have sy1 := numS (by decide) my
      have l1 := sx1.1
      have l2 := sy1.1
      have l3 := s47.1
      have q1 : (1 + t).natAbs < 10 ^ 302 := Nat.lt_of_lt_of_le m1 (ten_le (by decide))
      refine ⟨_, rfl, _, rfl, _, _, _, _, rfl, rfl, SqT.of hp4, rfl, _, _, rfl, rfl, mul_ok q1 lx, _, rfl, log_1920 (Nat.lt_of_lt_of_le mx (ten_le (by decide))), _, _, rfl, rfl, line_le (by omega), ?_⟩
      refine ⟨_, rfl, _, rfl, _, _, _, _, rfl, rfl, SqT.of hp4, rfl, _, _, rfl, rfl, mul_ok q1 ly, _, rfl, log_1920 (Nat.lt_of_lt_of_le my (ten_le (by decide))), _, _, rfl, rfl, line_le (by rw [str_app_len]; omega), ?_⟩
      exact ⟨e3.trans e4, B4, hp4, _, _, _, _, ((sx1.app s47).app sy1).more (by decide), rfl⟩
    -- kind 2
    rintro σ' H4 ⟨e4, B4, hp4, t, o6, o7, o8, ht, rfl⟩
    have tl1 := ht.1
    have tz : t.length ≤ sizeLine := line_le (by omega)
    have ca := (ht.cut none (some at_)).1
    have cb := (ht.cut (some at_) none).1
    have cd := (ht.cut (some (at_ + 1)) none).1
    have sl := sg.1
    refine ⟨NearSt b c p x y kind at_ ⟨#[ch]⟩ H 1500, ?_, ?_⟩
    · refine ⟨_, rfl, rfl, _, rfl, eq_if (fun _ => ?_) fun _ => ⟨e4, B4, hp4, _, _, _, _, ht.more (by decide), rfl⟩⟩
      exact ⟨_, rfl, _, rfl, _, rfl, _, rfl, tz, _, rfl, _, _, rfl, rfl, line_le (by omega), _, rfl, _, rfl, _, rfl, _, rfl, tz, _, _, rfl, rfl, line_le (by rw [str_app_len]; omega), e4, B4, hp4, _, _, _, _, (((ht.cut none (some at_)).app sg).app (ht.cut (some at_) none)).more (by decide), rfl⟩
    -- kind 3
    clear tl1 tz ca cb cd ht hp4 B4 e4
    rintro σ' H4 ⟨e4, B4, hp4, t, o6, o7, o8, ht, rfl⟩
    have tl1 := ht.1
    have tz : t.length ≤ sizeLine := line_le (by omega)
    have ca := (ht.cut none (some at_)).1
    have cd := (ht.cut (some (at_ + 1)) none).1
    refine ⟨NearSt b c p x y kind at_ ⟨#[ch]⟩ H 3000, ?_, ?_⟩
    · refine ⟨_, rfl, rfl, _, rfl, eq_if (fun _ => ?_) fun _ => ⟨e4, B4, hp4, _, _, _, _, ht.more (by decide), rfl⟩⟩
      exact ⟨_, rfl, _, rfl, _, rfl, _, rfl, tz, _, rfl, _, rfl, _, _, rfl, rfl, _, rfl, _, rfl, tz, _, _, rfl, rfl, line_le (by omega), e4, B4, hp4, _, _, _, _, ((ht.cut none (some at_)).app (ht.cut (some (at_ + 1)) none)).more (by decide), rfl⟩
    -- kind 4
    clear tl1 tz ca cd ht hp4 B4 e4
    rintro σ' H4 ⟨e4, B4, hp4, t, o6, o7, o8, ht, rfl⟩
    have tl1 := ht.1
    have tz : t.length ≤ sizeLine := line_le (by omega)
    have ca := (ht.cut none (some at_)).1
    have cd := (ht.cut (some (at_ + 1)) none).1
    refine ⟨NearSt b c p x y kind at_ ⟨#[ch]⟩ H 6100, ?_, ?_⟩
    · refine ⟨_, rfl, rfl, _, rfl, eq_if (fun _ => ?_) fun _ => ⟨e4, B4, hp4, _, _, _, _, ht.more (by decide), rfl⟩⟩
      exact ⟨_, rfl, _, rfl, _, rfl, _, rfl, tz, _, rfl, _, _, rfl, rfl, line_le (by omega), _, rfl, _, rfl, _, _, rfl, rfl, _, rfl, _, rfl, tz, _, _, rfl, rfl, line_le (by rw [str_app_len]; omega), e4, B4, hp4, _, _, _, _, (((ht.cut none (some at_)).app sg).app (ht.cut (some (at_ + 1)) none)).more (by decide), rfl⟩
    -- kind 5
    clear tl1 tz ca cd ht hp4 B4 e4
    rintro σ' H4 ⟨e4, B4, hp4, t, o6, o7, o8, ht, rfl⟩
    refine ⟨NearSt b c p x y kind at_ ⟨#[ch]⟩ H 6100, ?_, ?_⟩
    · refine ⟨_, rfl, rfl, _, rfl, eq_if (fun _ => ?_) fun _ => ⟨e4, B4, hp4, _, _, _, _, ht, rfl⟩⟩
      have l1 := sx.1
      have l2 := sy.1
      have s0 : TxS 2 (Str.ofString "/0") := lit 2 (by decide)
      have l3 := s0.1
      refine ⟨_, rfl, _, _, _, _, rfl, rfl, SqT.of hp4, rfl, _, rfl, log_1920 x570, _, _, rfl, rfl, line_le (by omega), ?_⟩
      refine ⟨_, rfl, _, _, _, _, rfl, rfl, SqT.of hp4, rfl, _, rfl, log_1920 y570, _, _, rfl, rfl, line_le (by rw [str_app_len]; omega), ?_⟩
      exact ⟨e4, B4, hp4, _, _, _, _, ((sx.app s0).app sy).more (by decide), rfl⟩
    have all15 : ∀ {v : V} {xs : List V}, (∃ z, v = .str z ∧ TxS 20 z) → (∀ v ∈ xs, ∃ z, v = .str z ∧ TxS 20 z) → ∀ u ∈ v :: xs, ∃ z, u = .str z ∧ TxS 20 z := fun {v xs} h1 h2 u hu => by
      rcases List.mem_cons.mp hu with rfl | hu
      · exact h1
      · exact h2 u hu
    have all0 : ∀ u ∈ ([] : List V), ∃ z, u = .str z ∧ TxS 20 z := fun u hu => by simp at hu
    -- kind 6
    clear ht hp4 B4 e4
    rintro σ' H4 ⟨e4, B4, hp4, t, o6, o7, o8, ht, rfl⟩
    have tl1 := ht.1
    refine ⟨NearSt b c p x y kind at_ ⟨#[ch]⟩ H 6200, ?_, ?_⟩
    · refine ⟨_, rfl, rfl, _, rfl, eq_if (fun _ => ?_) fun _ => ⟨e4, B4, hp4, _, _, _, _, ht.more (by decide), rfl⟩⟩
      refine ⟨by show 4 ≤ sizeLine; decide, fun q hq => ?_⟩
      generalize hxs : [V.str _, V.str _, V.str _, V.str _] = xs
      have hall : ∀ v ∈ xs, ∃ z, v = .str z ∧ TxS 20 z := by
        rw [← hxs]
        repeat' (first | exact all0 | refine all15 ⟨_, rfl, lit 20 (by decide)⟩ ?_)
      have hlen : xs.length = 4 := by rw [← hxs]; rfl
      clear hxs
      have B5 := B4.new (o := .lst xs) hq
      have g5 : (upd H4 q (.lst xs)) q = some (.lst xs) := upd_same
      have e5 := e4.new (o := .lst xs) hq
      have hp5 : (upd H4 q (.lst xs)) p = some (.tup [.int x, .int y]) := by rw [upd_ne (ne_of_none hp4 hq)]; exact hp4
      have nq := B4.neb hq
      generalize upd H4 q (.lst xs) = H5 at B5 g5 e5 hp5 ⊢
      refine ⟨_, rfl, b, c, 4, rfl, B5, by decide, by decide, fun u H6 u0 u1 e6 B6 => ?_⟩
      obtain ⟨z, hz, hzs⟩ := pick hall u0 (by rw [hlen]; omega)
      have zl := hzs.1
      refine ⟨_, _, _, _, rfl, rfl, SqL.of (e6 _ _ g5 (by simpa using nq)), hz, _, rfl, _, _, rfl, rfl, line_le (by omega), ?_⟩
      exact ⟨e5.trans e6, B6, e6 _ _ hp5 (by simpa using npb), _, _, _, _, (hzs.app ht).more (by decide), rfl⟩
    -- kind 7
    clear tl1 ht hp4 B4 e4
    rintro σ' H4 ⟨e4, B4, hp4, t, o6, o7, o8, ht, rfl⟩
    refine ⟨NearSt b c p x y kind at_ ⟨#[ch]⟩ H 6200, ?_, ?_⟩
    · refine ⟨_, rfl, rfl, _, rfl, eq_if (fun _ => ?_) fun _ => ⟨e4, B4, hp4, _, _, _, _, ht, rfl⟩⟩
      refine ⟨by show 15 ≤ sizeLine; decide, fun q hq => ?_⟩
      generalize hxs : [V.str _, V.str _, V.str _, V.str _, V.str _, V.str _, V.str _, V.str _, V.str _, V.str _, V.str _, V.str _, V.str _, V.str _, V.str _] = xs
      have hall : ∀ v ∈ xs, ∃ z, v = .str z ∧ TxS 20 z := by
        rw [← hxs]
        repeat' (first | exact all0 | refine all15 ⟨_, rfl, lit 20 (by decide)⟩ ?_)
      have hlen : xs.length = 15 := by rw [← hxs]; rfl
      clear hxs
      have B5 := B4.new (o := .lst xs) hq
      have g5 : (upd H4 q (.lst xs)) q = some (.lst xs) := upd_same
      have e5 := e4.new (o := .lst xs) hq
      have hp5 : (upd H4 q (.lst xs)) p = some (.tup [.int x, .int y]) := by rw [upd_ne (ne_of_none hp4 hq)]; exact hp4
      generalize upd H4 q (.lst xs) = H5 at B5 g5 e5 hp5 ⊢
      refine ⟨_, rfl, by show 14 ≤ sizeLine; decide, fun q2 hq2 => ?_⟩
      generalize hys : [V.str _, V.str _, V.str _, V.str _, V.str _, V.str _, V.str _, V.str _, V.str _, V.str _, V.str _, V.str _, V.str _, V.str _] = ys
      have hall2 : ∀ v ∈ ys, ∃ z, v = .str z ∧ TxS 20 z := by
        rw [← hys]
        repeat' (first | exact all0 | refine all15 ⟨_, rfl, lit 20 (by decide)⟩ ?_)
      have hlen2 : ys.length = 14 := by rw [← hys]; rfl
      clear hys
      have B6 := B5.new (o := .lst ys) hq2
      have g6 : (upd H5 q2 (.lst ys)) q2 = some (.lst ys) := upd_same
      have g6' : (upd H5 q2 (.lst ys)) q = some (.lst xs) := by rw [upd_ne (ne_of_none g5 hq2)]; exact g5
      have e6 := e5.new (o := .lst ys) hq2
      have hp6 : (upd H5 q2 (.lst ys)) p = some (.tup [.int x, .int y]) := by rw [upd_ne (ne_of_none hp5 hq2)]; exact hp5
      generalize upd H5 q2 (.lst ys) = H6 at B6 g6 g6' e6 hp6 ⊢
      refine ⟨_, _, _, _, rfl, rfl, g6', g6, by rw [hlen, hlen2]; decide, fun q3 hq3 => ?_⟩
      have B7 := B6.new (o := .lst (xs ++ ys)) hq3
      have g7 : (upd H6 q3 (.lst (xs ++ ys))) q3 = some (.lst (xs ++ ys)) := upd_same
      have e7 := e6.new (o := .lst (xs ++ ys)) hq3
      have hp7 : (upd H6 q3 (.lst (xs ++ ys))) p = some (.tup [.int x, .int y]) := by rw [upd_ne (ne_of_none hp6 hq3)]; exact hp6
      generalize upd H6 q3 (.lst (xs ++ ys)) = H7 at B7 g7 e7 hp7 ⊢
      refine ⟨_, rfl, by show 9 ≤ sizeLine; decide, fun q4 hq4 => ?_⟩
      generalize hzs : [V.str _, V.str _, V.str _, V.str _, V.str _, V.str _, V.str _, V.str _, V.str _] = zs
      have hall3 : ∀ v ∈ zs, ∃ z, v = .str z ∧ TxS 20 z := by
        rw [← hzs]
        repeat' (first | exact all0 | refine all15 ⟨_, rfl, lit 20 (by decide)⟩ ?_)
      have hlen3 : zs.length = 9 := by rw [← hzs]; rfl
      clear hzs
      have B8 := B7.new (o := .lst zs) hq4
      have g8 : (upd H7 q4 (.lst zs)) q4 = some (.lst zs) := upd_same
      have g8' : (upd H7 q4 (.lst zs)) q3 = some (.lst (xs ++ ys)) := by rw [upd_ne (ne_of_none g7 hq4)]; exact g7
      have e8 := e7.new (o := .lst zs) hq4
      have hp8 : (upd H7 q4 (.lst zs)) p = some (.tup [.int x, .int y]) := by rw [upd_ne (ne_of_none hp7 hq4)]; exact hp7
      generalize upd H7 q4 (.lst zs) = H8 at B8 g8 g8' e8 hp8 ⊢
      have hl12 : (xs ++ ys).length = 29 := by rw [List.length_append, hlen, hlen2]
      refine ⟨_, _, _, _, rfl, rfl, g8', g8, by rw [hl12, hlen3]; decide, fun q5 hq5 => ?_⟩
      have B9 := B8.new (o := .lst (xs ++ ys ++ zs)) hq5
      have g9 : (upd H8 q5 (.lst (xs ++ ys ++ zs))) q5 = some (.lst (xs ++ ys ++ zs)) := upd_same
      have e9 := e8.new (o := .lst (xs ++ ys ++ zs)) hq5
      have hp9 : (upd H8 q5 (.lst (xs ++ ys ++ zs))) p = some (.tup [.int x, .int y]) := by rw [upd_ne (ne_of_none hp8 hq5)]; exact hp8
      have nq := B8.neb hq5
      generalize upd H8 q5 (.lst (xs ++ ys ++ zs)) = H9 at B9 g9 e9 hp9 ⊢
      have hallw : ∀ v ∈ xs ++ ys ++ zs, ∃ z, v = .str z ∧ TxS 20 z := fun v hv => by
        rcases List.mem_append.mp hv with hv | hv
        · rcases List.mem_append.mp hv with hv | hv
          · exact hall v hv
          · exact hall2 v hv
        · exact hall3 v hv
      have hlw : (xs ++ ys ++ zs).length = 38 := by rw [List.length_append, hl12, hlen3]
      generalize xs ++ ys ++ zs = ws at g9 hallw hlw
      refine ⟨_, rfl, _, rfl, _, rfl, _, _, rfl, .inl (SqL.of g9), b, c, _, rfl, B9, by rw [hlw]; decide, by rw [hlw]; decide, fun u H10 u0 u1 e10 B10 => ?_⟩
      obtain ⟨z, hz, hzs⟩ := pick hallw u0 u1
      exact ⟨_, _, _, _, rfl, rfl, SqL.of (e10 _ _ g9 (by simpa using nq)), hz, e9.trans e10, B10, e10 _ _ hp9 (by simpa using npb), _, _, _, _, hzs.more (by decide), rfl⟩
    -- kind 8
    clear ht hp4 B4 e4
    rintro σ' H4 ⟨e4, B4, hp4, t, o6, o7, o8, ht, rfl⟩
    refine ⟨NearSt b c p x y kind at_ ⟨#[ch]⟩ H 6200, ?_, ?_⟩
    · refine ⟨_, rfl, rfl, _, rfl, eq_if (fun _ => ?_) fun _ => ⟨e4, B4, hp4, _, _, _, _, ht, rfl⟩⟩
      refine ⟨_, rfl, b, c, 8, rfl, B4, by decide, by decide, fun v H5 v0 v1 e5 B5 => ?_⟩
      obtain ⟨vn, rfl⟩ : ∃ q : Nat, v = (q : Int) := ⟨v.toNat, by omega⟩
      refine ⟨_, rfl, (rg_ok (by omega)).1, (rg_ok (by omega)).2, for_rng (n := vn)
        (fun i σ H' => Fr [b] H H' ∧ BagC H' b c ∧ H' p = some (.tup [.int x, .int y]) ∧ ∃ (t : Str) (o8 : Option V), TxS i t ∧ σ = [some (.ref b), some (.ref p), some (.str t), some (.int kind), some (.int at_), some (.str ⟨#[ch]⟩), o6, o7, o8])
        ⟨e4.trans e5, B5, e5 _ _ hp4 (by simpa using npb), _, _, lit 0 (by decide), rfl⟩ ?_ ?_⟩
      · rintro i σ H6 hi ⟨e6, B6, hp6, t, o8, ht, rfl⟩
        have tl1 := ht.1
        refine ⟨_, rfl, _, rfl, b, c, 16, rfl, B6, by decide, by decide, fun u H7 u0 u1 e7 B7 => ?_⟩
        generalize hsg : Str.ofString _ = sgs
        have hg1 : (tl sgs).length = 16 := by rw [← hsg, tl_ofString]; decide
        have hg2 : ∀ c ∈ tl sgs, c < 128 := by rw [← hsg, tl_ofString]; decide
        have hgl : sgs.length = 16 := by rw [len_tl]; exact hg1
        clear hsg
        have hu : u.toNat < (tl sgs).length := by omega
        have hc := List.getElem?_eq_getElem hu
        have hc128 := hg2 _ (List.mem_of_getElem? hc)
        generalize (tl sgs)[u.toNat] = c2 at hc hc128
        have s2 := sgS hc128
        refine ⟨_, _, c2, rfl, rfl, line_le (by omega), at_int u0 hc, _, _, rfl, rfl, line_le (by show t.length + 1 ≤ _; omega), ?_⟩
        exact ⟨e6.trans e7, B7, e7 _ _ hp6 (by simpa using npb), _, _, ht.app s2, rfl⟩
      · rintro σ H6 ⟨e6, B6, hp6, t, o8, ht, rfl⟩
        exact ⟨e6, B6, hp6, _, _, _, _, ht.more (by omega), rfl⟩
    rintro σ' H4 ⟨e4, B4, hp4, t, o6, o7, o8, ht, rfl⟩
    exact ⟨_, rfl, k t H4 (ht.more (by decide)) e4 B4⟩
end
/-! _law_counted(one, other): slots 0 one 1 other 2 a 3 b 4 c 5 d 6 told 7 due -/
abbrev s_law_counted : Stmt := top 35
abbrev n_law_counted : List Str := ["one", "other", "a", "b", "c", "d", "told", "due"]
theorem sc_law_counted : FnScope n_law_counted ["one", "other"] (defScope s_law_counted) := ⟨rfl, rfl, rfl, by decide +kernel, rfl, by decide +kernel, by decide +kernel⟩
/-! law(script): slots 0 script 1 bag 2 share 3 top 4 bottom 5 due 6 one 7 other 8 fraction 9 texts 10 turn 11 text -/
abbrev s_law : Stmt := top 36
abbrev n_law : List Str := ["script", "bag", "share", "top", "bottom", "due", "one", "other", "fraction", "texts", "turn", "text"]
theorem sc_law : FnScope n_law ["script"] (defScope s_law) := ⟨rfl, rfl, rfl, by decide +kernel, rfl, by decide +kernel, by decide +kernel⟩
def spCount (K : PySem.W.Frag) : Sp := fun vs H Q _ => ∃ (p q : Addr) (a b c d : Int), vs = [.ref p, .ref q] ∧ SqT K H p [.int a, .int b] ∧ SqT K H q [.int c, .int d] ∧ 0 < b ∧ 0 < d ∧ a.natAbs < 10 ^ 61 ∧ b.natAbs < 10 ^ 61 ∧ c.natAbs < 10 ^ 61 ∧ d.natAbs < 10 ^ 61 ∧ ∀ H', Fr [] H H' → Q (.bl true) H'
def spLaw (K : PySem.W.Frag) : Sp := fun vs H Q _ => ∃ (a : Addr) (ns : List Int), vs = [.ref a] ∧ SqL K H a (ns.map V.int) ∧ ns.length ≤ 63 ∧ ∀ H', Q (.bl true) H'
/-- the ten answers of _law_counted -/
def ten (a b c d : Int) : PyData := .list [dPr (plusF a b c d), dPr (minusF a b c d), dPr (timesF a b c d), .bool (decide (a * d < c * b)), .bool (decide (c * b < a * d)), dPr (if a < 0 then -a else a, b), .int (a / b), .int (-(-a / b)), .int (c / d), .int (-(-c / d))]
theorem ten_shaped (a b c d : Int) : SeqAt.shaped (ten a b c d) = true := by
  refine shaped_of ?_ ?_
  · simp [ten, PyData.canLay0, PyData.canLayAll0, dPr]
  · simp [ten, PyData.depth, PyData.depthAll, dPr]
theorem ten_bounds {a b c d : Int} (hb : 0 < b) (hd : 0 < d) (la : a.natAbs < 10 ^ 61) (lb : b.natAbs < 10 ^ 61) (lc : c.natAbs < 10 ^ 61) (ld : d.natAbs < 10 ^ 61) :
    ((plusF a b c d).1.natAbs < 10 ^ 130 ∧ (plusF a b c d).2.natAbs < 10 ^ 130) ∧ ((minusF a b c d).1.natAbs < 10 ^ 130 ∧ (minusF a b c d).2.natAbs < 10 ^ 130) ∧ ((timesF a b c d).1.natAbs < 10 ^ 130 ∧ (timesF a b c d).2.natAbs < 10 ^ 130) ∧
    (if a < 0 then -a else a).natAbs < 10 ^ 130 ∧ b.natAbs < 10 ^ 130 ∧ (a / b).natAbs < 10 ^ 130 ∧ (-(-a / b)).natAbs < 10 ^ 130 ∧ (c / d).natAbs < 10 ^ 130 ∧ (-(-c / d)).natAbs < 10 ^ 130 := by
  have bd0 := Int.mul_pos hb hd
  have m1 := nat_mul la ld
  have m2 := nat_mul lc lb
  have m3 := nat_mul lb ld
  have m4 := nat_mul la lc
  have t : 10 ^ (61 + 61) + 10 ^ (61 + 61) < 10 ^ 130 := by decide +kernel
  have t61 : 10 ^ 61 + 1 < 10 ^ 130 := by decide +kernel
  have hbd : (b * d).natAbs < 10 ^ 130 := by omega
  have q : ∀ {x y : Int}, 0 < y → x.natAbs < 10 ^ 61 → (x / y).natAbs < 10 ^ 130 := fun {x y} hy hx => by
    have h1 : (x / y).natAbs ≤ x.natAbs + 1 := by
      by_cases z : 0 ≤ x
      · have := Int.ediv_le_self y z
        have := Int.ediv_nonneg z (show 0 ≤ y by omega)
        omega
      · have a1 : x / y < 0 := Int.ediv_neg_of_neg_of_pos (by omega) hy
        have a2 : x ≤ x / y := by
          have : x * y ≤ x * 1 := Int.mul_le_mul_of_nonpos_left (by omega) (by omega)
          exact Int.le_ediv_of_mul_le hy (by omega)
        omega
    omega
  have p1 := low_bound (t := a * d + c * b) bd0
  have p2 := low_bound (t := a * d - c * b) bd0
  have p3 := low_bound (t := a * c) bd0
  have s1 : (a * d + c * b).natAbs ≤ (a * d).natAbs + (c * b).natAbs := Int.natAbs_add_le _ _
  have s2 : (a * d - c * b).natAbs ≤ (a * d).natAbs + (c * b).natAbs := Int.natAbs_sub_le _ _
  refine ⟨⟨?_, ?_⟩, ⟨?_, ?_⟩, ⟨?_, ?_⟩, ?_, ?_, q hb la, ?_, q hd lc, ?_⟩
  · unfold plusF; omega
  · unfold plusF; omega
  · unfold minusF; omega
  · unfold minusF; omega
  · unfold timesF; omega
  · unfold timesF; omega
  · split <;> omega
  · omega
  · rw [Int.natAbs_neg]
    exact q hb (by rw [Int.natAbs_neg]; exact la)
  · rw [Int.natAbs_neg]
    exact q hd (by rw [Int.natAbs_neg]; exact lc)
theorem ten_showable {a b c d : Int} (hb : 0 < b) (hd : 0 < d) (la : a.natAbs < 10 ^ 61) (lb : b.natAbs < 10 ^ 61) (lc : c.natAbs < 10 ^ 61) (ld : d.natAbs < 10 ^ 61) : (ten a b c d).showable = true := by
  obtain ⟨⟨a1, a2⟩, ⟨a3, a4⟩, ⟨a5, a6⟩, a7, a8, a9, a10, a11, a12⟩ := ten_bounds hb hd la lb lc ld
  have u : ∀ {i : Int}, i.natAbs < 10 ^ 130 → i.natAbs < 10 ^ 570 := fun h => Nat.lt_of_lt_of_le h (ten_le (by decide))
  have s1 := pr_show (u a1) (u a2)
  have s2 := pr_show (u a3) (u a4)
  have s3 := pr_show (u a5) (u a6)
  have s4 := pr_show (u a7) (u a8)
  have i1 := log_1920 (u a9)
  have i2 := log_1920 (u a10)
  have i3 := log_1920 (u a11)
  have i4 := log_1920 (u a12)
  have e1 : (plusF a b c d) = ((plusF a b c d).1, (plusF a b c d).2) := rfl
  have e2 : (minusF a b c d) = ((minusF a b c d).1, (minusF a b c d).2) := rfl
  have e3 : (timesF a b c d) = ((timesF a b c d).1, (timesF a b c d).2) := rfl
  rw [← e1] at s1
  rw [← e2] at s2
  rw [← e3] at s3
  unfold ten
  simp only [PyData.showable, PyData.showableAll, s1, s2, s3, s4, decide_eq_true i1, decide_eq_true i2, decide_eq_true i3, decide_eq_true i4]
  rfl
theorem ten_len {a b c d : Int} (hb : 0 < b) (hd : 0 < d) (la : a.natAbs < 10 ^ 61) (lb : b.natAbs < 10 ^ 61) (lc : c.natAbs < 10 ^ 61) (ld : d.natAbs < 10 ^ 61) : (ten a b c d).shown.length ≤ sizeLine := by
  obtain ⟨⟨a1, a2⟩, ⟨a3, a4⟩, ⟨a5, a6⟩, a7, a8, a9, a10, a11, a12⟩ := ten_bounds hb hd la lb lc ld
  have u : ∀ {i : Int}, i.natAbs < 10 ^ 130 → i.natAbs < 10 ^ 570 := fun h => Nat.lt_of_lt_of_le h (ten_le (by decide))
  have s1 := pr_len (u a1) (u a2)
  have s2 := pr_len (u a3) (u a4)
  have s3 := pr_len (u a5) (u a6)
  have s4 := pr_len (u a7) (u a8)
  have i1 := int_shown (by decide) a9
  have i2 := int_shown (by decide) a10
  have i3 := int_shown (by decide) a11
  have i4 := int_shown (by decide) a12
  have b1 : ∀ q : Bool, (PyData.shown (.bool q)).length ≤ 5 := fun q => by cases q <;> decide
  have c1 := b1 (decide (a * d < c * b))
  have c2 := b1 (decide (c * b < a * d))
  have h := listText_len_le (PyData.shownAll [dPr (plusF a b c d), dPr (minusF a b c d), dPr (timesF a b c d), .bool (decide (a * d < c * b)), .bool (decide (c * b < a * d)), dPr (if a < 0 then -a else a, b), .int (a / b), .int (-(-a / b)), .int (c / d), .int (-(-c / d))])
  have e : (ten a b c d).shown = listText (PyData.shownAll [dPr (plusF a b c d), dPr (minusF a b c d), dPr (timesF a b c d), .bool (decide (a * d < c * b)), .bool (decide (c * b < a * d)), dPr (if a < 0 then -a else a, b), .int (a / b), .int (-(-a / b)), .int (c / d), .int (-(-c / d))]) := by
    unfold ten
    rw [PyData.shown]
  rw [e]
  simp only [PyData.shownAll, List.map_cons, List.map_nil, List.sum_cons, List.sum_nil, List.length_cons, List.length_nil] at h
  have s1' : (dPr (plusF a b c d)).shown.length ≤ 2000 := s1
  have s2' : (dPr (minusF a b c d)).shown.length ≤ 2000 := s2
  have s3' : (dPr (timesF a b c d)).shown.length ≤ 2000 := s3
  simp only [PyData.shownAll]
  exact line_le (by omega)
section
variable {P : Program} {w : World} {K : PySem.W.Frag} {mg : Str → Option Value} {base : Heap}
theorem ok_law_counted {f : Addr} {fd : FuncData} (F : Fun K "_law_counted" "_law_counted" s_law_counted f fd) (T : Blt mg) (F_plus : FnB P w K mg base CX0 3 "plus" ["one", "other"] (spBin K plusF)) (F_minus : FnB P w K mg base CX0 3 "minus" ["one", "other"] (spBin K minusF))
    (F_times : FnB P w K mg base CX0 3 "times" ["one", "other"] (spBin K timesF)) (F_is_less : FnB P w K mg base CX0 1 "is_less" ["one", "other"] (spLess K)) (F_magnitude : FnB P w K mg base CX0 1 "magnitude" ["one"] (spMag K)) (F_floor_of : FnB P w K mg base CX0 1 "floor_of" ["one"] (spFloor K))
    (F_ceiling_of : FnB P w K mg base CX0 1 "ceiling_of" ["one"] (spCeil K)) (F_law_lowest : FnB P w K mg base CX0 1 "_law_lowest" ["top", "bottom"] spLow) (F_law_same : FnGB P w K mg base CX0 1 "_law_same" ["left", "right"] (spSameX K)) :
    FnG P w K mg base CX0 4 f fd ["one", "other"] (spCount K) := by
  refine F.okG sc_law_counted (fun vs H Q E h => ?_) (fun cdv A outer s H vs Q E hr hgu h => ?_)
  · obtain ⟨p, q, a, b, c, d, rfl, _⟩ := h
    rfl
  · obtain ⟨p, q, a, b, c, d, rfl, hp, hq, hb, hd, la, lb, lc, ld, k⟩ := h
    refine ⟨_, (pss_cons (ps_asg (pv 0) (pg_tup rfl (pgs_cons (pg_name (i := 2) sc_law_counted.nd rfl (Or.inl rfl)) (pgs_cons (pg_name (i := 3) sc_law_counted.nd rfl (Or.inl rfl)) pgs_nil))))
    (pss_cons (ps_asg (pv 1) (pg_tup rfl (pgs_cons (pg_name (i := 4) sc_law_counted.nd rfl (Or.inl rfl)) (pgs_cons (pg_name (i := 5) sc_law_counted.nd rfl (Or.inl rfl)) pgs_nil))))
    (pss_cons (ps_set (i := 6) sc_law_counted.nd rfl (Or.inl rfl) (pe_lst (pa_cons (pe_callF F_plus (hr.mono (by decide)) rfl pass0 (pa_cons (pv 0) (pa_cons (pv 1) pa_nil))) (pa_cons (pe_callF F_minus (hr.mono (by decide)) rfl pass0 (pa_cons (pv 0) (pa_cons (pv 1) pa_nil))) (pa_cons (pe_callF F_times (hr.mono (by decide)) rfl pass0 (pa_cons (pv 0) (pa_cons (pv 1) pa_nil))) (pa_cons (pe_callF F_is_less (hr.mono (by decide)) rfl pass0 (pa_cons (pv 0) (pa_cons (pv 1) pa_nil))) (pa_cons (pe_callF F_is_less (hr.mono (by decide)) rfl pass0 (pa_cons (pv 1) (pa_cons (pv 0) pa_nil))) pa_nil)))))))
    (pss_cons (ps_set (i := 7) sc_law_counted.nd rfl (Or.inl rfl) (pe_lst (pa_cons (pe_callF F_law_lowest (hr.mono (by decide)) rfl pass0 (pa_cons (pe_op op_add (pe_op op_mulW (pv 2) (pv 5)) (pe_op op_mulW (pv 4) (pv 3))) (pa_cons (pe_op op_mulW (pv 3) (pv 5)) pa_nil))) (pa_cons (pe_callF F_law_lowest (hr.mono (by decide)) rfl pass0 (pa_cons (pe_op op_sub (pe_op op_mulW (pv 2) (pv 5)) (pe_op op_mulW (pv 4) (pv 3))) (pa_cons (pe_op op_mulW (pv 3) (pv 5)) pa_nil))) (pa_cons (pe_callF F_law_lowest (hr.mono (by decide)) rfl pass0 (pa_cons (pe_op op_mulW (pv 2) (pv 4)) (pa_cons (pe_op op_mulW (pv 3) (pv 5)) pa_nil))) pa_nil)))))
    (pss_cons (ps_set (i := 7) sc_law_counted.nd rfl (Or.inl rfl) (pe_op op_cat (pv 7) (pe_lst (pa_cons (pe_cmpR op_lt (pe_op op_mulW (pv 2) (pv 5)) (pe_op op_mulW (pv 4) (pv 3)) (nomark _)) (pa_cons (pe_cmpR op_lt (pe_op op_mulW (pv 4) (pv 3)) (pe_op op_mulW (pv 2) (pv 5)) (nomark _)) pa_nil)))))
    (pss_cons (ps_set (i := 6) sc_law_counted.nd rfl (Or.inl rfl) (pe_op op_cat (pv 6) (pe_lst (pa_cons (pe_callF F_magnitude (hr.mono (by decide)) rfl pass0 (pa_cons (pv 0) pa_nil)) (pa_cons (pe_callF F_floor_of (hr.mono (by decide)) rfl pass0 (pa_cons (pv 0) pa_nil)) (pa_cons (pe_callF F_ceiling_of (hr.mono (by decide)) rfl pass0 (pa_cons (pv 0) pa_nil)) (pa_cons (pe_callF F_floor_of (hr.mono (by decide)) rfl pass0 (pa_cons (pv 1) pa_nil)) (pa_cons (pe_callF F_ceiling_of (hr.mono (by decide)) rfl pass0 (pa_cons (pv 1) pa_nil)) pa_nil))))))))
    (pss_cons (ps_set (i := 7) sc_law_counted.nd rfl (Or.inl rfl) (pe_op op_cat (pv 7) (pe_lst (pa_cons (pe_tup (pa_cons (pe_callB call_abs (by rfl) T.m_abs (by decide +kernel) (pa_cons (pv 2) pa_nil)) (pa_cons (pv 3) pa_nil))) (pa_cons (pe_op op_fdivW (pv 2) (pv 3)) (pa_cons (pe_un un_neg (pe_op op_fdivW (pe_un un_neg (pv 2)) (pv 3))) (pa_cons (pe_op op_fdivW (pv 4) (pv 5)) (pa_cons (pe_un un_neg (pe_op op_fdivW (pe_un un_neg (pv 4)) (pv 5))) pa_nil))))))))
    (pss_one (ps_ret (pe_callG F_law_same (hr.mono (by decide)) hgu rfl pass0 (pa_cons (pv 6) (pa_cons (pv 7) pa_nil)))))))))))), ?_⟩
    have big : ∀ {i : Int}, i.natAbs < 10 ^ 61 → i.natAbs < 10 ^ 302 := fun h => Nat.lt_of_lt_of_le h (ten_le (by decide))
    have two : ∀ {H' : Hp}, Fr [] H H' → Two K H' p q a b c d := fun e => ⟨e.t hp, e.t hq, hb, hd, big la, big lb, big lc, big ld⟩
    have two' : ∀ {H' : Hp}, Fr [] H H' → Two K H' q p c d a b := fun e => ⟨e.t hq, e.t hp, hd, hb, big lc, big ld, big la, big lb⟩
    refine ⟨_, rfl, _, _, rfl, hp, rfl, _, _, rfl, _, _, rfl, rfl, ?_⟩
    refine ⟨_, rfl, _, _, rfl, hq, rfl, _, _, rfl, _, _, rfl, rfl, ?_⟩
    have r0 := Fr.refl [] H
    refine ⟨_, rfl, _, rfl, p, q, a, b, c, d, rfl, two r0, fun r1 H1 e1 h1 => ?_⟩
    refine ⟨_, rfl, _, rfl, p, q, a, b, c, d, rfl, two e1, fun r2 H2 e2 h2 => ?_⟩
    refine ⟨_, rfl, _, rfl, p, q, a, b, c, d, rfl, two (e1.trans e2), fun r3 H3 e3 h3 => ?_⟩
    have f3 := (e1.trans e2).trans e3
    refine ⟨_, rfl, _, rfl, p, q, a, b, c, d, rfl, two f3, _, rfl, _, rfl, q, p, c, d, a, b, rfl, two' f3, by show 5 ≤ sizeLine; decide, fun u1 hu1 => ?_⟩
    have h1 := e3 _ _ (e2 _ _ h1 (by simp)) (by simp)
    have h2 := e3 _ _ h2 (by simp)
    have n4 := (Fr.refl [] H3).new (o := .lst [.ref r1, .ref r2, .ref r3, .bl (decide (a * d < c * b)), .bl (decide (c * b < a * d))]) hu1
    have hu1c : (upd H3 u1 (.lst [.ref r1, .ref r2, .ref r3, .bl (decide (a * d < c * b)), .bl (decide (c * b < a * d))])) u1 = some (.lst [.ref r1, .ref r2, .ref r3, .bl (decide (a * d < c * b)), .bl (decide (c * b < a * d))]) := upd_same
    generalize upd H3 u1 (.lst [.ref r1, .ref r2, .ref r3, .bl (decide (a * d < c * b)), .bl (decide (c * b < a * d))]) = H4 at n4 hu1c ⊢
    have f4 := f3.trans n4
    have h1 := n4 _ _ h1 (by simp)
    have h2 := n4 _ _ h2 (by simp)
    have h3 := n4 _ _ h3 (by simp)
    have m1 := mul_ok (big la) (big ld)
    have m2 := mul_ok (big lc) (big lb)
    have m3 := mul_ok (big lb) (big ld)
    have m4 := mul_ok (big la) (big lc)
    have bd0 := Int.mul_pos hb hd
    have bdl : (b * d).natAbs < 10 ^ 400 := Nat.lt_of_lt_of_le (nat_mul lb ld) (ten_le (by decide))
    clear e1 e2 e3 hu1 r0 n4 f3
    refine ⟨_, rfl, _, rfl, _, _, rfl, rfl, m1, _, rfl, _, rfl, _, _, rfl, rfl, m2, _, _, rfl, rfl, _, rfl, _, rfl, _, _, rfl, rfl, m3, _, _, rfl, bd0, bdl, fun s1 H5 e5 g1 => ?_⟩
    refine ⟨_, rfl, _, rfl, _, _, rfl, rfl, m1, _, rfl, _, rfl, _, _, rfl, rfl, m2, _, _, rfl, rfl, _, rfl, _, rfl, _, _, rfl, rfl, m3, _, _, rfl, bd0, bdl, fun s2 H6 e6 g2 => ?_⟩
    refine ⟨_, rfl, _, rfl, _, _, rfl, rfl, m4, _, rfl, _, rfl, _, _, rfl, rfl, m3, _, _, rfl, bd0, bdl, fun s3 H7 e7 g3 => ?_⟩
    have g1 := e7 _ _ (e6 _ _ g1 (by simp)) (by simp)
    have g2 := e7 _ _ g2 (by simp)
    have e57 := (e5.trans e6).trans e7
    have h1 := e57 _ _ h1 (by simp)
    have h2 := e57 _ _ h2 (by simp)
    have h3 := e57 _ _ h3 (by simp)
    have hu1c := e57 _ _ hu1c (by simp)
    have f7 := f4.trans e57
    clear e5 e6 e7 e57 f4
    refine ⟨by show 3 ≤ sizeLine; decide, fun u2 hu2 => ?_⟩
    have n8 := (Fr.refl [] H7).new (o := .lst [.ref s1, .ref s2, .ref s3]) hu2
    have hu2c : (upd H7 u2 (.lst [.ref s1, .ref s2, .ref s3])) u2 = some (.lst [.ref s1, .ref s2, .ref s3]) := upd_same
    generalize upd H7 u2 (.lst [.ref s1, .ref s2, .ref s3]) = H8 at n8 hu2c ⊢
    refine ⟨_, rfl, _, rfl, _, rfl, _, _, rfl, rfl, m1, _, rfl, _, rfl, _, _, rfl, rfl, m2, _, _, rfl, rfl, _, rfl, _, rfl, _, _, rfl, rfl, m2, _, rfl, _, rfl, _, _, rfl, rfl, m1, _, _, rfl, rfl, by show 2 ≤ sizeLine; decide, fun u3 hu3 => ?_⟩
    have n9 := (Fr.refl [] H8).new (o := .lst [.bl (decide (a * d < c * b)), .bl (decide (c * b < a * d))]) hu3
    have hu3c : (upd H8 u3 (.lst [.bl (decide (a * d < c * b)), .bl (decide (c * b < a * d))])) u3 = some (.lst [.bl (decide (a * d < c * b)), .bl (decide (c * b < a * d))]) := upd_same
    generalize upd H8 u3 (.lst [.bl (decide (a * d < c * b)), .bl (decide (c * b < a * d))]) = H9 at n9 hu3c ⊢
    refine ⟨_, _, _, _, rfl, rfl, n9 _ _ hu2c (by simp), hu3c, by show 5 ≤ sizeLine; decide, fun u4 hu4 => ?_⟩
    have n10 := (Fr.refl [] H9).new (o := .lst ([.ref s1, .ref s2, .ref s3] ++ [.bl (decide (a * d < c * b)), .bl (decide (c * b < a * d))])) hu4
    have hu4c : (upd H9 u4 (.lst ([.ref s1, .ref s2, .ref s3] ++ [.bl (decide (a * d < c * b)), .bl (decide (c * b < a * d))]))) u4 = some (.lst [.ref s1, .ref s2, .ref s3, .bl (decide (a * d < c * b)), .bl (decide (c * b < a * d))]) := upd_same
    generalize upd H9 u4 (.lst ([.ref s1, .ref s2, .ref s3] ++ [.bl (decide (a * d < c * b)), .bl (decide (c * b < a * d))])) = H10 at n10 hu4c ⊢
    have n810 := (n8.trans n9).trans n10
    have g1 := n810 _ _ g1 (by simp)
    have g2 := n810 _ _ g2 (by simp)
    have g3 := n810 _ _ g3 (by simp)
    have h1 := n810 _ _ h1 (by simp)
    have h2 := n810 _ _ h2 (by simp)
    have h3 := n810 _ _ h3 (by simp)
    have hu1c := n810 _ _ hu1c (by simp)
    have f10 := f7.trans n810
    clear n8 n9 n10 n810 f7 hu2c hu3c hu2 hu3 hu4
    refine ⟨_, rfl, _, rfl, p, a, b, rfl, f10.t hp, fun w1 H11 e11 k1 => ?_⟩
    have f11 := f10.trans e11
    refine ⟨_, rfl, p, a, b, rfl, f11.t hp, hb, big lb, _, rfl, p, a, b, rfl, f11.t hp, hb, big lb, _, rfl, q, c, d, rfl, f11.t hq, hd, big ld, _, rfl, q, c, d, rfl, f11.t hq, hd, big ld, by show 5 ≤ sizeLine; decide, fun u5 hu5 => ?_⟩
    have n12 := (Fr.refl [] H11).new (o := .lst [.ref w1, .int (a / b), .int (-(-a / b)), .int (c / d), .int (-(-c / d))]) hu5
    have hu5c : (upd H11 u5 (.lst [.ref w1, .int (a / b), .int (-(-a / b)), .int (c / d), .int (-(-c / d))])) u5 = some (.lst [.ref w1, .int (a / b), .int (-(-a / b)), .int (c / d), .int (-(-c / d))]) := upd_same
    generalize upd H11 u5 (.lst [.ref w1, .int (a / b), .int (-(-a / b)), .int (c / d), .int (-(-c / d))]) = H12 at n12 hu5c ⊢
    have e12 := e11.trans n12
    refine ⟨_, _, _, _, rfl, rfl, e12 _ _ hu1c (by simp), hu5c, by show 10 ≤ sizeLine; decide, fun u6 hu6 => ?_⟩
    have n13 := (Fr.refl [] H12).new (o := .lst ([.ref r1, .ref r2, .ref r3, .bl (decide (a * d < c * b)), .bl (decide (c * b < a * d))] ++ [.ref w1, .int (a / b), .int (-(-a / b)), .int (c / d), .int (-(-c / d))])) hu6
    have hu6c : (upd H12 u6 (.lst ([.ref r1, .ref r2, .ref r3, .bl (decide (a * d < c * b)), .bl (decide (c * b < a * d))] ++ [.ref w1, .int (a / b), .int (-(-a / b)), .int (c / d), .int (-(-c / d))]))) u6 = some (.lst ([.ref r1, .ref r2, .ref r3, .bl (decide (a * d < c * b)), .bl (decide (c * b < a * d))] ++ [.ref w1, .int (a / b), .int (-(-a / b)), .int (c / d), .int (-(-c / d))])) := upd_same
    generalize upd H12 u6 (.lst ([.ref r1, .ref r2, .ref r3, .bl (decide (a * d < c * b)), .bl (decide (c * b < a * d))] ++ [.ref w1, .int (a / b), .int (-(-a / b)), .int (c / d), .int (-(-c / d))])) = H13 at n13 hu6c ⊢
    have e13 := e12.trans n13
    have k1 := (n12.trans n13) _ _ k1 (by simp)
    have g1 := e13 _ _ g1 (by simp)
    have g2 := e13 _ _ g2 (by simp)
    have g3 := e13 _ _ g3 (by simp)
    have h1 := e13 _ _ h1 (by simp)
    have h2 := e13 _ _ h2 (by simp)
    have h3 := e13 _ _ h3 (by simp)
    have hu4c := e13 _ _ hu4c (by simp)
    have f13 := f10.trans e13
    clear n12 n13 e12 e13 f10 f11 e11 hu5 hu6 hu5c hu1c
    have dvb : ∀ i, CDivW i b := fun i => div_ok hb (Nat.lt_of_lt_of_le lb (ten_le (by decide)))
    have dvd : ∀ i, CDivW i d := fun i => div_ok hd (Nat.lt_of_lt_of_le ld (ten_le (by decide)))
    refine ⟨_, rfl, _, rfl, _, rfl, _, rfl, by show 2 ≤ sizeLine; decide, fun w2 hw2 => ?_⟩
    have n14 := (Fr.refl [] H13).new (o := .tup [.int (if a < 0 then -a else a), .int b]) hw2
    have k2 : (upd H13 w2 (.tup [.int (if a < 0 then -a else a), .int b])) w2 = some (.tup [.int (if a < 0 then -a else a), .int b]) := upd_same
    generalize upd H13 w2 (.tup [.int (if a < 0 then -a else a), .int b]) = H14 at n14 k2 ⊢
    refine ⟨_, rfl, _, rfl, _, _, rfl, rfl, dvb _, _, rfl, _, rfl, _, rfl, _, _, rfl, rfl, dvb _, _, rfl, _, rfl, _, rfl, _, _, rfl, rfl, dvd _, _, rfl, _, rfl, _, rfl, _, _, rfl, rfl, dvd _, _, rfl, by show 5 ≤ sizeLine; decide, fun u7 hu7 => ?_⟩
    have n15 := (Fr.refl [] H14).new (o := .lst [.ref w2, .int (a / b), .int (-(-a / b)), .int (c / d), .int (-(-c / d))]) hu7
    have hu7c : (upd H14 u7 (.lst [.ref w2, .int (a / b), .int (-(-a / b)), .int (c / d), .int (-(-c / d))])) u7 = some (.lst [.ref w2, .int (a / b), .int (-(-a / b)), .int (c / d), .int (-(-c / d))]) := upd_same
    generalize upd H14 u7 (.lst [.ref w2, .int (a / b), .int (-(-a / b)), .int (c / d), .int (-(-c / d))]) = H15 at n15 hu7c ⊢
    refine ⟨_, _, _, _, rfl, rfl, (n14.trans n15) _ _ hu4c (by simp), hu7c, by show 10 ≤ sizeLine; decide, fun u8 hu8 => ?_⟩
    have n16 := (Fr.refl [] H15).new (o := .lst ([.ref s1, .ref s2, .ref s3, .bl (decide (a * d < c * b)), .bl (decide (c * b < a * d))] ++ [.ref w2, .int (a / b), .int (-(-a / b)), .int (c / d), .int (-(-c / d))])) hu8
    have hu8c : (upd H15 u8 (.lst ([.ref s1, .ref s2, .ref s3, .bl (decide (a * d < c * b)), .bl (decide (c * b < a * d))] ++ [.ref w2, .int (a / b), .int (-(-a / b)), .int (c / d), .int (-(-c / d))]))) u8 = some (.lst ([.ref s1, .ref s2, .ref s3, .bl (decide (a * d < c * b)), .bl (decide (c * b < a * d))] ++ [.ref w2, .int (a / b), .int (-(-a / b)), .int (c / d), .int (-(-c / d))])) := upd_same
    generalize upd H15 u8 (.lst ([.ref s1, .ref s2, .ref s3, .bl (decide (a * d < c * b)), .bl (decide (c * b < a * d))] ++ [.ref w2, .int (a / b), .int (-(-a / b)), .int (c / d), .int (-(-c / d))])) = H16 at n16 hu8c ⊢
    have e16 := (n14.trans n15).trans n16
    have dp1 : Dp K H16 (.ref u6) (ten a b c d) := .lst (SqL.of (e16 _ _ hu6c (by simp)))
      (.cons (dp_pr (p := plusF a b c d) (SqT.of (e16 _ _ h1 (by simp)))) (.cons (dp_pr (p := minusF a b c d) (SqT.of (e16 _ _ h2 (by simp)))) (.cons (dp_pr (p := timesF a b c d) (SqT.of (e16 _ _ h3 (by simp)))) (.cons (.bl _) (.cons (.bl _)
        (.cons (dp_pr (p := (if a < 0 then -a else a, b)) (SqT.of (e16 _ _ k1 (by simp)))) (.cons (.int _) (.cons (.int _) (.cons (.int _) (.cons (.int _) .nil))))))))))
    have dp2 : Dp K H16 (.ref u8) (ten a b c d) := .lst (SqL.of hu8c)
      (.cons (dp_pr (p := plusF a b c d) (SqT.of (e16 _ _ g1 (by simp)))) (.cons (dp_pr (p := minusF a b c d) (SqT.of (e16 _ _ g2 (by simp)))) (.cons (dp_pr (p := timesF a b c d) (SqT.of (e16 _ _ g3 (by simp)))) (.cons (.bl _) (.cons (.bl _)
        (.cons (dp_pr (p := (if a < 0 then -a else a, b)) (SqT.of ((n15.trans n16) _ _ k2 (by simp)))) (.cons (.int _) (.cons (.int _) (.cons (.int _) (.cons (.int _) .nil))))))))))
    refine ⟨_, rfl, _, rfl, _, _, ten a b c d, rfl, dp1, dp2, ten_shaped _ _ _ _, ten_showable hb hd la lb lc ld, ten_len hb hd la lb lc ld, k _ (f13.trans e16)⟩
end
section
variable {P : Program} {w : World} {K : PySem.W.Frag} {mg : Str → Option Value} {base : Heap} {CB : Addr}
theorem shw_ok {x y : Int} (lx : x.natAbs < 10 ^ 302) (ly : y.natAbs < 10 ^ 302) : TxS 700 (mk (shw x y)) ∧ SeqAt.shaped (.str (mk (shw x y))) = true ∧ (PyData.str (mk (shw x y))).showable = true ∧ (PyData.str (mk (shw x y))).shown.length ≤ sizeLine := by
  have nx := numT_len (by decide) lx
  have ny := numT_len (by decide) ly
  have h : TxS 700 (mk (shw x y)) := by
    unfold shw
    by_cases z : y = 1
    · rw [if_pos z]
      exact ⟨by rw [mk_len]; omega, numT_asc x⟩
    · rw [if_neg z]
      refine ⟨by rw [mk_len, List.length_append, List.length_cons]; omega, fun c hc => ?_⟩
      rcases List.mem_append.mp hc with q | q
      · exact numT_asc x c q
      · rcases List.mem_cons.mp q with q | q
        · omega
        · exact numT_asc y c q
  have hl := h.1
  have hr := StrLaws.reprText_len (mk (shw x y)) (fun c hc => Nat.lt_of_lt_of_le (h.2 c hc) (by decide))
  have ho : PyData.strOk (mk (shw x y)) = true := strOk_mk (l := shw x y) h.2
  exact ⟨h, shaped_of ho (by simp [PyData.depth]), rfl, by rw [PyData.shown]; exact line_le (by omega)⟩
theorem outD_ok {y : Str} (h : TxS 7000 y) : SeqAt.shaped (outD (tl y)) = true ∧ (outD (tl y)).showable = true ∧ (outD (tl y)).shown.length ≤ sizeLine := by
  unfold outD
  by_cases hb : badOf (tl y)
  · rw [if_pos hb]
    exact badT_ok (y := mk (tl y)) (n := 7000) h (by decide)
  · rw [if_neg hb]
    have big : ∀ l : List Nat, (Frc.dig l).natAbs < 10 ^ 570 := fun l => by
      have h1 := Frc.dig_lt l
      have h2 := Frc.dig_ge l
      have h3 : (10 : Int) ^ 300 = ((10 ^ 300 : Nat) : Int) := by rw [Int.natCast_pow]; rfl
      have h4 : 10 ^ 300 + 1 < 10 ^ 570 := by decide +kernel
      rw [h3] at h1
      omega
    have one : (1 : Int).natAbs < 10 ^ 570 := by decide +kernel
    have ht : (topOf (tl y)).natAbs < 10 ^ 570 := big _
    have hbt : (botOf (tl y)).natAbs < 10 ^ 570 := by
      unfold botOf
      split
      · exact big _
      · exact one
    refine told_ok ?_ hbt
    unfold resOf
    dsimp only
    split
    · rw [Int.natAbs_neg]
      exact ht
    · exact ht
theorem ok_law {f : Addr} {fd : FuncData} (F : Fun K "law" "law" s_law f fd) (T : Blt mg) (F_law_bag : FnB P w K mg base CX0 1 "_law_bag" ["script"] (spBag K)) (F_law_take : FnB P w K mg base CX0 1 "_law_take" ["bag", "many"] spTake)
    (F_law_integer : FnB P w K mg base CX0 3 "_law_integer" ["bag"] spInt) (F_law_lowest : FnB P w K mg base CX0 1 "_law_lowest" ["top", "bottom"] spLow) (F_law_divided : FnB P w K mg base CX0 3 "_law_divided" ["top", "bottom"] (spDiv K)) (F_law_same : FnGB P w K mg base CX0 1 "_law_same" ["left", "right"] (spSameX K))
    (F_law_fraction : FnB P w K mg base CX0 4 "_law_fraction" ["bag"] (spDraw 60)) (F_law_counted : FnGB P w K mg base CX0 4 "_law_counted" ["one", "other"] (spCount K)) (F_law_long : FnB P w K mg base CX0 4 "_law_long" ["bag"] (spDraw 301))
    (F_show_ratio : FnB P w K mg base CX0 1 "show_ratio" ["one"] (spShow K)) (F_law_shown : FnB P w K mg base CX0 1 "_law_shown" ["one"] (spShow K)) (F_law_near : FnB P w K mg base CX0 2 "_law_near" ["bag", "one"] spNear)
    (F_law_reads : FnB P w K mg base CX0 2 "_law_reads" ["text"] spReads) (F_law_outcome : FnB P w K mg base CX0 3 "_law_outcome" ["text"] (spOut K)) : FnG P w K mg base CX0 5 f fd ["script"] (spLaw K) := by
  refine F.okG sc_law (fun vs H Q E h => ?_) (fun cdv A outer s H vs Q E hr hgu h => ?_)
  · obtain ⟨a, ns, rfl, _⟩ := h
    rfl
  · obtain ⟨a, ns, rfl, hS, hlen, k⟩ := h
    refine ⟨_, (pss_cons (ps_set (i := 1) sc_law.nd rfl (Or.inl rfl) (pe_callF F_law_bag (hr.mono (by decide)) rfl pass0 (pa_cons (pv 0) pa_nil)))
    (pss_cons (ps_set (i := 2) sc_law.nd rfl (Or.inl rfl) (pe_op op_add pe_int (pe_callF F_law_take (hr.mono (by decide)) rfl pass0 (pa_cons (pv 1) (pa_cons pe_int pa_nil)))))
    (pss_cons (ps_set (i := 3) sc_law.nd rfl (Or.inl rfl) (pe_op op_mulW (pv 2) (pe_callF F_law_integer (hr.mono (by decide)) rfl pass0 (pa_cons (pv 1) pa_nil))))
    (pss_cons (ps_set (i := 4) sc_law.nd rfl (Or.inl rfl) (pe_op op_mulW (pv 2) (pe_callF F_law_integer (hr.mono (by decide)) rfl pass0 (pa_cons (pv 1) pa_nil))))
    (pss_cons (ps_set (i := 5) sc_law.nd rfl (Or.inl rfl) (pe_lst (pa_cons pe_str (pa_cons pe_int (pa_cons pe_bl (pa_cons pe_bl pa_nil))))))
    (Evl.pss_cut (ps_if (pt_cmpR op_gt (pv 4) pe_int (nomark _))
      (pss_one (ps_set (i := 5) sc_law.nd rfl (Or.inl rfl) (pe_lst (pa_cons pe_str (pa_cons (pe_callF F_law_lowest (hr.mono (by decide)) rfl pass0 (pa_cons (pv 3) (pa_cons (pv 4) pa_nil))) pa_nil)))))
      pss_nil)
    (Evl.pss_cut (ps_if (pt_cmpR op_lt (pv 4) pe_int (nomark _))
      (pss_one (ps_set (i := 5) sc_law.nd rfl (Or.inl rfl) (pe_lst (pa_cons pe_str (pa_cons (pe_callF F_law_lowest (hr.mono (by decide)) rfl pass0 (pa_cons (pe_un un_neg (pv 3)) (pa_cons (pe_un un_neg (pv 4)) pa_nil))) pa_nil)))))
      pss_nil)
    (pss_cons (ps_if (PW.pt (pw_or (pt_not (pt_val (pe_callG F_law_same (hr.mono (by decide)) hgu rfl pass0 (pa_cons (pe_callF F_law_divided (hr.mono (by decide)) rfl pass0 (pa_cons (pv 3) (pa_cons (pv 4) pa_nil))) (pa_cons (pv 5) pa_nil))))) (pw_or1 (pt_not (pt_val (pe_callG F_law_same (hr.mono (by decide)) hgu rfl pass0 (pa_cons (pe_callF F_law_divided (hr.mono (by decide)) rfl pass0 (pa_cons (pv 3) (pa_cons pe_int pa_nil))) (pa_cons (pe_lst (pa_cons pe_str (pa_cons pe_int (pa_cons pe_bl (pa_cons pe_bl pa_nil))))) pa_nil))))))))
      (pss_one (ps_ret pe_bl))
      pss_nil)
    (pss_cons (ps_set (i := 6) sc_law.nd rfl (Or.inl rfl) (pe_callF F_law_fraction (hr.mono (by decide)) rfl pass0 (pa_cons (pv 1) pa_nil)))
    (pss_cons (ps_set (i := 7) sc_law.nd rfl (Or.inl rfl) (pe_callF F_law_fraction (hr.mono (by decide)) rfl pass0 (pa_cons (pv 1) pa_nil)))
    (Evl.pss_cut (ps_if (pt_cmpR op_eq (pe_callF F_law_take (hr.mono (by decide)) rfl pass0 (pa_cons (pv 1) (pa_cons pe_int pa_nil))) pe_int (nomark _))
      (pss_one (ps_set (i := 7) sc_law.nd rfl (Or.inl rfl) (pv 6)))
      pss_nil)
    (pss_cons (ps_if (PW.pt (pw_or (pt_not (pt_val (pe_callG F_law_counted (hr.mono (by decide)) hgu rfl pass0 (pa_cons (pv 6) (pa_cons (pv 7) pa_nil))))) (pw_or1 (pt_not (pt_val (pe_callG F_law_counted (hr.mono (by decide)) hgu rfl pass0 (pa_cons (pv 7) (pa_cons (pe_tup (pa_cons (pe_un un_neg (pe_ix ix_tup (pv 6) pe_int (fun _ _ => rfl))) (pa_cons (pe_ix ix_tup (pv 6) pe_int (fun _ _ => rfl)) pa_nil))) pa_nil))))))))
      (pss_one (ps_ret pe_bl))
      pss_nil)
    (Evl.pss_cut (ps_if (pt_cmpR op_eq (pe_callF F_law_take (hr.mono (by decide)) rfl pass0 (pa_cons (pv 1) (pa_cons pe_int pa_nil))) pe_int (nomark _))
      (pss_one (ps_set (i := 6) sc_law.nd rfl (Or.inl rfl) (pe_callF F_law_long (hr.mono (by decide)) rfl pass0 (pa_cons (pv 1) pa_nil))))
      pss_nil)
    (pss_cons (ps_for PassesOwn.never rfl (pi_list (pe_lst (pa_cons (pv 6) (pa_cons (pv 7) (pa_cons (pe_tup (pa_cons (pe_un un_neg (pe_ix ix_tup (pv 7) pe_int (fun _ _ => rfl))) (pa_cons (pe_ix ix_tup (pv 7) pe_int (fun _ _ => rfl)) pa_nil))) pa_nil))))) (pg_name (i := 8) sc_law.nd rfl (Or.inl rfl))
      (pss_one (ps_if (pt_not (pt_val (pe_callG F_law_same (hr.mono (by decide)) hgu rfl pass0 (pa_cons (pe_callF F_show_ratio (hr.mono (by decide)) rfl pass0 (pa_cons (pv 8) pa_nil)) (pa_cons (pe_callF F_law_shown (hr.mono (by decide)) rfl pass0 (pa_cons (pv 8) pa_nil)) pa_nil)))))
        (pss_one (ps_ret pe_bl))
        pss_nil)))
    (pss_cons (ps_set (i := 9) sc_law.nd rfl (Or.inl rfl) (pe_lst (pa_cons (pe_callF F_law_shown (hr.mono (by decide)) rfl pass0 (pa_cons (pv 6) pa_nil)) (pa_cons (pe_callF F_law_shown (hr.mono (by decide)) rfl pass0 (pa_cons (pv 7) pa_nil)) pa_nil))))
    (pss_cons (ps_for PassesOwn.never rfl (pi_range1 (by rfl) T.m_range (pa_cons pe_int pa_nil)) (pg_name (i := 10) sc_law.nd rfl (Or.inl rfl))
      (pss_cons (ps_expr (pe_bm PySem.F.plainAttrs_list PySem.F.slot_list_append PySem.F.type_list_append mt_append (pv 9) (pa_cons (pe_callF F_law_near (hr.mono (by decide)) rfl pass0 (pa_cons (pv 1) (pa_cons (pv 6) pa_nil))) pa_nil)))
      (pss_one (ps_expr (pe_bm PySem.F.plainAttrs_list PySem.F.slot_list_append PySem.F.type_list_append mt_append (pv 9) (pa_cons (pe_callF F_law_near (hr.mono (by decide)) rfl pass0 (pa_cons (pv 1) (pa_cons (pv 7) pa_nil))) pa_nil))))))
    (pss_cons (ps_for PassesOwn.never rfl (pi_list (pv 9)) (pg_name (i := 11) sc_law.nd rfl (Or.inl rfl))
      (pss_cons (ps_set (i := 8) sc_law.nd rfl (Or.inl rfl) (pe_callF F_law_reads (hr.mono (by decide)) rfl pass0 (pa_cons (pv 11) pa_nil)))
      (pss_cons (ps_set (i := 5) sc_law.nd rfl (Or.inl rfl) (pe_lst (pa_cons pe_str (pa_cons (pv 11) (pa_cons pe_bl (pa_cons pe_bl pa_nil))))))
      (Evl.pss_cut (ps_if (pt_cmpR op_notN (pv 8) pe_non (nomark _))
        (pss_one (ps_set (i := 5) sc_law.nd rfl (Or.inl rfl) (pe_lst (pa_cons pe_str (pa_cons (pv 8) pa_nil)))))
        pss_nil)
      (pss_one (ps_if (pt_not (pt_val (pe_callG F_law_same (hr.mono (by decide)) hgu rfl pass0 (pa_cons (pe_callF F_law_outcome (hr.mono (by decide)) rfl pass0 (pa_cons (pv 11) pa_nil)) (pa_cons (pv 5) pa_nil)))))
        (pss_one (ps_ret pe_bl))
        pss_nil))))))
    (pss_one (ps_ret pe_bl))))))))))))))))))), ?_⟩
    refine ⟨_, rfl, a, ns, rfl, hS, by omega, fun b c H1 hb hc e1 B1 => ?_⟩
    refine ⟨_, rfl, b, c, 30, rfl, B1, by decide, by decide, fun sh H2 t0 t1 e2 B2 => ⟨_, _, rfl, rfl, ?_⟩⟩
    have sh1 : (1 + sh).natAbs < 10 ^ 2 := by omega
    refine ⟨_, rfl, _, rfl, b, c, rfl, B2, fun ti H3 hti e3 B3 => ⟨_, _, rfl, rfl, mul_ok (Nat.lt_of_lt_of_le sh1 (ten_le (by decide))) (Nat.lt_of_lt_of_le hti (ten_le (by decide))), ?_⟩⟩
    refine ⟨_, rfl, _, rfl, b, c, rfl, B3, fun bi H4 hbi e4 B4 => ⟨_, _, rfl, rfl, mul_ok (Nat.lt_of_lt_of_le sh1 (ten_le (by decide))) (Nat.lt_of_lt_of_le hbi (ten_le (by decide))), ?_⟩⟩
    have ht : ((1 + sh) * ti).natAbs < 10 ^ 63 := Nat.lt_of_lt_of_le (nat_mul sh1 hti) (ten_le (by decide))
    have hbo : ((1 + sh) * bi).natAbs < 10 ^ 63 := Nat.lt_of_lt_of_le (nat_mul sh1 hbi) (ten_le (by decide))
    have e4 : Fr [b] H1 H4 := ((e2.trans e3).trans e4)
    clear e2 e3 B2 B3
    refine ⟨by show 4 ≤ sizeLine; decide, fun pd hpd => ?_⟩
    have none16 : True := trivial
    refine ⟨fun σ' H' => ∃ pd : Addr, BagC H' b c ∧ Dp K H' (.ref pd) (if 0 < ((1 + sh) * bi) then toldF (Frc.low ((1 + sh) * ti) ((1 + sh) * bi)).1 (Frc.low ((1 + sh) * ti) ((1 + sh) * bi)).2 else badN) ∧ σ' = [some (.ref a), some (.ref b), some (.int (1 + sh)), some (.int ((1 + sh) * ti)), some (.int ((1 + sh) * bi)), some (.ref pd), none, none, none, none, none, none], ?_, ?_⟩
    · refine ⟨_, rfl, _, _, rfl, rfl, _, rfl, ?_⟩
      refine dec_iff (fun pos => ?_) fun neg => ?_
      · refine ⟨_, rfl, _, rfl, ((1 + sh) * ti), ((1 + sh) * bi), rfl, pos, Nat.lt_of_lt_of_le hbo (ten_le (by decide)), fun q H5 e5 hq => ⟨by show 2 ≤ sizeLine; decide, fun r hr => ?_⟩⟩
        refine ⟨r, ((B4.new hpd).fr e5 (by simp) (by simp)).new hr, ?_, rfl⟩
        rw [if_pos pos]
        exact .lst (SqL.of upd_same) (.cons (.str _) (.cons (dp_pr (p := ((Frc.low ((1 + sh) * ti) ((1 + sh) * bi)).1, (Frc.low ((1 + sh) * ti) ((1 + sh) * bi)).2)) (SqT.of (by rw [upd_ne (ne_of_none hq hr)]; exact hq))) .nil))
      · refine ⟨pd, B4.new hpd, ?_, rfl⟩
        rw [if_neg neg]
        exact .lst (SqL.of upd_same) (.cons (.str _) (.cons (.int _) (.cons (.bl _) (.cons (.bl _) .nil))))
    clear hpd B4 e4
    rintro σ' H4 ⟨pd, B4, dp4, rfl⟩
    generalize (1 + sh) * ti = tt at ht dp4 ⊢
    generalize (1 + sh) * bi = bb at hbo dp4 ⊢
    refine ⟨fun σ' H' => ∃ pd : Addr, BagC H' b c ∧ Dp K H' (.ref pd) (dueD tt bb) ∧ σ' = [some (.ref a), some (.ref b), some (.int (1 + sh)), some (.int tt), some (.int bb), some (.ref pd), none, none, none, none, none, none], ?_, ?_⟩
    · refine ⟨_, rfl, _, _, rfl, rfl, _, rfl, dec_iff (fun neg => ?_) fun pos => ?_⟩
      · refine ⟨_, rfl, _, rfl, _, rfl, _, rfl, -tt, -bb, rfl, by omega, by rw [Int.natAbs_neg]; exact Nat.lt_of_lt_of_le hbo (ten_le (by decide)), fun q H5 e5 hq => ⟨by show 2 ≤ sizeLine; decide, fun r hr => ?_⟩⟩
        refine ⟨r, (B4.fr e5 (by simp) (by simp)).new hr, ?_, rfl⟩
        unfold dueD rat
        rw [if_neg (by omega), if_pos neg]
        exact .lst (SqL.of upd_same) (.cons (.str _) (.cons (dp_pr (p := ((Frc.low (-tt) (-bb)).1, (Frc.low (-tt) (-bb)).2)) (SqT.of (by rw [upd_ne (ne_of_none hq hr)]; exact hq))) .nil))
      · refine ⟨pd, B4, ?_, rfl⟩
        unfold dueD rat
        by_cases z : bb = 0
        · rw [if_neg (by omega)] at dp4
          rw [if_pos z]
          exact dp4
        · rw [if_pos (by omega)] at dp4
          rw [if_neg z, if_neg pos]
          exact dp4
    clear dp4 B4 H4 pd
    rintro σ' H4 ⟨pd, B4, dp4, rfl⟩
    have ok4 := due_ok ht hbo
    refine ⟨_, rfl, _, rfl, tt, bb, rfl, Nat.lt_of_lt_of_le hbo (ten_le (by decide)), fun q H5 e5 hq => ?_⟩
    refine ⟨_, rfl, _, _, dueD tt bb, rfl, hq, dp_fr e5 _ _ dp4, ok4.1, ok4.2.1, ok4.2.2, _, rfl, ?_⟩
    refine ⟨_, rfl, tt, 0, rfl, by decide +kernel, fun q2 H6 e6 hq2 => ?_⟩
    refine ⟨by show 4 ≤ sizeLine; decide, fun q3 hq3 => ?_⟩
    have dp6 : Dp K (upd H6 q3 (.lst [.str (Str.ofString "bad"), .int 0, .bl true, .bl false])) (.ref q3) badN := .lst (SqL.of upd_same) (.cons (.str _) (.cons (.int _) (.cons (.bl _) (.cons (.bl _) .nil))))
    have hq2' : Dp K H6 (.ref q2) badN := hq2
    refine ⟨_, _, badN, rfl, dp_fr ((Fr.refl [] H6).new hq3) _ _ hq2', dp6, badN_ok.1, badN_ok.2.1, badN_ok.2.2, _, rfl, ?_⟩
    refine iteN rfl ?_
    have B7 := (((B4.fr e5 (by simp) (by simp)).fr e6 (by simp) (by simp)).new (o := .lst [.str (Str.ofString "bad"), .int 0, .bl true, .bl false]) hq3)
    generalize upd H6 q3 (.lst [.str (Str.ofString "bad"), .int 0, .bl true, .bl false]) = H7 at B7 ⊢
    clear dp6 hq2' hq2 hq3 hq dp4 e5 e6 B4 ok4 H4 H5 H6
    -- one, other
    have tb : ∀ {H : Hp} {p : Addr} {l : List V}, BagC H b c → H p = some (.tup l) → p ≠ b := fun {H p l} hB h => by
      obtain ⟨i, v, s, hb⟩ := hB.b
      exact ne_of h hb (by intro z; cases z)
    refine ⟨_, rfl, b, c, rfl, B7, fun p1 x1 y1 H8 hy1 lx1 ly1 e8 B8 h1 => ?_⟩
    refine ⟨_, rfl, b, c, rfl, B8, fun p2 x2 y2 H9 hy2 lx2 ly2 e9 B9 h2 => ?_⟩
    have h1 := e9 _ _ h1 (by simpa using tb B8 h1)
    refine ⟨fun σ' H' => BagC H' b c ∧ ∃ (p1 p2 : Addr) (x1 y1 x2 y2 : Int), H' p1 = some (.tup [.int x1, .int y1]) ∧ H' p2 = some (.tup [.int x2, .int y2]) ∧ (0 < y1 ∧ x1.natAbs < 10 ^ 60 ∧ y1.natAbs < 10 ^ 60) ∧ (0 < y2 ∧ x2.natAbs < 10 ^ 60 ∧ y2.natAbs < 10 ^ 60) ∧
      σ' = [some (.ref a), some (.ref b), some (.int (1 + sh)), some (.int tt), some (.int bb), some (.ref pd), some (.ref p1), some (.ref p2), none, none, none, none], ?_, ?_⟩
    · refine ⟨_, rfl, b, c, 6, rfl, B9, by decide, by decide, fun z H10 z0 z1 e10 B10 => ⟨rfl, _, rfl, ?_⟩⟩
      have h1 := e10 _ _ h1 (by simpa using tb B9 h1)
      have h2 := e10 _ _ h2 (by simpa using tb B9 h2)
      refine eq_if (fun _ => ?_) fun _ => ?_
      · exact ⟨_, rfl, B10, p1, p1, x1, y1, x1, y1, h1, h1, ⟨hy1, lx1, ly1⟩, ⟨hy1, lx1, ly1⟩, rfl⟩
      · exact ⟨B10, p1, p2, x1, y1, x2, y2, h1, h2, ⟨hy1, lx1, ly1⟩, ⟨hy2, lx2, ly2⟩, rfl⟩
    rintro σ' H9 ⟨B9, p1, p2, x1, y1, x2, y2, h1, h2, ⟨hy1, lx1, ly1⟩, ⟨hy2, lx2, ly2⟩, rfl⟩
    have u61 : ∀ {i : Int}, i.natAbs < 10 ^ 60 → i.natAbs < 10 ^ 61 := fun h => Nat.lt_of_lt_of_le h (ten_le (by decide))
    refine ⟨_, rfl, _, rfl, p1, p2, x1, y1, x2, y2, rfl, SqT.of h1, SqT.of h2, hy1, hy2, u61 lx1, u61 ly1, u61 lx2, u61 ly2, fun H10 e10 => ⟨_, rfl, ?_⟩⟩
    have h1 := e10 _ _ h1 (by simp)
    have h2 := e10 _ _ h2 (by simp)
    have B10 := B9.fr e10 (by simp) (by simp)
    refine ⟨_, rfl, _, rfl, _, _, _, _, rfl, rfl, SqT.of h1, rfl, _, rfl, _, rfl, _, _, _, _, rfl, rfl, SqT.of h1, rfl, by show 2 ≤ sizeLine; decide, fun q hq => ?_⟩
    have h1' : (upd H10 q (.tup [.int (-x1), .int y1])) p1 = some (.tup [.int x1, .int y1]) := by rw [upd_ne (ne_of_none h1 hq)]; exact h1
    have h2' : (upd H10 q (.tup [.int (-x1), .int y1])) p2 = some (.tup [.int x2, .int y2]) := by rw [upd_ne (ne_of_none h2 hq)]; exact h2
    have B11 := B10.new (o := .tup [.int (-x1), .int y1]) hq
    refine ⟨p2, q, x2, y2, -x1, y1, rfl, SqT.of h2', SqT.of upd_same, hy2, hy1, u61 lx2, u61 ly2, by rw [Int.natAbs_neg]; exact u61 lx1, u61 ly1, fun H12 e12 => ⟨_, rfl, ?_⟩⟩
    have h1 := e12 _ _ h1' (by simp)
    have h2 := e12 _ _ h2' (by simp)
    have B12 := B11.fr e12 (by simp) (by simp)
    refine iteN rfl ?_
    have u302 : ∀ {i : Int}, i.natAbs < 10 ^ 60 → i.natAbs < 10 ^ 302 := fun h => Nat.lt_of_lt_of_le h (ten_le (by decide))
    have u3 : ∀ {i : Int}, i.natAbs < 10 ^ 301 → i.natAbs < 10 ^ 302 := fun h => Nat.lt_of_lt_of_le h (ten_le (by decide))
    refine ⟨fun σ' H' => BagC H' b c ∧ ∃ (p1 p2 : Addr) (x1 y1 x2 y2 : Int), H' p1 = some (.tup [.int x1, .int y1]) ∧ H' p2 = some (.tup [.int x2, .int y2]) ∧ (x1.natAbs < 10 ^ 302 ∧ y1.natAbs < 10 ^ 302) ∧ (x2.natAbs < 10 ^ 302 ∧ y2.natAbs < 10 ^ 302) ∧
      σ' = [some (.ref a), some (.ref b), some (.int (1 + sh)), some (.int tt), some (.int bb), some (.ref pd), some (.ref p1), some (.ref p2), none, none, none, none], ?_, ?_⟩
    · refine ⟨_, rfl, b, c, 10, rfl, B12, by decide, by decide, fun z H13 z0 z1 e13 B13 => ⟨rfl, _, rfl, ?_⟩⟩
      have h1 := e13 _ _ h1 (by simpa using tb B12 h1)
      have h2 := e13 _ _ h2 (by simpa using tb B12 h2)
      refine eq_if (fun _ => ?_) fun _ => ?_
      · refine ⟨_, rfl, b, c, rfl, B13, fun p3 x3 y3 H14 hy3 lx3 ly3 e14 B14 h3 => ?_⟩
        exact ⟨B14, p3, p2, x3, y3, x2, y2, h3, e14 _ _ h2 (by simpa using tb B13 h2), ⟨u3 lx3, u3 ly3⟩, ⟨u302 lx2, u302 ly2⟩, rfl⟩
      · exact ⟨B13, p1, p2, x1, y1, x2, y2, h1, h2, ⟨u302 lx1, u302 ly1⟩, ⟨u302 lx2, u302 ly2⟩, rfl⟩
    rintro σ' H13 ⟨B13, p1, p2, x1, y1, x2, y2, h1, h2, ⟨lx1, ly1⟩, ⟨lx2, ly2⟩, rfl⟩
    have u570 : ∀ {i : Int}, i.natAbs < 10 ^ 302 → i.natAbs < 10 ^ 570 := fun h => Nat.lt_of_lt_of_le h (ten_le (by decide))
    -- shown alike
    refine ⟨_, rfl, _, rfl, _, rfl, _, _, _, _, rfl, rfl, SqT.of h2, rfl, _, rfl, _, rfl, _, _, _, _, rfl, rfl, SqT.of h2, rfl, by show 2 ≤ sizeLine; decide, fun q hq => ?_⟩
    have h1 := ((Fr.refl [] H13).new (o := .tup [.int (-x2), .int y2]) hq) _ _ h1 (by simp)
    have h2 := ((Fr.refl [] H13).new (o := .tup [.int (-x2), .int y2]) hq) _ _ h2 (by simp)
    have h3 : (upd H13 q (.tup [.int (-x2), .int y2])) q = some (.tup [.int (-x2), .int y2]) := upd_same
    have B14 := B13.new (o := .tup [.int (-x2), .int y2]) hq
    generalize upd H13 q (.tup [.int (-x2), .int y2]) = H14 at h1 h2 h3 B14 ⊢
    refine ⟨by show 3 ≤ sizeLine; decide, fun L hL => ?_⟩
    have n15 := (Fr.refl [] H14).new (o := .lst [.ref p1, .ref p2, .ref q]) hL
    have hLc : (upd H14 L (.lst [.ref p1, .ref p2, .ref q])) L = some (.lst [.ref p1, .ref p2, .ref q]) := upd_same
    have B15 := B14.new (o := .lst [.ref p1, .ref p2, .ref q]) hL
    generalize upd H14 L (.lst [.ref p1, .ref p2, .ref q]) = H15 at n15 hLc B15 ⊢
    have h1 := n15 _ _ h1 (by simp)
    have h2 := n15 _ _ h2 (by simp)
    have h3 := n15 _ _ h3 (by simp)
    refine ⟨L, rfl, ⟨_, SqL.of hLc⟩, for_list (K := K) (a := L) (xs := [V.ref p1, .ref p2, .ref q])
      (fun i σ H' => H' = H15 ∧ ∃ o : Option V, σ = [some (.ref a), some (.ref b), some (.int (1 + sh)), some (.int tt), some (.int bb), some (.ref pd), some (.ref p1), some (.ref p2), o, none, none, none])
      ⟨rfl, _, rfl⟩ (fun i σ H' _ z => by rw [z.1]; exact SqL.of hLc) ?_ ?_⟩
    · rintro i y σ H' hy ⟨rfl, o, rfl⟩
      have hr : ∃ (r : Addr) (x z : Int), y = .ref r ∧ H' r = some (.tup [.int x, .int z]) ∧ x.natAbs < 10 ^ 302 ∧ z.natAbs < 10 ^ 302 := by
        have hi := (List.getElem?_eq_some_iff.mp hy).1
        have h012 : i = 0 ∨ i = 1 ∨ i = 2 := by simp at hi; omega
        rcases h012 with rfl | rfl | rfl
        · exact ⟨p1, x1, y1, (Option.some.inj hy).symm, h1, lx1, ly1⟩
        · exact ⟨p2, x2, y2, (Option.some.inj hy).symm, h2, lx2, ly2⟩
        · exact ⟨q, -x2, y2, (Option.some.inj hy).symm, h3, by rw [Int.natAbs_neg]; exact lx2, ly2⟩
      obtain ⟨r, x, z, rfl, hr, hx, hz⟩ := hr
      have sx := shw_ok hx hz
      refine ⟨_, rfl, r, x, z, rfl, SqT.of hr, u570 hx, u570 hz, _, rfl, r, x, z, rfl, SqT.of hr, u570 hx, u570 hz, _, _, .str (mk (shw x z)), rfl, .str _, .str _, sx.2.1, sx.2.2.1, sx.2.2.2, _, rfl, iteN rfl ?_⟩
      exact ⟨rfl, _, rfl⟩
    · rintro σ H' ⟨rfl, o, rfl⟩
      refine ⟨_, rfl, p1, x1, y1, rfl, SqT.of h1, u570 lx1, u570 ly1, _, rfl, p2, x2, y2, rfl, SqT.of h2, u570 lx2, u570 ly2, by show 2 ≤ sizeLine; decide, fun pt hpt => ?_⟩
      have ptb := B15.neb hpt
      have ptc := B15.nec hpt
      have B16 := B15.new (o := .lst [vS (shw x1 y1), vS (shw x2 y2)]) hpt
      have n16 := (Fr.refl [] H').new (o := .lst [vS (shw x1 y1), vS (shw x2 y2)]) hpt
      have h1 := n16 _ _ h1 (by simp)
      have h2 := n16 _ _ h2 (by simp)
      refine ⟨_, rfl, by decide, by decide, for_rng (n := 4)
        (fun i σ H' => BagC H' b c ∧ H' p1 = some (.tup [.int x1, .int y1]) ∧ H' p2 = some (.tup [.int x2, .int y2]) ∧ ∃ (ys : List Str) (o10 : Option V), ys.length = 2 + 2 * i ∧ (∀ z ∈ ys, TxS 7000 z) ∧ H' pt = some (.lst (ys.map V.str)) ∧
          σ = [some (.ref a), some (.ref b), some (.int (1 + sh)), some (.int tt), some (.int bb), some (.ref pd), some (.ref p1), some (.ref p2), o, some (.ref pt), o10, none])
        ⟨B16, h1, h2, [mk (shw x1 y1), mk (shw x2 y2)], none, rfl, fun z hz => ?_, upd_same, rfl⟩ ?_ ?_⟩
      · simp only [List.mem_cons, List.not_mem_nil, or_false] at hz
        rcases hz with rfl | rfl
        · exact (shw_ok lx1 ly1).1.more (by decide)
        · exact (shw_ok lx2 ly2).1.more (by decide)
      · rintro i σ H17 hi ⟨B17, h1, h2, ys, o10, hl, hall, hp, rfl⟩
        have snoc : ∀ {ys : List Str} {z : Str}, (∀ z ∈ ys, TxS 7000 z) → TxS 7000 z → ∀ u ∈ ys ++ [z], TxS 7000 u := fun {ys z} h hz u hu => by
          rcases List.mem_append.mp hu with q | q
          · exact h u q
          · have : u = z := by simpa using q
            rw [this]
            exact hz
        have small : ∀ {n : Nat}, n ≤ 100 → n < sizeLine := fun h => Nat.lt_of_le_of_lt h (by decide)
        refine ⟨_, rfl, .inl ⟨rfl, _, SqL.of hp⟩, _, rfl, _, rfl, b, c, p1, x1, y1, rfl, B17, h1, lx1, ly1, fun z H18 hz e18 B18 => ?_⟩
        have hp := e18 _ _ hp (by simpa using ptb)
        have h1 := e18 _ _ h1 (by simpa using tb B17 h1)
        have h2 := e18 _ _ h2 (by simpa using tb B17 h2)
        refine ⟨_, _, _, rfl, rfl, hp, small (by rw [List.length_map]; omega), ?_⟩
        have B19 := B18.put (o := .lst (ys.map V.str ++ [.str z])) ptb ptc
        have hp2 : (upd H18 pt (.lst (ys.map V.str ++ [.str z]))) pt = some (.lst ((ys ++ [z]).map V.str)) := by rw [upd_same, List.map_append]; rfl
        have h1' : (upd H18 pt (.lst (ys.map V.str ++ [.str z]))) p1 = some (.tup [.int x1, .int y1]) := by rw [upd_ne (ne_of h1 hp (by intro z; cases z))]; exact h1
        have h2' : (upd H18 pt (.lst (ys.map V.str ++ [.str z]))) p2 = some (.tup [.int x2, .int y2]) := by rw [upd_ne (ne_of h2 hp (by intro z; cases z))]; exact h2
        generalize upd H18 pt (.lst (ys.map V.str ++ [.str z])) = H19 at B19 hp2 h1' h2' ⊢
        refine ⟨_, rfl, .inl ⟨rfl, _, SqL.of hp2⟩, _, rfl, _, rfl, b, c, p2, x2, y2, rfl, B19, h2', lx2, ly2, fun z2 H20 hz2 e20 B20 => ?_⟩
        have hp3 := e20 _ _ hp2 (by simpa using ptb)
        have h1 := e20 _ _ h1' (by simpa using tb B19 h1')
        have h2 := e20 _ _ h2' (by simpa using tb B19 h2')
        refine ⟨_, _, _, rfl, rfl, hp3, small (by rw [List.length_map, List.length_append]; simp; omega), ?_⟩
        refine ⟨B20.put ptb ptc, by rw [upd_ne (ne_of h1 hp3 (by intro z; cases z))]; exact h1, by rw [upd_ne (ne_of h2 hp3 (by intro z; cases z))]; exact h2, ys ++ [z] ++ [z2], _, by simp [hl]; omega, snoc (snoc hall hz) hz2, by rw [upd_same, List.map_append (l₁ := ys ++ [z])]; rfl, rfl⟩
      · rintro σ H17 ⟨B17, h1, h2, ys, o10, hl, hall, hp, rfl⟩
        refine ⟨_, rfl, pt, rfl, ⟨_, SqL.of hp⟩, for_list (K := K) (a := pt) (xs := ys.map V.str)
          (fun i σ H' => H' pt = some (.lst (ys.map V.str)) ∧ ∃ (o5 o8 o11 : Option V), σ = [some (.ref a), some (.ref b), some (.int (1 + sh)), some (.int tt), some (.int bb), o5, some (.ref p1), some (.ref p2), o8, some (.ref pt), o10, o11])
          ⟨hp, _, _, _, rfl⟩ (fun i σ H' _ h => SqL.of h.1) ?_ ?_⟩
        · rintro i y σ H18 hy ⟨hp, o5, o8, o11, rfl⟩
          obtain ⟨z, hz, rfl⟩ := get_mapf hy
          have hzt := hall z (List.mem_of_getElem? hz)
          have zl : (tl z).length ≤ 7000 := by rw [← len_tl]; exact hzt.1
          refine ⟨_, rfl, tl z, rfl, by omega, fun v H19 e19 hv => ?_⟩
          have hp := e19 _ _ hp (by simp)
          refine ⟨_, rfl, by show 4 ≤ sizeLine; decide, fun pd2 hpd2 => ?_⟩
          have n20 := (Fr.refl [] H19).new (o := .lst [.str (Str.ofString "bad"), .str z, .bl true, .bl false]) hpd2
          have hd20 : (upd H19 pd2 (.lst [.str (Str.ofString "bad"), .str z, .bl true, .bl false])) pd2 = some (.lst [.str (Str.ofString "bad"), .str z, .bl true, .bl false]) := upd_same
          generalize upd H19 pd2 (.lst [.str (Str.ofString "bad"), .str z, .bl true, .bl false]) = H20 at n20 hd20 ⊢
          have hp := n20 _ _ hp (by simp)
          refine ⟨fun σ' H' => H' pt = some (.lst (ys.map V.str)) ∧ ∃ pd3 : Addr, Dp K H' (.ref pd3) (outD (tl z)) ∧ σ' = [some (.ref a), some (.ref b), some (.int (1 + sh)), some (.int tt), some (.int bb), some (.ref pd3), some (.ref p1), some (.ref p2), some v, some (.ref pt), o10, some (.str z)], ?_, ?_⟩
          · rcases hv with ⟨hb, rfl⟩ | ⟨hn, r, rfl, hr⟩
            · refine ⟨_, rfl, rfl, _, rfl, iteN rfl ⟨hp, pd2, ?_, rfl⟩⟩
              unfold outD
              rw [if_pos hb]
              exact .lst (SqL.of hd20) (.cons (.str _) (.cons (.str _) (.cons (.bl _) (.cons (.bl _) .nil))))
            · refine ⟨_, rfl, rfl, _, rfl, iteY rfl ?_⟩
              have hr := n20 _ _ hr (by simp)
              refine ⟨_, rfl, by show 2 ≤ sizeLine; decide, fun pd3 hpd3 => ⟨by rw [upd_ne (ne_of_none hp hpd3)]; exact hp, pd3, ?_, rfl⟩⟩
              unfold outD
              rw [if_neg hn]
              exact .lst (SqL.of upd_same) (.cons (.str _) (.cons (dp_pr (p := ((resOf (tl z)).1, (resOf (tl z)).2)) (SqT.of (by rw [upd_ne (ne_of_none hr hpd3)]; exact hr))) .nil))
          rintro σ' H21 ⟨hp, pd3, dp3, rfl⟩
          have ok := outD_ok hzt
          refine ⟨_, rfl, tl z, rfl, by omega, fun q H22 e22 hq => ?_⟩
          refine ⟨_, rfl, _, _, outD (tl z), rfl, hq, dp_fr e22 _ _ dp3, ok.1, ok.2.1, ok.2.2, _, rfl, iteN rfl ?_⟩
          exact ⟨e22 _ _ hp (by simp), _, _, _, rfl⟩
        · rintro σ H18 ⟨hp, o5, o8, o11, rfl⟩
          exact k _
end

/-! ### what the top has written, and the law -/
theorem all_mk {P : Program} {w : World} {K : PySem.W.Frag} {h : Heap} {mg : Str → Option Value} {fa CB CD CT CM f1 f2 f3 f4 f5 f6 f7 f8 f9 f10 f11 f12 f13 f14 f15 f16 f17 f18 f19 f20 f21 f22 f23 f24 f25 f26 f27 : Addr} (X : K.In h) (G : h.Ns mainGlobals mg) (hfa : mg "law" = some (.ref fa))
    {od1 an1 : Option Addr} {sl1 : Array (Option Value)} {oc1 kV1 dc1 pm1 cd1 ct1 : Value}
    {od2 an2 : Option Addr} {sl2 : Array (Option Value)} {oc2 kV2 dc2 pm2 cd2 ct2 : Value}
    {od3 an3 : Option Addr} {sl3 : Array (Option Value)} {oc3 kV3 dc3 pm3 cd3 ct3 : Value}
    {od4 an4 : Option Addr} {sl4 : Array (Option Value)} {oc4 kV4 dc4 pm4 cd4 ct4 : Value}
    {od5 an5 : Option Addr} {sl5 : Array (Option Value)} {oc5 kV5 dc5 pm5 cd5 ct5 : Value}
    {od6 an6 : Option Addr} {sl6 : Array (Option Value)} {oc6 kV6 dc6 pm6 cd6 ct6 : Value}
    {od7 an7 : Option Addr} {sl7 : Array (Option Value)} {oc7 kV7 dc7 pm7 cd7 ct7 : Value}
    {od8 an8 : Option Addr} {sl8 : Array (Option Value)} {oc8 kV8 dc8 pm8 cd8 ct8 : Value}
    {od9 an9 : Option Addr} {sl9 : Array (Option Value)} {oc9 kV9 dc9 pm9 cd9 ct9 : Value}
    {od10 an10 : Option Addr} {sl10 : Array (Option Value)} {oc10 kV10 dc10 pm10 cd10 ct10 : Value}
    {od11 an11 : Option Addr} {sl11 : Array (Option Value)} {oc11 kV11 dc11 pm11 cd11 ct11 : Value}
    {od12 an12 : Option Addr} {sl12 : Array (Option Value)} {oc12 kV12 dc12 pm12 cd12 ct12 : Value}
    {od13 an13 : Option Addr} {sl13 : Array (Option Value)} {oc13 kV13 dc13 pm13 cd13 ct13 : Value}
    {od14 an14 : Option Addr} {sl14 : Array (Option Value)} {oc14 kV14 dc14 pm14 cd14 ct14 : Value}
    {od15 an15 : Option Addr} {sl15 : Array (Option Value)} {oc15 kV15 dc15 pm15 cd15 ct15 : Value}
    {od16 an16 : Option Addr} {sl16 : Array (Option Value)} {oc16 kV16 dc16 pm16 cd16 ct16 : Value}
    {od17 an17 : Option Addr} {sl17 : Array (Option Value)} {oc17 kV17 dc17 pm17 cd17 ct17 : Value}
    {od18 an18 : Option Addr} {sl18 : Array (Option Value)} {oc18 kV18 dc18 pm18 cd18 ct18 : Value}
    {od19 an19 : Option Addr} {sl19 : Array (Option Value)} {oc19 kV19 dc19 pm19 cd19 ct19 : Value}
    {od20 an20 : Option Addr} {sl20 : Array (Option Value)} {oc20 kV20 dc20 pm20 cd20 ct20 : Value}
    {od21 an21 : Option Addr} {sl21 : Array (Option Value)} {oc21 kV21 dc21 pm21 cd21 ct21 : Value}
    {od22 an22 : Option Addr} {sl22 : Array (Option Value)} {oc22 kV22 dc22 pm22 cd22 ct22 : Value}
    {od23 an23 : Option Addr} {sl23 : Array (Option Value)} {oc23 kV23 dc23 pm23 cd23 ct23 : Value}
    {od24 an24 : Option Addr} {sl24 : Array (Option Value)} {oc24 kV24 dc24 pm24 cd24 ct24 : Value}
    {od25 an25 : Option Addr} {sl25 : Array (Option Value)} {oc25 kV25 dc25 pm25 cd25 ct25 : Value}
    {od26 an26 : Option Addr} {sl26 : Array (Option Value)} {oc26 kV26 dc26 pm26 cd26 ct26 : Value}
    {od27 an27 : Option Addr} {sl27 : Array (Option Value)} {oc27 kV27 dc27 pm27 cd27 ct27 : Value}
    (gB : PySem.W.nsIn K mainGlobals "BadNumber" = some (some (.ref CB)))
    (TB : ∃ fI, XS.ErrTxt P K mg "BadNumber" "BadNumber.__init__" s_iB ["value"] CB fI)
    (a1 : PySem.W.nsIn K mainGlobals "ratio" = some (some (.ref f1)))
    (l1 : K.lookup f1 = some ⟨oc1, od1, .func (PySem.W.fnOf "ratio" "ratio" (defArgs s_ratio) (defBody s_ratio) (defScope s_ratio) .none kV1 dc1 pm1 an1 cd1 ct1), sl1⟩)
    (c1 : PySem.W.codeIn K cd1 "ratio" = true) (k1 : PySem.W.keepIn K (.ref f1) = true)
    (a2 : PySem.W.nsIn K mainGlobals "plus" = some (some (.ref f2)))
    (l2 : K.lookup f2 = some ⟨oc2, od2, .func (PySem.W.fnOf "plus" "plus" (defArgs s_plus) (defBody s_plus) (defScope s_plus) .none kV2 dc2 pm2 an2 cd2 ct2), sl2⟩)
    (c2 : PySem.W.codeIn K cd2 "plus" = true) (k2 : PySem.W.keepIn K (.ref f2) = true)
    (a3 : PySem.W.nsIn K mainGlobals "minus" = some (some (.ref f3)))
    (l3 : K.lookup f3 = some ⟨oc3, od3, .func (PySem.W.fnOf "minus" "minus" (defArgs s_minus) (defBody s_minus) (defScope s_minus) .none kV3 dc3 pm3 an3 cd3 ct3), sl3⟩)
    (c3 : PySem.W.codeIn K cd3 "minus" = true) (k3 : PySem.W.keepIn K (.ref f3) = true)
    (a4 : PySem.W.nsIn K mainGlobals "times" = some (some (.ref f4)))
    (l4 : K.lookup f4 = some ⟨oc4, od4, .func (PySem.W.fnOf "times" "times" (defArgs s_times) (defBody s_times) (defScope s_times) .none kV4 dc4 pm4 an4 cd4 ct4), sl4⟩)
    (c4 : PySem.W.codeIn K cd4 "times" = true) (k4 : PySem.W.keepIn K (.ref f4) = true)
    (a5 : PySem.W.nsIn K mainGlobals "is_less" = some (some (.ref f5)))
    (l5 : K.lookup f5 = some ⟨oc5, od5, .func (PySem.W.fnOf "is_less" "is_less" (defArgs s_is_less) (defBody s_is_less) (defScope s_is_less) .none kV5 dc5 pm5 an5 cd5 ct5), sl5⟩)
    (c5 : PySem.W.codeIn K cd5 "is_less" = true) (k5 : PySem.W.keepIn K (.ref f5) = true)
    (a6 : PySem.W.nsIn K mainGlobals "magnitude" = some (some (.ref f6)))
    (l6 : K.lookup f6 = some ⟨oc6, od6, .func (PySem.W.fnOf "magnitude" "magnitude" (defArgs s_magnitude) (defBody s_magnitude) (defScope s_magnitude) .none kV6 dc6 pm6 an6 cd6 ct6), sl6⟩)
    (c6 : PySem.W.codeIn K cd6 "magnitude" = true) (k6 : PySem.W.keepIn K (.ref f6) = true)
    (a7 : PySem.W.nsIn K mainGlobals "floor_of" = some (some (.ref f7)))
    (l7 : K.lookup f7 = some ⟨oc7, od7, .func (PySem.W.fnOf "floor_of" "floor_of" (defArgs s_floor_of) (defBody s_floor_of) (defScope s_floor_of) .none kV7 dc7 pm7 an7 cd7 ct7), sl7⟩)
    (c7 : PySem.W.codeIn K cd7 "floor_of" = true) (k7 : PySem.W.keepIn K (.ref f7) = true)
    (a8 : PySem.W.nsIn K mainGlobals "ceiling_of" = some (some (.ref f8)))
    (l8 : K.lookup f8 = some ⟨oc8, od8, .func (PySem.W.fnOf "ceiling_of" "ceiling_of" (defArgs s_ceiling_of) (defBody s_ceiling_of) (defScope s_ceiling_of) .none kV8 dc8 pm8 an8 cd8 ct8), sl8⟩)
    (c8 : PySem.W.codeIn K cd8 "ceiling_of" = true) (k8 : PySem.W.keepIn K (.ref f8) = true)
    (a9 : PySem.W.nsIn K mainGlobals "digits_value" = some (some (.ref f9)))
    (l9 : K.lookup f9 = some ⟨oc9, od9, .func (PySem.W.fnOf "digits_value" "digits_value" (defArgs s_digits_value) (defBody s_digits_value) (defScope s_digits_value) .none kV9 dc9 pm9 an9 cd9 ct9), sl9⟩)
    (c9 : PySem.W.codeIn K cd9 "digits_value" = true) (k9 : PySem.W.keepIn K (.ref f9) = true)
    (a10 : PySem.W.nsIn K mainGlobals "show_ratio" = some (some (.ref f10)))
    (l10 : K.lookup f10 = some ⟨oc10, od10, .func (PySem.W.fnOf "show_ratio" "show_ratio" (defArgs s_show_ratio) (defBody s_show_ratio) (defScope s_show_ratio) .none kV10 dc10 pm10 an10 cd10 ct10), sl10⟩)
    (c10 : PySem.W.codeIn K cd10 "show_ratio" = true) (k10 : PySem.W.keepIn K (.ref f10) = true)
    (a11 : PySem.W.nsIn K mainGlobals "read_ratio" = some (some (.ref f11)))
    (l11 : K.lookup f11 = some ⟨oc11, od11, .func (PySem.W.fnOf "read_ratio" "read_ratio" (defArgs s_read_ratio) (defBody s_read_ratio) (defScope s_read_ratio) .none kV11 dc11 pm11 an11 cd11 ct11), sl11⟩)
    (c11 : PySem.W.codeIn K cd11 "read_ratio" = true) (k11 : PySem.W.keepIn K (.ref f11) = true)
    (a12 : PySem.W.nsIn K mainGlobals "_law_bag" = some (some (.ref f12)))
    (l12 : K.lookup f12 = some ⟨oc12, od12, .func (PySem.W.fnOf "_law_bag" "_law_bag" (defArgs s_law_bag) (defBody s_law_bag) (defScope s_law_bag) .none kV12 dc12 pm12 an12 cd12 ct12), sl12⟩)
    (c12 : PySem.W.codeIn K cd12 "_law_bag" = true) (k12 : PySem.W.keepIn K (.ref f12) = true)
    (a13 : PySem.W.nsIn K mainGlobals "_law_take" = some (some (.ref f13)))
    (l13 : K.lookup f13 = some ⟨oc13, od13, .func (PySem.W.fnOf "_law_take" "_law_take" (defArgs s_law_take) (defBody s_law_take) (defScope s_law_take) .none kV13 dc13 pm13 an13 cd13 ct13), sl13⟩)
    (c13 : PySem.W.codeIn K cd13 "_law_take" = true) (k13 : PySem.W.keepIn K (.ref f13) = true)
    (a14 : PySem.W.nsIn K mainGlobals "_law_lowest" = some (some (.ref f14)))
    (l14 : K.lookup f14 = some ⟨oc14, od14, .func (PySem.W.fnOf "_law_lowest" "_law_lowest" (defArgs s_law_lowest) (defBody s_law_lowest) (defScope s_law_lowest) .none kV14 dc14 pm14 an14 cd14 ct14), sl14⟩)
    (c14 : PySem.W.codeIn K cd14 "_law_lowest" = true) (k14 : PySem.W.keepIn K (.ref f14) = true)
    (a15 : PySem.W.nsIn K mainGlobals "_law_same" = some (some (.ref f15)))
    (l15 : K.lookup f15 = some ⟨oc15, od15, .func (PySem.W.fnOf "_law_same" "_law_same" (defArgs s_law_same) (defBody s_law_same) (defScope s_law_same) .none kV15 dc15 pm15 an15 cd15 ct15), sl15⟩)
    (c15 : PySem.W.codeIn K cd15 "_law_same" = true) (k15 : PySem.W.keepIn K (.ref f15) = true)
    (a16 : PySem.W.nsIn K mainGlobals "_law_figures" = some (some (.ref f16)))
    (l16 : K.lookup f16 = some ⟨oc16, od16, .func (PySem.W.fnOf "_law_figures" "_law_figures" (defArgs s_law_figures) (defBody s_law_figures) (defScope s_law_figures) .none kV16 dc16 pm16 an16 cd16 ct16), sl16⟩)
    (c16 : PySem.W.codeIn K cd16 "_law_figures" = true) (k16 : PySem.W.keepIn K (.ref f16) = true)
    (a17 : PySem.W.nsIn K mainGlobals "_law_integer" = some (some (.ref f17)))
    (l17 : K.lookup f17 = some ⟨oc17, od17, .func (PySem.W.fnOf "_law_integer" "_law_integer" (defArgs s_law_integer) (defBody s_law_integer) (defScope s_law_integer) .none kV17 dc17 pm17 an17 cd17 ct17), sl17⟩)
    (c17 : PySem.W.codeIn K cd17 "_law_integer" = true) (k17 : PySem.W.keepIn K (.ref f17) = true)
    (a18 : PySem.W.nsIn K mainGlobals "_law_fraction" = some (some (.ref f18)))
    (l18 : K.lookup f18 = some ⟨oc18, od18, .func (PySem.W.fnOf "_law_fraction" "_law_fraction" (defArgs s_law_fraction) (defBody s_law_fraction) (defScope s_law_fraction) .none kV18 dc18 pm18 an18 cd18 ct18), sl18⟩)
    (c18 : PySem.W.codeIn K cd18 "_law_fraction" = true) (k18 : PySem.W.keepIn K (.ref f18) = true)
    (a19 : PySem.W.nsIn K mainGlobals "_law_long" = some (some (.ref f19)))
    (l19 : K.lookup f19 = some ⟨oc19, od19, .func (PySem.W.fnOf "_law_long" "_law_long" (defArgs s_law_long) (defBody s_law_long) (defScope s_law_long) .none kV19 dc19 pm19 an19 cd19 ct19), sl19⟩)
    (c19 : PySem.W.codeIn K cd19 "_law_long" = true) (k19 : PySem.W.keepIn K (.ref f19) = true)
    (a20 : PySem.W.nsIn K mainGlobals "_law_shown" = some (some (.ref f20)))
    (l20 : K.lookup f20 = some ⟨oc20, od20, .func (PySem.W.fnOf "_law_shown" "_law_shown" (defArgs s_law_shown) (defBody s_law_shown) (defScope s_law_shown) .none kV20 dc20 pm20 an20 cd20 ct20), sl20⟩)
    (c20 : PySem.W.codeIn K cd20 "_law_shown" = true) (k20 : PySem.W.keepIn K (.ref f20) = true)
    (a21 : PySem.W.nsIn K mainGlobals "_law_digits" = some (some (.ref f21)))
    (l21 : K.lookup f21 = some ⟨oc21, od21, .func (PySem.W.fnOf "_law_digits" "_law_digits" (defArgs s_law_digits) (defBody s_law_digits) (defScope s_law_digits) .none kV21 dc21 pm21 an21 cd21 ct21), sl21⟩)
    (c21 : PySem.W.codeIn K cd21 "_law_digits" = true) (k21 : PySem.W.keepIn K (.ref f21) = true)
    (a22 : PySem.W.nsIn K mainGlobals "_law_reads" = some (some (.ref f22)))
    (l22 : K.lookup f22 = some ⟨oc22, od22, .func (PySem.W.fnOf "_law_reads" "_law_reads" (defArgs s_law_reads) (defBody s_law_reads) (defScope s_law_reads) .none kV22 dc22 pm22 an22 cd22 ct22), sl22⟩)
    (c22 : PySem.W.codeIn K cd22 "_law_reads" = true) (k22 : PySem.W.keepIn K (.ref f22) = true)
    (a23 : PySem.W.nsIn K mainGlobals "_law_near" = some (some (.ref f23)))
    (l23 : K.lookup f23 = some ⟨oc23, od23, .func (PySem.W.fnOf "_law_near" "_law_near" (defArgs s_law_near) (defBody s_law_near) (defScope s_law_near) .none kV23 dc23 pm23 an23 cd23 ct23), sl23⟩)
    (c23 : PySem.W.codeIn K cd23 "_law_near" = true) (k23 : PySem.W.keepIn K (.ref f23) = true)
    (a24 : PySem.W.nsIn K mainGlobals "_law_outcome" = some (some (.ref f24)))
    (l24 : K.lookup f24 = some ⟨oc24, od24, .func (PySem.W.fnOf "_law_outcome" "_law_outcome" (defArgs s_law_outcome) (defBody s_law_outcome) (defScope s_law_outcome) .none kV24 dc24 pm24 an24 cd24 ct24), sl24⟩)
    (c24 : PySem.W.codeIn K cd24 "_law_outcome" = true) (k24 : PySem.W.keepIn K (.ref f24) = true)
    (a25 : PySem.W.nsIn K mainGlobals "_law_divided" = some (some (.ref f25)))
    (l25 : K.lookup f25 = some ⟨oc25, od25, .func (PySem.W.fnOf "_law_divided" "_law_divided" (defArgs s_law_divided) (defBody s_law_divided) (defScope s_law_divided) .none kV25 dc25 pm25 an25 cd25 ct25), sl25⟩)
    (c25 : PySem.W.codeIn K cd25 "_law_divided" = true) (k25 : PySem.W.keepIn K (.ref f25) = true)
    (a26 : PySem.W.nsIn K mainGlobals "_law_counted" = some (some (.ref f26)))
    (l26 : K.lookup f26 = some ⟨oc26, od26, .func (PySem.W.fnOf "_law_counted" "_law_counted" (defArgs s_law_counted) (defBody s_law_counted) (defScope s_law_counted) .none kV26 dc26 pm26 an26 cd26 ct26), sl26⟩)
    (c26 : PySem.W.codeIn K cd26 "_law_counted" = true) (k26 : PySem.W.keepIn K (.ref f26) = true)
    (a27 : PySem.W.nsIn K mainGlobals "law" = some (some (.ref f27)))
    (l27 : K.lookup f27 = some ⟨oc27, od27, .func (PySem.W.fnOf "law" "law" (defArgs s_law) (defBody s_law) (defScope s_law) .none kV27 dc27 pm27 an27 cd27 ct27), sl27⟩)
    (c27 : PySem.W.codeIn K cd27 "law" = true) (k27 : PySem.W.keepIn K (.ref f27) = true)
    (z_len : PySem.W.nsIn K mainGlobals "len" = some none)
    (z_int : PySem.W.nsIn K mainGlobals "int" = some none)
    (z_range : PySem.W.nsIn K mainGlobals "range" = some none)
    (z_list : PySem.W.nsIn K mainGlobals "list" = some none)
    (z_min : PySem.W.nsIn K mainGlobals "min" = some none)
    (z_max : PySem.W.nsIn K mainGlobals "max" = some none)
    (z_abs : PySem.W.nsIn K mainGlobals "abs" = some none)
    (z_isinstance : PySem.W.nsIn K mainGlobals "isinstance" = some none)
    (z_bool : PySem.W.nsIn K mainGlobals "bool" = some none)
    (z_str : PySem.W.nsIn K mainGlobals "str" = some none)
    (z_tuple : PySem.W.nsIn K mainGlobals "tuple" = some none)
    (z_dict : PySem.W.nsIn K mainGlobals "dict" = some none)
    (z_sorted : PySem.W.nsIn K mainGlobals "sorted" = some none)
    (z_sum : PySem.W.nsIn K mainGlobals "sum" = some none)
    (z_repr : PySem.W.nsIn K mainGlobals "repr" = some none)
    (z_zip : PySem.W.nsIn K mainGlobals "zip" = some none)
    (z_enumerate : PySem.W.nsIn K mainGlobals "enumerate" = some none)
    (z_reversed : PySem.W.nsIn K mainGlobals "reversed" = some none)
    (gD : PySem.W.nsIn K mainGlobals "DealError" = some (some (.ref CD)))
    (gT : PySem.W.nsIn K mainGlobals "BadText" = some (some (.ref CT)))
    (gM : PySem.W.nsIn K mainGlobals "BadName" = some (some (.ref CM)))
    (gG : PySem.W.nsIn K mainGlobals "gcd" = some (some (.builtin "math.gcd")))
    (gI : ∃ t, PySem.W.nsIn K mainGlobals "DIGITS" = some (some (.str (Str.ofString "0123456789") t)))
    (gO : ∃ t, PySem.W.nsIn K mainGlobals "MOST_DIGITS" = some (some (.int 300 t)))
    (h1 : PySem.W.specialIn K (.builtin "object.__class__") "__get__" = some (some (.builtin "getset_descriptor.__get__")))
    (h2 : PySem.W.takesIn K (.builtin "object.__class__") = some true)
    (iBc : PySem.W.findIn K (.ref CB) "__class__" = some (some (.builtin "object.__class__")))
    (iBm : PySem.W.mroIn K CB (.type "object") = some true)
    (kBD : PySem.W.kitOne K (.ref CB) (.ref CD) = some true)
    (kBT : PySem.W.kitOne K (.ref CB) (.ref CT) = some false)
    (kBM : PySem.W.kitOne K (.ref CB) (.ref CM) = some false)
    : ∃ fd : FuncData, (∀ (s : Shared) (v : Value), BindsTo s fd ⟨[v], []⟩ [("script", v)]) ∧ ∀ base : Heap, K.In base → base.Ns mainGlobals mg → FnG P w K mg base CX0 5 fa fd ["script"] (spLaw K) := by
  have e := hfa.symm.trans (PySem.W.mg_of X G a27)
  cases e
  have B : Blt mg := { m_len := PySem.W.mg_none_of X G z_len, m_int := PySem.W.mg_none_of X G z_int, m_range := PySem.W.mg_none_of X G z_range, m_list := PySem.W.mg_none_of X G z_list, m_min := PySem.W.mg_none_of X G z_min, m_max := PySem.W.mg_none_of X G z_max, m_abs := PySem.W.mg_none_of X G z_abs, m_isinstance := PySem.W.mg_none_of X G z_isinstance, m_bool := PySem.W.mg_none_of X G z_bool, m_str := PySem.W.mg_none_of X G z_str, m_tuple := PySem.W.mg_none_of X G z_tuple, m_dict := PySem.W.mg_none_of X G z_dict, m_sorted := PySem.W.mg_none_of X G z_sorted, m_sum := PySem.W.mg_none_of X G z_sum, m_repr := PySem.W.mg_none_of X G z_repr, m_zip := PySem.W.mg_none_of X G z_zip, m_enumerate := PySem.W.mg_none_of X G z_enumerate, m_reversed := PySem.W.mg_none_of X G z_reversed }
  have T0 : Txt1 P K mg CB := { B with bad := TB, g_gcd := PySem.W.mg_of X G gG, gD := gI.imp fun t h => PySem.W.mg_of X G h, gM := gO.imp fun t h => PySem.W.mg_of X G h }
  have T : Txt2 P K mg CD CT CM CB := { T0 with h1 := h1, h2 := h2, g_DealError := PySem.W.mg_of X G gD, g_BadText := PySem.W.mg_of X G gT, g_BadName := PySem.W.mg_of X G gM, iB := ⟨iBc, iBm⟩, kBD := kBD, kBT := kBT, kBM := kBM }
  have F1 := fun_mk (st := s_ratio) l1 c1 k1
  have b1 := F1.binds (ps := ["top", "bottom"]) fun _ _ _ _ _ _ us hl => match us, hl with | [_, _], _ => rfl
  have F2 := fun_mk (st := s_plus) l2 c2 k2
  have b2 := F2.binds (ps := ["one", "other"]) fun _ _ _ _ _ _ us hl => match us, hl with | [_, _], _ => rfl
  have F3 := fun_mk (st := s_minus) l3 c3 k3
  have b3 := F3.binds (ps := ["one", "other"]) fun _ _ _ _ _ _ us hl => match us, hl with | [_, _], _ => rfl
  have F4 := fun_mk (st := s_times) l4 c4 k4
  have b4 := F4.binds (ps := ["one", "other"]) fun _ _ _ _ _ _ us hl => match us, hl with | [_, _], _ => rfl
  have F5 := fun_mk (st := s_is_less) l5 c5 k5
  have b5 := F5.binds (ps := ["one", "other"]) fun _ _ _ _ _ _ us hl => match us, hl with | [_, _], _ => rfl
  have F6 := fun_mk (st := s_magnitude) l6 c6 k6
  have b6 := F6.binds (ps := ["one"]) fun _ _ _ _ _ _ us hl => match us, hl with | [_], _ => rfl
  have F7 := fun_mk (st := s_floor_of) l7 c7 k7
  have b7 := F7.binds (ps := ["one"]) fun _ _ _ _ _ _ us hl => match us, hl with | [_], _ => rfl
  have F8 := fun_mk (st := s_ceiling_of) l8 c8 k8
  have b8 := F8.binds (ps := ["one"]) fun _ _ _ _ _ _ us hl => match us, hl with | [_], _ => rfl
  have F9 := fun_mk (st := s_digits_value) l9 c9 k9
  have b9 := F9.binds (ps := ["text"]) fun _ _ _ _ _ _ us hl => match us, hl with | [_], _ => rfl
  have F10 := fun_mk (st := s_show_ratio) l10 c10 k10
  have b10 := F10.binds (ps := ["one"]) fun _ _ _ _ _ _ us hl => match us, hl with | [_], _ => rfl
  have F11 := fun_mk (st := s_read_ratio) l11 c11 k11
  have b11 := F11.binds (ps := ["text"]) fun _ _ _ _ _ _ us hl => match us, hl with | [_], _ => rfl
  have F12 := fun_mk (st := s_law_bag) l12 c12 k12
  have b12 := F12.binds (ps := ["script"]) fun _ _ _ _ _ _ us hl => match us, hl with | [_], _ => rfl
  have F13 := fun_mk (st := s_law_take) l13 c13 k13
  have b13 := F13.binds (ps := ["bag", "many"]) fun _ _ _ _ _ _ us hl => match us, hl with | [_, _], _ => rfl
  have F14 := fun_mk (st := s_law_lowest) l14 c14 k14
  have b14 := F14.binds (ps := ["top", "bottom"]) fun _ _ _ _ _ _ us hl => match us, hl with | [_, _], _ => rfl
  have F15 := fun_mk (st := s_law_same) l15 c15 k15
  have b15 := F15.binds (ps := ["left", "right"]) fun _ _ _ _ _ _ us hl => match us, hl with | [_, _], _ => rfl
  have F16 := fun_mk (st := s_law_figures) l16 c16 k16
  have b16 := F16.binds (ps := ["bag", "size"]) fun _ _ _ _ _ _ us hl => match us, hl with | [_, _], _ => rfl
  have F17 := fun_mk (st := s_law_integer) l17 c17 k17
  have b17 := F17.binds (ps := ["bag"]) fun _ _ _ _ _ _ us hl => match us, hl with | [_], _ => rfl
  have F18 := fun_mk (st := s_law_fraction) l18 c18 k18
  have b18 := F18.binds (ps := ["bag"]) fun _ _ _ _ _ _ us hl => match us, hl with | [_], _ => rfl
  have F19 := fun_mk (st := s_law_long) l19 c19 k19
  have b19 := F19.binds (ps := ["bag"]) fun _ _ _ _ _ _ us hl => match us, hl with | [_], _ => rfl
  have F20 := fun_mk (st := s_law_shown) l20 c20 k20
  have b20 := F20.binds (ps := ["one"]) fun _ _ _ _ _ _ us hl => match us, hl with | [_], _ => rfl
  have F21 := fun_mk (st := s_law_digits) l21 c21 k21
  have b21 := F21.binds (ps := ["word"]) fun _ _ _ _ _ _ us hl => match us, hl with | [_], _ => rfl
  have F22 := fun_mk (st := s_law_reads) l22 c22 k22
  have b22 := F22.binds (ps := ["text"]) fun _ _ _ _ _ _ us hl => match us, hl with | [_], _ => rfl
  have F23 := fun_mk (st := s_law_near) l23 c23 k23
  have b23 := F23.binds (ps := ["bag", "one"]) fun _ _ _ _ _ _ us hl => match us, hl with | [_, _], _ => rfl
  have F24 := fun_mk (st := s_law_outcome) l24 c24 k24
  have b24 := F24.binds (ps := ["text"]) fun _ _ _ _ _ _ us hl => match us, hl with | [_], _ => rfl
  have F25 := fun_mk (st := s_law_divided) l25 c25 k25
  have b25 := F25.binds (ps := ["top", "bottom"]) fun _ _ _ _ _ _ us hl => match us, hl with | [_, _], _ => rfl
  have F26 := fun_mk (st := s_law_counted) l26 c26 k26
  have b26 := F26.binds (ps := ["one", "other"]) fun _ _ _ _ _ _ us hl => match us, hl with | [_, _], _ => rfl
  have F27 := fun_mk (st := s_law) l27 c27 k27
  have b27 := F27.binds (ps := ["script"]) fun _ _ _ _ _ _ us hl => match us, hl with | [_], _ => rfl
  refine ⟨PySem.W.fnOf "law" "law" (defArgs s_law) (defBody s_law) (defScope s_law) .none kV27 dc27 pm27 an27 cd27 ct27, fun s v => .of_eq rfl, fun base _ _ => ?_⟩
  have G_ratio : FnB P w K mg base (L2.CX P w) 2 "ratio" ["top", "bottom"] (spRatio CB) := ⟨f1, _, ok_ratio F1 T0, PySem.W.mg_of X G a1, k1, b1⟩
  have G_plus : FnB P w K mg base CX0 3 "plus" ["one", "other"] (spBin K plusF) := ⟨f2, _, ok_plus F2 G_ratio, PySem.W.mg_of X G a2, k2, b2⟩
  have G_minus : FnB P w K mg base CX0 3 "minus" ["one", "other"] (spBin K minusF) := ⟨f3, _, ok_minus F3 G_ratio, PySem.W.mg_of X G a3, k3, b3⟩
  have G_times : FnB P w K mg base CX0 3 "times" ["one", "other"] (spBin K timesF) := ⟨f4, _, ok_times F4 G_ratio, PySem.W.mg_of X G a4, k4, b4⟩
  have G_is_less : FnB P w K mg base CX0 1 "is_less" ["one", "other"] (spLess K) := ⟨f5, _, ok_is_less F5, PySem.W.mg_of X G a5, k5, b5⟩
  have G_magnitude : FnB P w K mg base CX0 1 "magnitude" ["one"] (spMag K) := ⟨f6, _, ok_magnitude F6 B, PySem.W.mg_of X G a6, k6, b6⟩
  have G_floor_of : FnB P w K mg base CX0 1 "floor_of" ["one"] (spFloor K) := ⟨f7, _, ok_floor_of F7, PySem.W.mg_of X G a7, k7, b7⟩
  have G_ceiling_of : FnB P w K mg base CX0 1 "ceiling_of" ["one"] (spCeil K) := ⟨f8, _, ok_ceiling_of F8, PySem.W.mg_of X G a8, k8, b8⟩
  have G_digits_value : FnB P w K mg base CX0 1 "digits_value" ["text"] (spDig) := ⟨f9, _, ok_digits_value F9 T0, PySem.W.mg_of X G a9, k9, b9⟩
  have G_show_ratio : FnB P w K mg base CX0 1 "show_ratio" ["one"] (spShow K) := ⟨f10, _, ok_show_ratio F10 B, PySem.W.mg_of X G a10, k10, b10⟩
  have G_read_ratio : FnB P w K mg base (L2.CX P w) 2 "read_ratio" ["text"] (spRead CB) := ⟨f11, _, ok_read_ratio F11 T0 G_digits_value, PySem.W.mg_of X G a11, k11, b11⟩
  have G_law_bag : FnB P w K mg base CX0 1 "_law_bag" ["script"] (spBag K) := ⟨f12, _, ok_law_bag F12 B, PySem.W.mg_of X G a12, k12, b12⟩
  have G_law_take : FnB P w K mg base CX0 1 "_law_take" ["bag", "many"] (spTake) := ⟨f13, _, ok_law_take F13 B, PySem.W.mg_of X G a13, k13, b13⟩
  have G_law_lowest : FnB P w K mg base CX0 1 "_law_lowest" ["top", "bottom"] (spLow) := ⟨f14, _, ok_law_lowest F14 B, PySem.W.mg_of X G a14, k14, b14⟩
  have G_law_same : FnGB P w K mg base CX0 1 "_law_same" ["left", "right"] (spSameX K) := ⟨f15, _, ok_law_same F15 B, PySem.W.mg_of X G a15, k15, b15⟩
  have G_law_figures : FnB P w K mg base CX0 2 "_law_figures" ["bag", "size"] (spFig) := ⟨f16, _, ok_law_figures F16 B G_law_take, PySem.W.mg_of X G a16, k16, b16⟩
  have G_law_integer : FnB P w K mg base CX0 3 "_law_integer" ["bag"] (spInt) := ⟨f17, _, ok_law_integer F17 B G_law_take G_law_figures, PySem.W.mg_of X G a17, k17, b17⟩
  have G_law_fraction : FnB P w K mg base CX0 4 "_law_fraction" ["bag"] (spDraw 60) := ⟨f18, _, ok_law_fraction F18 B G_law_integer G_law_lowest, PySem.W.mg_of X G a18, k18, b18⟩
  have G_law_long : FnB P w K mg base CX0 4 "_law_long" ["bag"] (spDraw 301) := ⟨f19, _, ok_law_long F19 B G_law_take G_law_figures G_law_lowest, PySem.W.mg_of X G a19, k19, b19⟩
  have G_law_shown : FnB P w K mg base CX0 1 "_law_shown" ["one"] (spShow K) := ⟨f20, _, ok_law_shown F20 B, PySem.W.mg_of X G a20, k20, b20⟩
  have G_law_digits : FnB P w K mg base CX0 1 "_law_digits" ["word"] (spDig) := ⟨f21, _, ok_law_digits F21 B, PySem.W.mg_of X G a21, k21, b21⟩
  have G_law_reads : FnB P w K mg base CX0 2 "_law_reads" ["text"] (spReads) := ⟨f22, _, ok_law_reads F22 B G_law_digits G_law_lowest, PySem.W.mg_of X G a22, k22, b22⟩
  have G_law_near : FnB P w K mg base CX0 2 "_law_near" ["bag", "one"] (spNear) := ⟨f23, _, ok_law_near F23 B G_law_take G_law_shown, PySem.W.mg_of X G a23, k23, b23⟩
  have G_law_outcome : FnB P w K mg base CX0 3 "_law_outcome" ["text"] (spOut K) := ⟨f24, _, ok_law_outcome F24 T G_read_ratio, PySem.W.mg_of X G a24, k24, b24⟩
  have G_law_divided : FnB P w K mg base CX0 3 "_law_divided" ["top", "bottom"] (spDiv K) := ⟨f25, _, ok_law_divided F25 T G_ratio, PySem.W.mg_of X G a25, k25, b25⟩
  have G_law_counted : FnGB P w K mg base CX0 4 "_law_counted" ["one", "other"] (spCount K) := ⟨f26, _, ok_law_counted F26 B G_plus G_minus G_times G_is_less G_magnitude G_floor_of G_ceiling_of G_law_lowest G_law_same, PySem.W.mg_of X G a26, k26, b26⟩
  exact ok_law F27 B G_law_bag G_law_take G_law_integer G_law_lowest G_law_divided G_law_same G_law_fraction G_law_counted G_law_long G_show_ratio G_law_shown G_law_near G_law_reads G_law_outcome
theorem walk {l : PySem.W.OpenLaw} {q : Program} {loose : List Str} {XP : (Str → Option Value) → Heap → Prop} {YP : World → Heap → Prop} {d : DefRec} {K : Params → PySem.W.Frag} (hn : l.most = some 63) (hdf : d.params.defaults = [])
    (hY : ∀ (w : World) (h : Heap), YP w h → (K w.params).In h)
    (F : ∀ (w : World) (mg : Str → Option Value) (fa : Addr) (h : Heap), (K w.params).In h → h.Ns mainGlobals mg → mg d.name = some (.ref fa) →
      ∃ fd : FuncData, (∀ (s : Shared) (u : Value), BindsTo s fd ⟨[u], []⟩ [("script", u)]) ∧ ∀ base : Heap, (K w.params).In base → base.Ns mainGlobals mg → FnG l.prog w (K w.params) mg base CX0 5 fa fd ["script"] (spLaw (K w.params))) :
    PySem.W.WalkO q loose XP YP l.row.toRowW d [] (fun f vs => PySem.call f vs) :=
  L2.walk_ofG (n := 63) (k := 5) (x := "script") (sp := spLaw) hn (by decide) hdf ⟨rfl, by decide, by decide⟩ hY F fun _ _ a ns hl hS => ⟨a, ns, rfl, hS, hl, fun _ => rfl⟩
end K18
open PySem PySem.W PyProof.Rows
set_option maxRecDepth 100000 in
set_option maxHeartbeats 0 in
theorem PySem.Challenge.cw_eachfloweachlink_k18_fractions_exact_holds : PySem.Challenge.rw_eachfloweachlink_k18_fractions_exact.Holds := by
  w_on; o_law; k_head; (case hw => w_witness2)
  k_fill
  refine K18.walk (l := PySem.Challenge.rw_eachfloweachlink_k18_fractions_exact) rfl rfl (fun w h Y => PySem.W.kIn_of Y) ?F
  case F =>
    intro w mg fa h KX G hmg
    refine' K18.all_mk KX G hmg ?gB ?TB ?a1 ?l1 ?c1 ?k1 ?a2 ?l2 ?c2 ?k2 ?a3 ?l3 ?c3 ?k3 ?a4 ?l4 ?c4 ?k4 ?a5 ?l5 ?c5 ?k5 ?a6 ?l6 ?c6 ?k6 ?a7 ?l7 ?c7 ?k7 ?a8 ?l8 ?c8 ?k8 ?a9 ?l9 ?c9 ?k9 ?a10 ?l10 ?c10 ?k10 ?a11 ?l11 ?c11 ?k11 ?a12 ?l12 ?c12 ?k12 ?a13 ?l13 ?c13 ?k13 ?a14 ?l14 ?c14 ?k14 ?a15 ?l15 ?c15 ?k15 ?a16 ?l16 ?c16 ?k16 ?a17 ?l17 ?c17 ?k17 ?a18 ?l18 ?c18 ?k18 ?a19 ?l19 ?c19 ?k19 ?a20 ?l20 ?c20 ?k20 ?a21 ?l21 ?c21 ?k21 ?a22 ?l22 ?c22 ?k22 ?a23 ?l23 ?c23 ?k23 ?a24 ?l24 ?c24 ?k24 ?a25 ?l25 ?c25 ?k25 ?a26 ?l26 ?c26 ?k26 ?a27 ?l27 ?c27 ?k27 ?z_len ?z_int ?z_range ?z_list ?z_min ?z_max ?z_abs ?z_isinstance ?z_bool ?z_str ?z_tuple ?z_dict ?z_sorted ?z_sum ?z_repr ?z_zip ?z_enumerate ?z_reversed ?gD ?gT ?gM ?gG ?gI ?gO ?h1 ?h2 ?iBc ?iBm ?kBD ?kBT ?kBM
    (case gB => k_is)
    case TB =>
      refine' ⟨_, PySem.XS.errTxt_mk KX G ?gC ?xL ?hbm ?sup ?stc ?sa ?ga ?gg ?eC ?hC ?noF ?iC ?tI ?kC ?mC ?vC ?tC ?isC ?sC ?mgS ?l ?c ?lc ?ld ?hv ?hf ?top⟩
      (case gC => k_is)
      (case xL => k_is)
      (case hbm => decide +kernel)
      (case sup => ks_is)
      (case stc => k_is)
      (case sa => k_is)
      (case ga => k_is)
      (case gg => k_is)
      (case eC => k_is)
      (case hC => k_is)
      (case noF => (intro f hf; cases List.mem_singleton.mp hf; k_is))
      (case iC => k_is)
      (case tI => k_is)
      (case kC => k_is)
      (case mC => k_is)
      (case vC => k_is)
      (case tC => k_is)
      (case isC => k_is)
      (case sC => first | rfl | k_is)
      (case mgS => k_is)
      (case l => k_is)
      (case c => k_is)
      (case lc => k_is)
      (case ld => k_is)
      (case hv => rfl)
      (case hf => decide +kernel)
      (case top => decide +kernel)
    (case a1 => k_is)
    (case l1 => k_is)
    (case c1 => k_is)
    (case k1 => k_is)
    (case a2 => k_is)
    (case l2 => k_is)
    (case c2 => k_is)
    (case k2 => k_is)
    (case a3 => k_is)
    (case l3 => k_is)
    (case c3 => k_is)
    (case k3 => k_is)
    (case a4 => k_is)
    (case l4 => k_is)
    (case c4 => k_is)
    (case k4 => k_is)
    (case a5 => k_is)
    (case l5 => k_is)
    (case c5 => k_is)
    (case k5 => k_is)
    (case a6 => k_is)
    (case l6 => k_is)
    (case c6 => k_is)
    (case k6 => k_is)
    (case a7 => k_is)
    (case l7 => k_is)
    (case c7 => k_is)
    (case k7 => k_is)
    (case a8 => k_is)
    (case l8 => k_is)
    (case c8 => k_is)
    (case k8 => k_is)
    (case a9 => k_is)
    (case l9 => k_is)
    (case c9 => k_is)
    (case k9 => k_is)
    (case a10 => k_is)
    (case l10 => k_is)
    (case c10 => k_is)
    (case k10 => k_is)
    (case a11 => k_is)
    (case l11 => k_is)
    (case c11 => k_is)
    (case k11 => k_is)
    (case a12 => k_is)
    (case l12 => k_is)
    (case c12 => k_is)
    (case k12 => k_is)
    (case a13 => k_is)
    (case l13 => k_is)
    (case c13 => k_is)
    (case k13 => k_is)
    (case a14 => k_is)
    (case l14 => k_is)
    (case c14 => k_is)
    (case k14 => k_is)
    (case a15 => k_is)
    (case l15 => k_is)
    (case c15 => k_is)
    (case k15 => k_is)
    (case a16 => k_is)
    (case l16 => k_is)
    (case c16 => k_is)
    (case k16 => k_is)
    (case a17 => k_is)
    (case l17 => k_is)
    (case c17 => k_is)
    (case k17 => k_is)
    (case a18 => k_is)
    (case l18 => k_is)
    (case c18 => k_is)
    (case k18 => k_is)
    (case a19 => k_is)
    (case l19 => k_is)
    (case c19 => k_is)
    (case k19 => k_is)
    (case a20 => k_is)
    (case l20 => k_is)
    (case c20 => k_is)
    (case k20 => k_is)
    (case a21 => k_is)
    (case l21 => k_is)
    (case c21 => k_is)
    (case k21 => k_is)
    (case a22 => k_is)
    (case l22 => k_is)
    (case c22 => k_is)
    (case k22 => k_is)
    (case a23 => k_is)
    (case l23 => k_is)
    (case c23 => k_is)
    (case k23 => k_is)
    (case a24 => k_is)
    (case l24 => k_is)
    (case c24 => k_is)
    (case k24 => k_is)
    (case a25 => k_is)
    (case l25 => k_is)
    (case c25 => k_is)
    (case k25 => k_is)
    (case a26 => k_is)
    (case l26 => k_is)
    (case c26 => k_is)
    (case k26 => k_is)
    (case a27 => k_is)
    (case l27 => k_is)
    (case c27 => k_is)
    (case k27 => k_is)
    (case z_len => k_is)
    (case z_int => k_is)
    (case z_range => k_is)
    (case z_list => k_is)
    (case z_min => k_is)
    (case z_max => k_is)
    (case z_abs => k_is)
    (case z_isinstance => k_is)
    (case z_bool => k_is)
    (case z_str => k_is)
    (case z_tuple => k_is)
    (case z_dict => k_is)
    (case z_sorted => k_is)
    (case z_sum => k_is)
    (case z_repr => k_is)
    (case z_zip => k_is)
    (case z_enumerate => k_is)
    (case z_reversed => k_is)
    (case gD => k_is)
    (case gT => k_is)
    (case gM => k_is)
    (case gG => k_is)
    (case gI => exact ⟨_, by k_is⟩)
    (case gO => exact ⟨_, by k_is⟩)
    (case h1 => k_is)
    (case h2 => k_is)
    (case iBc => k_is)
    (case iBm => k_is)
    (case kBD => kit_is)
    (case kBT => kit_is)
    (case kBM => kit_is)
