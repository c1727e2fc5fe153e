import PyProof.Rows.All
import Wide.All
import OpenK.AllK
import Wide.FinOn
import PyProof.EqAt
import PyProof.EqKinds
import PyProof.TupleCall
import PyProof.ReprRoads
import PyProof.ReprLen
import KE.KExcSuper
import KE.KExcIs
import KE.DatumOrd
import KE.RegKSuper
import KE.RegKIsAll
import KE.RegKTryMore
import PySem.Challenge.RW_eachfloweachlink_k21_first_wrong_line
import HandS.ForMost
import HandS.Exc
import HandS.ExcInit
import HandS.ExcOwn
import HandS.ExcField
import HandS.TryMany
import HandS.WordsExc
import HandS.Wide
import HandS.Deep
import HandS.Conv
import HandS.IsInst
import HandS.NoneIn
import HandS.Evl
import HandS.Base
import HandS.Call
import HandS.List
import HandS.Ends
import HandS.Words
import HandS.Text
import HandS.Walk
set_option Elab.async false
set_option linter.all false
set_option maxRecDepth 100000
set_option maxHeartbeats 4000000
/-! # Own errors over ValueError whose __init__ says super().__init__(text) and then stores its arguments -/
namespace PySem
namespace XS
open PySem.W PySem.Calls PyProof.Rows PySem.HandSPX

/-- the text of such an __init__: the scope, the arguments, the first statement, a store -/
def supS (msg : Str) (p0 p1 p2 p3 p4 p5 : Pos) (j : Nat) : Stmt :=
  .Expr (.Call (.Attribute (.Call (.Name "super" p0) [] [] p1) "__init__" p2) [.Constant (.str msg) j p3] [] p4) p5
def stoS (f : Str) (a1 a2 a3 a4 : Pos) : Stmt := .Assign [.Attribute (.Name "self" a1) f a2] (.Name f a3) a4

/-- what the written part says of the class at C, its __init__ at fI -/
structure ErrTxt (prog : Program) (K : Frag) (mg : Str → Option Value) (x qual : Str) (st : Stmt) (fs : List Str) (C fI : Addr) : Prop where
  gC : mg x = some (.ref C)
  cls : ∃ nm q N bs bm sn sub ab col dd k0 k1 k2 k3 k5,
    K.lookup C = some (excClassObj nm q C N bs bm true sn sub ab col dd k0 k1 k2 k3 k5 "ValueError.__new__") ∧ refsVE bm = true
  sup : ks_superIn K C C "__init__" = some (some (.builtin "ValueError.__init__"))
  stc : nsIn K cStatics "thirdparty.any" = some none
  sa : findIn K (.ref C) "__setattr__" = some (some (.builtin "object.__setattr__"))
  xf : L2.xfB K C = true
  noF : ∀ f ∈ fs, findIn K (.ref C) f = some none
  iC : findIn K (.ref C) "__init__" = some (some (.ref fI))
  tI : typeIn K (.ref fI) = some (.type "function")
  kC : keepIn K (.ref C) = true
  mC : mroIn K C (.ref C) = some true
  vC : subIn K (.ref C) (.type "ValueError") = some true
  tC : typeIn K (.ref C) = some (.type "type")
  te : exmOne K (.ref C) (.ref C) = some true
  mgS : mg "super" = none
  fn : ∃ (oc : Value) (od : Option Addr) (kV doc pm : Value) (an : Option Addr) (ct : Value) (osl : Array (Option Value)) (cda cc : Addr),
    K.lookup fI = some ⟨oc, od, .func (ksFn "__init__" qual (L2.defArgs st) (L2.defBody st) (L2.defScope st) .none kV doc pm an (.ref cda) ct cc), osl⟩ ∧
    codeIn K (.ref cda) qual = true ∧
    (∃ cl cld csl, K.lookup cc = some ⟨cl, cld, .cell (some (.ref C)), csl⟩) ∧
    (∃ ccl cdd vs ccs file tf, K.lookup cda = some ⟨ccl, cdd, .fields vs, ccs⟩ ∧ vs[2]? = some (.str file tf) ∧ ((prog.main.file : Str) == file) = true)
  top : (prog.main.scope.names.lookup ("super" : Str)).isSome = false

section
variable {prog : Program} {w : World} {A : Around} {E : Value → Shared → Prop} {s : Shared} {K : Frag} {mg mb : Str → Option Value}
  {x qual : Str} {st : Stmt} {fs : List Str} {C fI : Addr}

theorem ErrTxt.cl (T : ErrTxt prog K mg x qual st fs C fI) : ∃ cd, clsIn K C = some cd ∧ refsVE cd.mro = true ∧ cd.hasDict = true := by
  obtain ⟨nm, q, N, bs, bm, sn, sub, ab, col, dd, k0, k1, k2, k3, k5, hC, hbm⟩ := T.cls
  refine ⟨{ name := nm, bases := bs, mro := .ref C :: bm, ns := N, qualname := q, hasDict := true, slotNames := sn, subclasses := sub, abstract := ab, collection := col, hasDel := false }, ?_, hbm, rfl⟩
  unfold clsIn
  rw [hC] <;> rfl

/-- the wrapper that super() hands out is called: the args are laid anew -/
theorem call_mw (T : ErrTxt prog K mg x qual st fs C fI) {u e t0 : Addr} {rest : List Value} {Q : Value → Shared → Prop} (X : K.In s.heap)
    (hu : s.heap.get? u = some (kxs_mw "ValueError.__init__" e)) (he : s.heap.get? e = some (excO C t0)) (hz : rest.length ≤ sizeLine)
    (hq : ∀ h' t1, (∀ b o, b ≠ e → s.heap.get? b = some o → h'.get? b = some o) → h'.get? e = some (excO C t1) → Q .none { s with heap := h' }) :
    wpAny (model prog w) A (call (.ref u) rest) Q E s := by
  obtain ⟨nm, q, N, bs, bm, sn, sub, ab, col, dd, k0, k1, k2, k3, k5, hC, hbm⟩ := T.cls
  have hC' := X _ _ hC
  obtain ⟨h, g, d, t, os⟩ := s
  refine wpAny_call (codeAny_of_tree ?_)
  show wpAny _ A.in1 (callAny (Value.ref u) ⟨rest, []⟩) _ _ ⟨h, g, d, t, os⟩
  simp only [callAny]
  refine wpAny_bind (wpAny_load (a := u) hu ?_)
  have z : (Value.type "method-wrapper" == Value.type "method" || Value.type "method-wrapper" == Value.type "builtin_function_or_method" || Value.type "method-wrapper" == Value.type "method-wrapper") = true := by decide
  simp only [kxs_mw, z, if_true]
  refine KFB.if_so (by decide) (wpAny_bind ?_)
  refine check_bound_init F.excBase_ValueError.toExcCallFacts hC' he rfl ?_
  refine wpAny_bind (wpAny_pure (wpAny_pure ⟨plainId_quiet F.excBase_ValueError.init.plain _, codeAny_builtin F.excBase_ValueError.initEntry ?_⟩))
  exact exc_init_tree (cls := .ref C) (t0 := t0) (dv := none) (c2 := .none) (c3 := .none) (b4 := .bool false) he hz fun h' k e' _ => hq h' _ k e'

/-- a method's call on one line: what it evaluates to, its places symbolic -/
theorem super_eval {p0 p1 p2 p4 : Pos} {es : List Expr} {env : Env} (hpos : (p2.endLine == p4.line) = true) (hform : methodCallForm es.length (backTo p4 (starEach es env)) [] = true) :
    eval (.Call (.Attribute (.Call (.Name "super" p0) [] [] p1) "__init__" p2) es [] p4) env = (do
      let ov ← attributeBase (.Call (.Name "super" p0) [] [] p1) "__init__" env (eval (.Call (.Name "super" p0) [] [] p1) env)
      standAt p2.atName
      let (f, first) ← holding [ov] (getMethod ov "__init__" (do return (← importBound (.Call (.Name "super" p0) [] [] p1) env).getD true))
      callWith p4 f first (backTo p4 (starEach es env)) []) := by
  have e1 : methodCallPos true (.Call (.Name "super" p0) [] [] p1) env p2 p4 = pure p4 := by
    unfold methodCallPos
    rw [if_pos (by rw [hpos]; rfl)]
  rw [arm_eval_Call]
  have e2 : ∀ ov : Value, methodCall (.Call (.Name "super" p0) [] [] p1) "__init__" p2 p4 env ov (es.length + 0) (backTo p4 (starEach es env)) [] = (do
      let (f, first) ← holding [ov] (getMethod ov "__init__" (do return (← importBound (.Call (.Name "super" p0) [] [] p1) env).getD true))
      callWith p4 f first (backTo p4 (starEach es env)) []) := fun ov => by
    unfold methodCall calleeOf
    rw [Nat.add_zero, hform, e1]
    rfl
  show (do
      let ov ← attributeBase (.Call (.Name "super" p0) [] [] p1) "__init__" env (eval (.Call (.Name "super" p0) [] [] p1) env)
      standAt p2.atName
      methodCall (.Call (.Name "super" p0) [] [] p1) "__init__" p2 p4 env ov (es.length + 0) (backTo p4 (starEach es env)) []) = _
  simp only [e2]
/-- the first statement of such an __init__ -/
theorem sup_stmt (T : ErrTxt prog K mg x qual st fs C fI) {qn : Str} {scope : Scope} {L f cda cc : Addr} {fd : FuncData} {o : Addr} {t0 : Addr} {m : Str → Option Value} {body : List Stmt} {ar : Arg}
    {msg : Str} {p0 p1 p2 p3 p4 p5 : Pos} {j : Nat} {Q : Flow → Shared → Prop} {oc : Value} {od : Option Addr} {osl : Array (Option Value)}
    (X : K.In s.heap) (hg : s.heap.Ns mainGlobals mg) (hb : s.heap.Ns builtinsNs mb) (hmb : mb "super" = some (.type "super"))
    (hm : s.heap.Ns L m) (hself : m ar.arg = some (.ref o)) (ho : s.heap.get? o = some (excO C t0)) (hoC : o ≠ C)
    (hf : K.lookup f = some ⟨oc, od, .func fd, osl⟩) (hp : (fd.params.posonlyargs ++ fd.params.args).head? = some ar)
    (hcell : ∃ cl cld csl, K.lookup cc = some ⟨cl, cld, .cell (some (.ref C)), csl⟩)
    (hcode : ∃ ccl cdd vs ccs file tf, K.lookup cda = some ⟨ccl, cdd, .fields vs, ccs⟩ ∧ vs[2]? = some (.str file tf) ∧ ((prog.main.file : Str) == file) = true)
    (hk : scope.kind = .function) (hks : scope.names.lookup ("super" : Str) = some .globalImplicit) (hkc : scope.names.lookup ("__class__" : Str) = some .free) (hka : scope.names.lookup ar.arg = some .local)
    (hq : ∀ h' tk t1, (∀ b u, b ≠ o → s.heap.get? b = some u → h'.get? b = some u) → h'.get? o = some (excO C t1) → Q .next { s with heap := h', toks := tk })
    (hpos : (p2.endLine == p4.line) = true) (hi : interactive (ksEnv qn scope L f (.ref cda) cc) = false := by rfl) :
    PySem.wpAt (model prog w) A (.func body (ksEnv qn scope L f (.ref cda) cc)) (exec (supS msg p0 p1 p2 p3 p4 p5 j) (ksEnv qn scope L f (.ref cda) cc)) Q E s := by
  obtain ⟨cl, cld, csl, hcell⟩ := hcell
  obtain ⟨ccl, cdd, vs, ccs, file, tf, hcode, hvs, hfile⟩ := hcode
  obtain ⟨nm, q, N, bs, bm, sn, sub, ab, col, dd, k0, k1, k2, k3, k5, hC, hbm⟩ := id T.cls
  have hcl : clsIn K C = some { name := nm, bases := bs, mro := .ref C :: bm, ns := N, qualname := q, hasDict := true, slotNames := sn, subclasses := sub, abstract := ab, collection := col, hasDel := false } := by
    unfold clsIn
    rw [hC] <;> rfl
  have hsup := T.sup
  unfold ks_superIn at hsup
  rw [hcl, Option.bind_some] at hsup
  obtain ⟨hh, g, d, t, os⟩ := s
  unfold supS
  refine ks_wpAt_Expr_any (ks_wpAt_MethodCall ?_ (super_eval hpos (by rfl))) hi (by rfl)
  refine ks_wpAt_super_base (env := ksEnv qn scope L f (.ref cda) cc) hks hkc (by decide) rfl (X _ _ hf) rfl hp rfl (X _ _ hcode) rfl hvs hfile T.top ?_
  refine ks_loadName_global hk hks (loadGlobal_builtin (env := ksEnv qn scope L f (.ref cda) cc) hg T.mgS hb hmb ⟨rfl, ?_⟩)
  refine wpAny_loadName_free hk hkc rfl ⟨_, X _ _ hcell, rfl⟩ ?_
  refine wpAny_loadName_local hk hka hm hself ?_
  refine ks_wpAny_isType_cls (X _ _ hC) rfl ⟨rfl, ?_⟩
  refine ks_wpAny_call_super (X _ _ hC) rfl ho rfl (fun c z => by cases z) (looks_mroIn X T.mC) fun h1 e1 kp1 => ?_
  have X1 : K.In h1 := X.keeps kp1
  have ho1 := kp1 _ _ ho
  have I1 : InstAt h1 o (excO C t0) C none := ⟨ho1, rfl, rfl, trivial⟩
  refine kxs_getMethod kxs_ValueError e1 (looks_opaque X1 T.stc) (l₀ := .ref C :: bm) ?_ rfl X1 hsup (I1.type.andThen (looks_subIn X1 T.vC)) hoC (by decide) ?_
  · exact (looks_clsIn X1 hcl).andThen .now
  have kp2 : ∀ b u, h1.get? b = some u → (h1.push (kxs_mw "ValueError.__init__" o)).get? b = some u := fun b u e => Heap.get?_push_of_some _ e
  show wpAny _ _ (callWith p4 (Value.ref h1.objs.size) [] ((false, eval (.Constant (.str msg) j p3) (ksEnv qn scope L f (.ref cda) cc)) :: []) []) _ _ _
  refine kxs_callWith (i := "ValueError.__init__") (x := o) (u := h1.objs.size) rfl (evalArgs_plain (Calls.spliced_cons (wpAny_Constant_str (Calls.spliced_nil ⟨?_, ?_⟩))))
  · show KxsAt _ _ _ (h1.push (kxs_mw "ValueError.__init__" o))
    exact Heap.get?_push_at rfl rfl
  · refine call_mw T (X1.keeps kp2) (e := o) (t0 := t0) (Heap.get?_push_at rfl rfl) (kp2 _ _ ho1) (by show 1 ≤ sizeLine; decide) fun h3 t1 k3 e3 => ?_
    exact hq h3 _ t1 (fun b u hb z => k3 b u hb (kp2 b u (kp1 b u z))) e3

/-- the stores that follow -/
inductive Stos : List Stmt → List Str → Prop
  | nil : Stos [] []
  | cons {f : Str} {a1 a2 a3 a4 : Pos} {r : List Stmt} {gs : List Str} (h : Stos r gs) : Stos (stoS f a1 a2 a3 a4 :: r) (f :: gs)
def mpOf : List (Str × Value) → Str → Option Value
  | [], _ => none
  | (f, v) :: r, y => if y = f then some v else mpOf r y
theorem mpOf_cons (f : Str) (v : Value) (r : List (Str × Value)) : mpOf ((f, v) :: r) = fun y => if y = f then some v else mpOf r y := rfl
theorem mpOf_within : ∀ l : List (Str × Value), Within (mpOf l) (l.map (·.1))
  | [] => Within.nil
  | (f, v) :: r => Within.cons f v (mpOf_within r)
/-- at o: an exception of the class at C whose own dict at dx holds l -/
structure ErrAt (h : Heap) (o C dx : Addr) (l : List (Str × Value)) : Prop where
  obj : ∃ t1 : Addr, h.get? o = some { cls := .ref C, dict := some dx, data := .fields #[.ref t1, .none, .none, .none, .bool false, .none] }
  ns : h.Ns1 dx (mpOf l)

theorem lkL {M : Model} {env : Env} {m : Str → Option Value} {y : Str} {pos : Pos} {v : Value} {Q : Value → Shared → Prop} (hn : s.heap.Ns env.locals m) (hv : m y = some v) (h : Q v s)
    (hk : env.scope.kind = .function) (hl : env.kindOf y = some .local) (hd : (y == ("__debug__" : Str)) = false) :
    wpAny M A (eval (.Name y pos) env) Q E s :=
  wpAny_Name (wpAny_loadName_local hk hl hn hv h) hd

/-- a further store -/
theorem sto_old (T : ErrTxt prog K mg x qual st fs C fI) {env : Env} {o dx : Addr} {f : Str} {a1 a2 a3 a4 : Pos} {v : Value} {m : Str → Option Value} {l : List (Str × Value)} {Q : Flow → Shared → Prop}
    (X : K.In s.heap) (hm : s.heap.Ns env.locals m) (hself : m "self" = some (.ref o)) (hv : m f = some v) (hE : ErrAt s.heap o C dx l) (hl : l.length ≤ 900) (hfs : f ∈ fs)
    (hk : env.scope.kind = .function) (h1 : env.kindOf "self" = some .local) (h2 : env.kindOf f = some .local) (hd : (f == ("__debug__" : Str)) = false)
    (hq : ∀ h' tk, (∀ b u, b ≠ dx → s.heap.get? b = some u → h'.get? b = some u) → h'.Ns1 dx (mpOf ((f, v) :: l)) → Q .next { s with heap := h', toks := tk }) :
    wpAny (model prog w) A (exec (stoS f a1 a2 a3 a4) env) Q E s := by
  obtain ⟨cd, hcd, hmro, hdict⟩ := T.cl
  obtain ⟨⟨t1, hobj⟩, hns⟩ := hE
  obtain ⟨oD, _, _, hoD, _, _⟩ := hns.count (mpOf_within l)
  obtain ⟨hh, g, d, t, os⟩ := s
  unfold stoS
  refine plainObj_wpAny_Assign_Attribute (lkL (v := v) hm hv (lkL (v := .ref o) hm hself ?_ hk h1 (by decide)) hk h2 hd)
  refine set_plain X (ox := { cls := .ref C, dict := some dx, data := .fields #[.ref t1, .none, .none, .none, .bool false, .none] }) (od := some oD) ⟨hobj, rfl, rfl, hoD⟩ T.sa ?_
  exact PySem.OEX.osa_old X hobj hns (mpOf_within l) (by rw [List.length_map]; omega) hcd hmro hdict (T.noF f hfs) fun h' tk' k hn => hq h' tk' k hn
/-- the first store: the own dict is laid -/
theorem sto_new (T : ErrTxt prog K mg x qual st fs C fI) {env : Env} {o t1 : Addr} {f : Str} {a1 a2 a3 a4 : Pos} {v : Value} {m : Str → Option Value} {Q : Flow → Shared → Prop}
    (X : K.In s.heap) (hm : s.heap.Ns env.locals m) (hself : m "self" = some (.ref o)) (hv : m f = some v) (hobj : s.heap.get? o = some (excO C t1)) (hfs : f ∈ fs)
    (hk : env.scope.kind = .function) (h1 : env.kindOf "self" = some .local) (h2 : env.kindOf f = some .local) (hd : (f == ("__debug__" : Str)) = false)
    (hq : ∀ h' tk dx, (∀ b u, b ≠ o → s.heap.get? b = some u → h'.get? b = some u) → s.heap.objs.size ≤ dx → dx ≠ o → ErrAt h' o C dx [(f, v)] → Q .next { s with heap := h', toks := tk }) :
    wpAny (model prog w) A (exec (stoS f a1 a2 a3 a4) env) Q E s := by
  obtain ⟨cd, hcd, hmro, hdict⟩ := T.cl
  obtain ⟨hh, g, d, t, os⟩ := s
  unfold stoS
  refine plainObj_wpAny_Assign_Attribute (lkL (v := v) hm hv (lkL (v := .ref o) hm hself ?_ hk h1 (by decide)) hk h2 hd)
  refine set_plain X (ox := excO C t1) (od := none) ⟨hobj, rfl, rfl, trivial⟩ T.sa ?_
  exact exc_osa X hobj hcd hmro hdict (T.noF f hfs) fun h' tk' dx k dn dne hx hn => hq h' tk' dx k dn dne ⟨⟨t1, hx⟩, hn⟩

theorem sto_run (T : ErrTxt prog K mg x qual st fs C fI) {env : Env} {o dx : Addr} {m : Str → Option Value} {Q : Flow → Shared → Prop}
    (hk : env.scope.kind = .function) (h1 : env.kindOf "self" = some .local) (hself : m "self" = some (.ref o)) (hLo : env.locals ≠ dx) (hodx : dx ≠ o) :
    ∀ {body : List Stmt} {gs : List Str}, Stos body gs → ∀ (ps : List (Str × Value)) (l : List (Str × Value)) (s : Shared), ps.map (·.1) = gs → (∀ p ∈ ps, m p.1 = some p.2 ∧ p.1 ∈ fs ∧ env.kindOf p.1 = some .local ∧ (p.1 == ("__debug__" : Str)) = false) →
      l.length + ps.length ≤ 900 → K.In s.heap → K.lookup dx = none → s.heap.Ns env.locals m → ErrAt s.heap o C dx l →
      (∀ h' tk, (∀ b u, b ≠ dx → s.heap.get? b = some u → h'.get? b = some u) → h'.Ns1 dx (mpOf (ps.reverse ++ l)) → Q .next { s with heap := h', toks := tk }) →
      wpAny (model prog w) A (execs body env) Q E s := by
  intro body gs hst
  induction hst with
  | nil =>
    intro ps l s e hp hl X hdx hm hE hq
    cases ps with
    | cons _ _ => cases e
    | nil =>
      refine wpAny_execs_nil ?_
      exact hq s.heap s.toks (fun _ _ _ z => z) hE.ns
  | @cons f a1 a2 a3 a4 r gs hst ih =>
    intro ps l s e hp hl X hdx hm hE hq
    cases ps with
    | nil => cases e
    | cons p ps =>
      obtain ⟨pf, v⟩ := p
      have e1 : pf = f := (List.cons.inj e).1
      subst e1
      obtain ⟨hv, hfs, hkf, hdf⟩ := hp (pf, v) List.mem_cons_self
      refine wpAny_execs_cons (sto_old T X hm hself hv hE (by simp only [List.length_cons] at hl; omega) hfs hk h1 hkf hdf fun h' tk k hn => ?_)
      obtain ⟨oL, es, ep, hL, hr⟩ := hm
      have kK : K.In h' := fun a u z => k a u (fun y => by rw [y, hdx] at z; cases z) (X a u z)
      refine ih ps ((pf, v) :: l) { s with heap := h', toks := tk } (List.cons.inj e).2 (fun q hq => hp q (List.mem_cons_of_mem _ hq)) (by simp only [List.length_cons] at hl ⊢; omega) kK hdx ⟨oL, es, ep, k _ _ hLo hL, hr⟩ ⟨?_, hn⟩ fun h2 tk2 k2 hn2 => ?_
      · obtain ⟨t1, z⟩ := hE.obj
        exact ⟨t1, k _ _ (Ne.symm hodx) z⟩
      · refine hq h2 tk2 (fun b u hb z => k2 b u hb (k b u hb z)) ?_
        rw [List.reverse_cons, List.append_assoc]
        exact hn2

/-- what the text of the __init__ must be (each by rfl or decide at a written text) -/
structure ErrSyn (qual : Str) (st : Stmt) (f0 : Str) (gs : List Str) : Prop where
  body : ∃ (msg : Str) (p0 p1 p2 p3 p4 p5 : Pos) (j : Nat) (a1 a2 a3 a4 : Pos) (r : List Stmt), L2.defBody st = supS msg p0 p1 p2 p3 p4 p5 j :: stoS f0 a1 a2 a3 a4 :: r ∧ Stos r gs ∧ (p2.endLine == p4.line) = true
  ar : ∃ ar : Arg, ((L2.defArgs st).posonlyargs ++ (L2.defArgs st).args).head? = some ar ∧ ar.arg = "self"
  kind : (L2.defScope st).kind = .function
  sup : (L2.defScope st).names.lookup ("super" : Str) = some .globalImplicit
  cls : (L2.defScope st).names.lookup ("__class__" : Str) = some .free
  self : (L2.defScope st).names.lookup ("self" : Str) = some .local
  loc : ∀ f ∈ f0 :: gs, (L2.defScope st).names.lookup f = some .local ∧ (f == ("__debug__" : Str)) = false
  cell : ∀ y ∈ (L2.defScope st).names, y.2 ≠ .cell
  co : (L2.defScope st).isCoroutine = false
  gen : (L2.defScope st).isGenerator = false
  nd : ((("self" : Str) :: f0 :: gs) : List Str).Nodup
  short : gs.length ≤ 100
  bind : ∀ (kV doc pm : Value) (an : Option Addr) (cdv ct : Value) (cc : Addr) (us : List Value), us.length = ((("self" : Str) :: f0 :: gs) : List Str).length →
    ∀ s : Shared, BindsTo s (ksFn "__init__" qual (L2.defArgs st) (L2.defBody st) (L2.defScope st) .none kV doc pm an cdv ct cc) ⟨us, []⟩ (((("self" : Str) :: f0 :: gs) : List Str).zip us)

theorem lookup_rev {n : Str} {v : Value} : ∀ {l : List (Str × Value)}, (l.map (·.1)).Nodup → (n, v) ∈ l → l.reverse.lookup n = some v := by
  intro l
  induction l with
  | nil => intro _ h; cases h
  | cons p l ih =>
    intro nd h
    obtain ⟨f, u⟩ := p
    rw [List.map_cons, List.nodup_cons] at nd
    rw [List.reverse_cons, List.lookup_append]
    rcases List.mem_cons.mp h with e | h
    · cases e
      have z : l.reverse.lookup n = none := by
        rw [List.lookup_eq_none_iff]
        intro q hq
        have : q.1 ∈ l.map (·.1) := List.mem_map_of_mem (List.mem_reverse.mp hq)
        have ne : ¬ n = q.1 := fun e => nd.1 (by rw [e]; exact this)
        simp [ne]
      rw [z]
      simp [List.lookup]
    · rw [ih nd.2 h]
      rfl

theorem zip_map1 : ∀ (ns : List Str) (us : List Value), us.length = ns.length → (ns.zip us).map (·.1) = ns
  | [], _, _ => rfl
  | n :: ns, [], h => by cases h
  | n :: ns, u :: us, h => by
    show n :: (ns.zip us).map (·.1) = n :: ns
    rw [zip_map1 ns us (Nat.succ.inj h)]

theorem errs_init (T : ErrTxt prog K mg x qual st fs C fI) {f0 : Str} {gs : List Str} (S : ErrSyn qual st f0 gs) (hfs : fs = f0 :: gs) {R : Result → Shared → Prop} {o t0 : Addr} {v0 : Value} {vs : List Value}
    (X : K.In s.heap) (hlim : s.heap.NoLimit) (hg : s.heap.Ns mainGlobals mg) (hb : s.heap.Ns builtinsNs mb) (hmb : mb "super" = some (.type "super"))
    (ho : s.heap.get? o = some (excO C t0)) (hno : K.lookup o = none) (hroom : A.depth < recursionLimit) (hlen : vs.length = gs.length)
    (hq : ∀ h' tk dx, (∀ b u, b ≠ o → s.heap.get? b = some u → h'.get? b = some u) → s.heap.objs.size ≤ dx → dx ≠ o → ErrAt h' o C dx (((f0, v0) :: gs.zip vs).reverse) → R (.ok (.ret .none)) { s with heap := h', toks := tk }) :
    codeAny (model prog w) A (.call (.ref fI) ⟨.ref o :: v0 :: vs, []⟩) R s := by
  obtain ⟨oc, od, kV, doc, pm, an, ct, osl, cda, cc, lk, hcd, hcell, hcode⟩ := T.fn
  obtain ⟨msg, p0, p1, p2, p3, p4, p5, j, a1, a2, a3, a4, r, hbody, hst, hpos⟩ := S.body
  obtain ⟨ar, har, hself⟩ := S.ar
  have hCo : o ≠ C := by
    rintro rfl
    obtain ⟨nm, q, N, bs, bm, sn, sub, ab, col, dd, k0, k1, k2, k3, k5, hC, hbm⟩ := T.cls
    rw [hno] at hC
    cases hC
  have hlt : o < s.heap.objs.size := Heap.lt_size ho
  have hulen : (Value.ref o :: v0 :: vs).length = ((("self" : Str) :: f0 :: gs) : List Str).length := by simp [hlen]
  have nd : ((((("self" : Str) :: f0 :: gs) : List Str).zip (Value.ref o :: v0 :: vs)).map (·.1)).Nodup := by
    rw [zip_map1 _ _ hulen]
    exact S.nd
  refine ks_codeAny_call_defAt (fd := ksFn "__init__" qual (L2.defArgs st) (L2.defBody st) (L2.defScope st) .none kV doc pm an (.ref cda) ct cc) (body := L2.defBody st) (binds := ((("self" : Str) :: f0 :: gs) : List Str).zip (Value.ref o :: v0 :: vs))
    hroom (X _ _ lk) rfl hlim (codeRec_of X hcd) rfl (S.bind _ _ _ _ _ _ _ _ hulen s) S.cell (fun y hy => ?_) (fun h0 hns hk0 => ?_) S.co S.gen S.kind
  · have : y.1 ∈ ((("self" : Str) :: f0 :: gs) : List Str) := (List.of_mem_zip hy).1
    rcases List.mem_cons.mp this with e | e
    · rw [e]; exact S.self
    · exact (S.loc _ e).1
  show PySem.wpAt _ (A.deeper (ksEnv qual (L2.defScope st) s.heap.objs.size fI (.ref cda) cc)) (.func (L2.defBody st) (ksEnv qual (L2.defScope st) s.heap.objs.size fI (.ref cda) cc)) (execs (L2.defBody st) (ksEnv qual (L2.defScope st) s.heap.objs.size fI (.ref cda) cc)) _ _ _
  have hb2 : execs (L2.defBody st) (ksEnv qual (L2.defScope st) s.heap.objs.size fI (.ref cda) cc) = execs (supS msg p0 p1 p2 p3 p4 p5 j :: stoS f0 a1 a2 a3 a4 :: r) (ksEnv qual (L2.defScope st) s.heap.objs.size fI (.ref cda) cc) := by rw [hbody]
  rw [hb2]
  have X0 : K.In h0 := X.keeps hk0
  have m_self : (((("self" : Str) :: f0 :: gs) : List Str).zip (Value.ref o :: v0 :: vs)).reverse.lookup ("self" : Str) = some (.ref o) := lookup_rev nd List.mem_cons_self
  have m_f0 : (((("self" : Str) :: f0 :: gs) : List Str).zip (Value.ref o :: v0 :: vs)).reverse.lookup f0 = some v0 := lookup_rev nd (List.mem_cons_of_mem _ List.mem_cons_self)
  have hLo : s.heap.objs.size ≠ o := Nat.ne_of_gt hlt
  refine ks_wpAt_execs_cons (sup_stmt T (fd := ksFn "__init__" qual (L2.defArgs st) (L2.defBody st) (L2.defScope st) .none kV doc pm an (.ref cda) ct cc) (ar := ar) (o := o) (t0 := t0) (m := fun y => (((("self" : Str) :: f0 :: gs) : List Str).zip (Value.ref o :: v0 :: vs)).reverse.lookup y)
    X0 (hg.keeps hk0) (hb.keeps hk0) hmb hns (by rw [hself]; exact m_self) (hk0 _ _ ho) hCo lk har hcell hcode S.kind S.sup S.cls (by rw [hself]; exact S.self) (fun h1 tk1 t1 k1 e1 => ?_) hpos (by unfold interactive; simp [S.kind]))
  show PySem.wpAt _ _ _ (execs _ _) _ _ _
  refine wpAt_of_wpAny ?_
  have hns0 := hns
  obtain ⟨oL, es, ep, hL, hr⟩ := hns
  have hns1 : h1.Ns s.heap.objs.size (fun y => (((("self" : Str) :: f0 :: gs) : List Str).zip (Value.ref o :: v0 :: vs)).reverse.lookup y) := ⟨oL, es, ep, k1 _ _ hLo hL, hr⟩
  have X1 : K.In h1 := fun a u z => k1 a u (fun y => by rw [y, hno] at z; cases z) (X0 a u z)
  refine wpAny_execs_cons (sto_new T (m := fun y => (((("self" : Str) :: f0 :: gs) : List Str).zip (Value.ref o :: v0 :: vs)).reverse.lookup y) X1 hns1 m_self m_f0 e1 (by rw [hfs]; exact List.mem_cons_self) S.kind S.self (S.loc f0 List.mem_cons_self).1 (S.loc f0 List.mem_cons_self).2
    fun h2 tk2 dx k2 dn dne hE => ?_)
  have hL1 : s.heap.objs.size < h1.objs.size := hns1.lt
  have hLdx : s.heap.objs.size ≠ dx := Nat.ne_of_lt (Nat.lt_of_lt_of_le hL1 dn)
  have hKdx : K.lookup dx = none := by
    cases z : K.lookup dx with
    | none => rfl
    | some u => exact absurd (Nat.lt_of_lt_of_le (Heap.lt_size (X1 _ _ z)) dn) (Nat.lt_irrefl _)
  have X2 : K.In h2 := fun a u z => k2 a u (fun y => by rw [y, hno] at z; cases z) (X1 a u z)
  show wpAny _ _ (execs r _) _ _ _
  refine sto_run T (env := ksEnv qual (L2.defScope st) s.heap.objs.size fI (.ref cda) cc) (dx := dx) (o := o) (m := fun y => (((("self" : Str) :: f0 :: gs) : List Str).zip (Value.ref o :: v0 :: vs)).reverse.lookup y) S.kind S.self m_self hLdx dne hst (gs.zip vs) [(f0, v0)] _ (zip_map1 gs vs hlen) (fun p hp => ?_) ?_ X2 hKdx ?_ hE fun h3 tk3 k3 hn3 => ?_
  · have pg : p.1 ∈ gs := (List.of_mem_zip hp).1
    exact ⟨lookup_rev nd (List.mem_cons_of_mem _ (List.mem_cons_of_mem _ hp)), by rw [hfs]; exact List.mem_cons_of_mem _ pg, (S.loc _ (List.mem_cons_of_mem _ pg)).1, (S.loc _ (List.mem_cons_of_mem _ pg)).2⟩
  · rw [List.length_zip]
    have := S.short
    simp only [List.length_cons, List.length_nil]
    omega
  · exact ⟨oL, es, ep, k2 _ _ hLo (k1 _ _ hLo hL), hr⟩
  · refine hq h3 _ dx (fun b u hb z => ?_) (Nat.le_of_lt (Nat.lt_of_lt_of_le hL1 dn)) dne ?_
    · have z0 := hk0 b u z
      have z1 := k1 b u hb z0
      have z2 := k2 b u hb z1
      exact k3 b u (Nat.ne_of_lt (Nat.lt_trans (Heap.lt_size z) (Nat.lt_of_lt_of_le hL1 dn))) z2
    · obtain ⟨t2, z⟩ := hE.obj
      refine ⟨⟨t2, k3 _ _ (Ne.symm dne) z⟩, ?_⟩
      rw [List.reverse_cons]
      exact hn3

/-- a made error: at e, its own dict at d -/
structure Made (h h' : Heap) (e C d : Addr) (l : List (Str × Value)) : Prop where
  keep : ∀ b o, h.get? b = some o → h'.get? b = some o
  new : h.objs.size ≤ e
  dbig : h.objs.size ≤ d
  dne : d ≠ e
  er : ErrAt h' e C d l

theorem errs_made (T : ErrTxt prog K mg x qual st fs C fI) {f0 : Str} {gs : List Str} (S : ErrSyn qual st f0 gs) (hfs : fs = f0 :: gs) {R : Result → Shared → Prop} {v0 : Value} {vs : List Value}
    (X : K.In s.heap) (hlim : s.heap.NoLimit) (hg : s.heap.Ns mainGlobals mg) (hb : s.heap.Ns builtinsNs mb) (hmb : mb "super" = some (.type "super"))
    (hroom : A.depth + 1 < recursionLimit) (hlen : vs.length = gs.length)
    (hq : ∀ h' tk e d, Made s.heap h' e C d (((f0, v0) :: gs.zip vs).reverse) → R (.ok (.ret (.ref e))) { s with heap := h', toks := tk }) :
    codeAny (model prog w) A (.call (.ref C) ⟨v0 :: vs, []⟩) R s := by
  obtain ⟨nm, q, N, bs, bm, sn, sub, ab, col, dd, k0, k1, k2, k3, k5, hC, hbm⟩ := id T.cls
  obtain ⟨hp, g, dr, tk, os⟩ := s
  have k : ∀ b o, hp.get? b = some o → ((hp.push (kdv_tup (v0 :: vs))).push (excO C hp.objs.size)).get? b = some o := fun b o e => Heap.get?_push_of_some _ (Heap.get?_push_of_some _ e)
  have hget : ((hp.push (kdv_tup (v0 :: vs))).push (excO C hp.objs.size)).get? (hp.objs.size + 1) = some (excO C hp.objs.size) := by heap_get
  have hnx : K.lookup (hp.objs.size + 1) = none := by
    cases e : K.lookup (hp.objs.size + 1) with
    | none => rfl
    | some o =>
      have z : hp.get? (hp.objs.size + 1) = some o := X _ _ e
      exact absurd (Nat.lt_of_succ_lt (Heap.lt_size z)) (Nat.lt_irrefl _)
  have hsz : (v0 :: vs).length ≤ sizeLine := by
    have := S.short
    have z : 101 ≤ sizeLine := by decide
    simp only [List.length_cons, hlen]
    omega
  refine call_own F.excBase_ValueError (fun X => refsVE_contains X bm hbm) (X _ _ hC) (looks_findIn X T.iC) (fun self => bind_fn X self T.tI) hsz ?_
  refine errs_init (s := ⟨(hp.push (kdv_tup (v0 :: vs))).push (excO C hp.objs.size), g, dr, tk, os⟩) T S hfs (X.keeps k) (hlim.keeps k) (hg.keeps k) (hb.keeps k) hmb hget hnx ?_ hlen fun h' tk' dx k' dn dne hE => ?_
  · show A.depth + 1 < recursionLimit
    exact hroom
  · have old : ∀ b o, hp.get? b = some o → h'.get? b = some o := fun b o e => k' b o (Nat.ne_of_lt (Nat.lt_succ_of_lt (Heap.lt_size e))) (k b o e)
    have z : hp.objs.size + 1 + 1 ≤ dx := by
      first
        | (simpa only [Heap.size_push] using dn)
        | exact dn
        | (have q := dn; rw [Heap.size_push, Heap.size_push] at q; exact q)
    exact ⟨rfl, hq h' tk' (hp.objs.size + 1) dx ⟨old, Nat.le_succ _, Nat.le_trans (Nat.le_trans (Nat.le_succ _) (Nat.le_succ _)) z, dne, hE⟩⟩
end
end XS
end PySem

namespace PySem
namespace XS
open PySem.W PySem.Calls PyProof.Rows PySem.HandSPX
/-! ### what the top must have written, fact by fact -/
theorem exm_of {K : Frag} {D S : Addr} {b : Bool} (h1 : subIn K (.ref S) (.type "BaseException") = some true) (h2 : isClsIn K S = true) (h3 : typeIn K (.ref S) = some (.type "type")) (h4 : subIn K (.ref D) (.ref S) = some b) :
    exmOne K (.ref D) (.ref S) = some b := by
  have e1 : (subIn K (.ref S) (.type "BaseException") == some true) = true := by rw [h1] <;> rfl
  have e2 : ((clsIn K S).isSome && typeIn K (.ref S) == some (.type "type")) = true := by
    have h2' : (clsIn K S).isSome = true := h2
    rw [h2', h3] <;> rfl
  show (if (subIn K (.ref S) (.type "BaseException") == some true) = true then (if ((clsIn K S).isSome && typeIn K (.ref S) == some (.type "type")) = true then subIn K (.ref D) (.ref S) else none) else none) = some b
  rw [if_pos e1, if_pos e2]
  exact h4
theorem xf_of {K : Frag} {C : Addr} (ga : findIn K (.ref C) "__getattribute__" = some (some (.builtin "BaseException.__getattribute__"))) (gg : findIn K (.ref C) "__getattr__" = some none)
    (eC : subIn K (.ref C) (.type "BaseException") = some true) (hC : hasDictIn K C = true) : L2.xfB K C = true := by
  unfold L2.xfB
  rw [decide_eq_true ga, decide_eq_true gg, decide_eq_true eC, hC]
  rfl
theorem errTxt_mk {prog : Program} {K : Frag} {h : Heap} {mg : Str → Option Value} {x qual : Str} {st : Stmt} {fs : List Str} {C fI : Addr} (X : K.In h) (G : h.Ns mainGlobals mg)
    {nm q : Str} {N : Addr} {bs bm : List Value} {sn : List Str} {sub : List Value} {ab : Bool} {col : Option Bool} {dd : Option Addr} {m0 m1 m2 m3 m5 : Option Value}
    {oc kV doc pm ct : Value} {od an : Option Addr} {osl : Array (Option Value)} {cda cc : Addr} {cl : Value} {cld : Option Addr} {csl : Array (Option Value)} {ccl : Value} {cdd : Option Addr} {vs : Array Value} {ccs : Array (Option Value)} {file : Str} {tf : Tok}
    (gC : nsIn K mainGlobals x = some (some (.ref C)))
    (xL : K.lookup C = some (excClassObj nm q C N bs bm true sn sub ab col dd m0 m1 m2 m3 m5 "ValueError.__new__")) (hbm : refsVE bm = true)
    (sup : ks_superIn K C C "__init__" = some (some (.builtin "ValueError.__init__"))) (stc : nsIn K cStatics "thirdparty.any" = some none)
    (sa : findIn K (.ref C) "__setattr__" = some (some (.builtin "object.__setattr__")))
    (ga : findIn K (.ref C) "__getattribute__" = some (some (.builtin "BaseException.__getattribute__"))) (gg : findIn K (.ref C) "__getattr__" = some none)
    (eC : subIn K (.ref C) (.type "BaseException") = some true) (hC : hasDictIn K C = true) (noF : ∀ f ∈ fs, findIn K (.ref C) f = some none)
    (iC : findIn K (.ref C) "__init__" = some (some (.ref fI))) (tI : typeIn K (.ref fI) = some (.type "function")) (kC : keepIn K (.ref C) = true)
    (mC : mroIn K C (.ref C) = some true) (vC : subIn K (.ref C) (.type "ValueError") = some true) (tC : typeIn K (.ref C) = some (.type "type"))
    (isC : isClsIn K C = true) (sC : subIn K (.ref C) (.ref C) = some true) (mgS : nsIn K mainGlobals "super" = some none)
    (l : K.lookup fI = some ⟨oc, od, .func (ksFn "__init__" qual (L2.defArgs st) (L2.defBody st) (L2.defScope st) .none kV doc pm an (.ref cda) ct cc), osl⟩) (c : codeIn K (.ref cda) qual = true)
    (lc : K.lookup cc = some ⟨cl, cld, .cell (some (.ref C)), csl⟩) (ld : K.lookup cda = some ⟨ccl, cdd, .fields vs, ccs⟩) (hv : vs[2]? = some (.str file tf)) (hf : ((prog.main.file : Str) == file) = true)
    (top : (prog.main.scope.names.lookup ("super" : Str)).isSome = false) : ErrTxt prog K mg x qual st fs C fI :=
  { gC := mg_of X G gC, cls := ⟨nm, q, N, bs, bm, sn, sub, ab, col, dd, m0, m1, m2, m3, m5, xL, hbm⟩, sup := sup, stc := stc, sa := sa, xf := xf_of ga gg eC hC, noF := noF, iC := iC, tI := tI, kC := kC, mC := mC, vC := vC, tC := tC,
    te := exm_of eC isC tC sC, mgS := mg_none_of X G mgS, fn := ⟨oc, od, kV, doc, pm, an, ct, osl, cda, cc, l, c, ⟨cl, cld, csl, lc⟩, ⟨ccl, cdd, vs, ccs, file, tf, ld, hv, hf⟩⟩, top := top }
end XS
end PySem

namespace L2
open PySem PySem.Spec PyProof.Rows

theorem pair_app {α β : Type} {F : α → β → Prop} {l1 : List α} {u1 : List β} (h : Paired F l1 u1) : ∀ {l2 : List α} {u2 : List β}, Paired F l2 u2 → Paired F (l1 ++ l2) (u1 ++ u2) := by
  induction h with
  | nil => intro l2 u2 g; exact g
  | cons r _ ih => intro l2 u2 g; exact .cons r (ih g)
theorem pair_rev {α β : Type} {F : α → β → Prop} {l : List α} {u : List β} (h : Paired F l u) : Paired F l.reverse u.reverse := by
  induction h with
  | nil => exact .nil
  | cons r _ ih =>
    rw [List.reverse_cons, List.reverse_cons]
    exact pair_app ih (.cons r .nil)
abbrev FV : (Str × V) → (Str × Value) → Prop := fun p q => p.1 = q.1 ∧ RelV p.2 q.2
theorem pair_zip : ∀ {ns : List Str} {vs : List V} {us : List Value}, Vals vs us → Paired FV (ns.zip vs) (ns.zip us)
  | [], _, _, _ => .nil
  | _ :: _, _, _, .nil => .nil
  | n :: ns, _, _, .cons r t => .cons ⟨rfl, r⟩ (pair_zip (ns := ns) t)
theorem relO_mp {l : List (Str × V)} {u : List (Str × Value)} (h : Paired FV l u) (g : Str) : RelO (l.lookup g) (XS.mpOf u g) := by
  induction h with
  | nil => exact True.intro
  | @cons p q l u r _ ih =>
    obtain ⟨f, v⟩ := p
    obtain ⟨f', w⟩ := q
    obtain ⟨e, rv⟩ := r
    dsimp only at e rv
    subst e
    rw [lookup_put, XS.mpOf_cons]
    dsimp only
    by_cases hw : g = f
    · rw [if_pos hw, if_pos hw]
      exact rv
    · rw [if_neg hw, if_neg hw]
      exact ih

/-- C(e, ..) of such an error: its own dict, new, holds the fields (the last one first) -/
def tMkE (C : Addr) (ns : List Str) (ta : TA) : St → Hp → XK → Prop := fun σ H Q => ta σ H fun vs H1 => vs.length = ns.length ∧ ∀ d, H1 d = none → Q (.ref C) (some d) (upd H1 d (.xd (ns.zip vs).reverse))
def tRaiseE (C : Addr) (ns : List Str) (W : WX) (ta : TA) : TS := fun _ σ H => tMkE C ns ta σ H fun cls d H' => W cls d σ H'

section
variable {X : Cx} {C fI : Addr} {x qual : Str} {st : Stmt} {f0 : Str} {gs : List Str}
theorem pmk_err {e : Expr} {es : List Expr} {ta : TA} {p pos : Pos} {k : Nat} (T : XS.ErrTxt X.prog X.K X.mg x qual st (f0 :: gs) C fI) (S : XS.ErrSyn qual st f0 gs) (hr : Room k X.A) (ha : PA X (e :: es) ta) (hg : Gl X x := by rfl)
    (hdb : (x == ("__debug__" : Str)) = false := by decide) (he : starEach (e :: es) X.env = (false, eval e X.env) :: starEach es X.env := by rfl) (hpl : (backTo pos (starEach es X.env)).any (·.1) = false := by rfl) :
    PMk X (.Call (.Name x p) (e :: es) [] pos) (tMkE C (f0 :: gs) ta) := by
  intro pins s σ H Q I h
  obtain ⟨mb, hb1, hb2⟩ := I.mod.blt
  refine wpAny_Call_Name_kw (ld_glob I hg T.gC ?_ hdb)
  refine PySem.W.callWith_K (h₀ := X.base) I.ok.mod.kin T.kC (thn (ha.run pos pins s σ H _ I h) fun us s1 hh => ?_) he hpl
  obtain ⟨vs, H1, I1, r1, hlen, q1⟩ := hh
  refine ⟨I1.kIn, ?_⟩
  cases r1 with
  | nil => cases hlen
  | @cons v u vr ur rv rr =>
    show wpAny _ _ (call (.ref C) (u :: ur)) _ _ _
    have hlim := I1.nolimit
    have hul : ur.length = gs.length := by
      rw [← Vals.length rr]
      exact Nat.succ.inj hlen
    have KI := I1.kIn
    have hglob := I1.mod.glob.keeps I1.bk
    have hblt := hb1.keeps I1.bk
    obtain ⟨hp, g, dr, tk, os⟩ := s1
    refine wpAny_call (XS.errs_made T S rfl KI hlim hglob hblt ((hb2 "super" (by decide)).trans PyProof.Rows.Boot.«super») (by have := hr.dp; omega) hul fun h' tk' ex d M => ?_)
    show MkP X pins σ Q (.ref ex) ⟨h', g, dr, tk', os⟩
    obtain ⟨t1, hoe⟩ := M.er.obj
    have hns := M.er.ns
    obtain ⟨G', g1, g2⟩ := restrict h' fun b => decide (b ≠ ex)
    have gk : ∀ b, b ≠ ex → G'.get? b = h'.get? b := fun b hb => g1 b (decide_eq_true hb)
    have ge : G'.get? ex = none := g2 ex (by simp)
    have old : ∀ b o, hp.get? b = some o → G'.get? b = some o := fun b o q => (gk b (Nat.ne_of_lt (Nat.lt_of_lt_of_le (Heap.lt_size q) M.new))).trans (M.keep b o q)
    have ob : ObjOk X.prog X.w (upd H1 d (.xd ((f0 :: gs).zip (v :: vr)).reverse)) G' d (.xd ((f0 :: gs).zip (v :: vr)).reverse) :=
      ⟨_, hns.at (fun o q => (gk d M.dne).trans q), fun f => relO_mp (pair_rev (.cons ⟨rfl, rv⟩ (pair_zip rr))) f⟩
    have J : Inv X pins σ (upd H1 d (.xd ((f0 :: gs).zip (v :: vr)).reverse)) ⟨G', g, dr, tk', os⟩ := I1.laid (t' := tk') old M.dbig ob
    refine ⟨ex, _, _, ⟨G', g, dr, tk', os⟩, _, .ref C, some d, rfl, J, fun b o q => ?_, ge, hoe, ⟨rfl, rfl⟩, rfl, rfl, ?_, rfl, I1.bare, raises_own (xfB_ok T.xf).exC T.tC, q1 d (I1.hok.fresh M.dbig)⟩
    · by_cases hb : b = ex
      · have q' : G'.get? b = some o := q
        rw [hb, ge] at q'; cases q'
      · exact (gk b hb).symm.trans q
    · rw [upd_ne (Ne.symm M.dne)]
      exact I1.hok.fresh M.new
theorem ps_raiseErr {e : Expr} {es : List Expr} {ta : TA} {W : WX} {p pos pos2 : Pos} {k : Nat} (hc : X.calm = true) (T : XS.ErrTxt X.prog X.K X.mg x qual st (f0 :: gs) C fI) (S : XS.ErrSyn qual st f0 gs) (hr : Room k X.A) (tk : Takes X W) (ha : PA X (e :: es) ta)
    (hg : Gl X x := by rfl) (hdb : (x == ("__debug__" : Str)) = false := by decide) (he : starEach (e :: es) X.env = (false, eval e X.env) :: starEach es X.env := by rfl) (hpl : (backTo pos (starEach es X.env)).any (·.1) = false := by rfl) :
    PS X (.Raise (some (.Call (.Name x p) (e :: es) [] pos)) none pos2) (tRaiseE C (f0 :: gs) W ta) := ps_raise hc tk (pmk_err T S hr ha hg hdb he hpl)
end

/-! ### isinstance(e, c), e the error that the suite holds, whatever its own dict -/
def rIsX (K : PySem.W.Frag) (a : Addr) (cls : Value) (d : Option Addr) : List V → Hp → VK → Prop := fun xs H Q =>
  ∃ (D dd : Addr) (fs : List (Str × V)) (c : V) (cv : Value) (b : Bool), cls = .ref D ∧ d = some dd ∧ xs = [.ref a, c] ∧ (∀ u, RelV c u → u = cv) ∧ PySem.W.kitOne K (.ref D) cv = some b ∧ H dd = some (.xd fs) ∧
    (PySem.W.findIn K (.ref D) "__class__" = some (some (.builtin "object.__class__")) ∧ PySem.W.mroIn K D (.type "object") = some true ∧ xfB K D = true) ∧ Q (.bl b) H
theorem call_isX {X : Cx} {a : Addr} {oe : Obj} {cls : Value} {d : Option Addr} {pn : List (Addr × Obj)} (hn : PySem.W.specialIn X.K (.builtin "object.__class__") "__get__" = some (some (.builtin "getset_descriptor.__get__")))
    (ht : PySem.W.takesIn X.K (.builtin "object.__class__") = some true) (hz : Zc cls d oe) (hf : ∃ vs, oe.data = .fields vs) : CallR (X.suite a ((a, oe) :: pn)) (.builtin "isinstance") (rIsX X.K a cls d) := by
  intro pins s σ H xs us Q I r h
  obtain ⟨D, dd, fs, c, cv, b, rfl, rfl, rfl, hcv, e, hdd, ⟨ha, hm, hx⟩, q⟩ := h
  obtain ⟨ga, gg, exC, hdC⟩ := xfB_ok hx
  cases r with
  | cons rx rr =>
    cases rr with
    | cons rt rr =>
      cases rr
      cases rx
      have ec := hcv _ rt
      subst ec
      obtain ⟨hget, _⟩ := I.pin (a, oe) (List.mem_append.mpr (.inl List.mem_cons_self))
      obtain ⟨vs, hv⟩ := hf
      have hxd : ObjOk X.prog X.w H s.heap dd (.xd fs) := I.hok dd _ hdd
      obtain ⟨mA, hns, _⟩ := hxd
      obtain ⟨od, ho, _⟩ := lookIn_ns hns
      have J : PySem.W.InstAt s.heap a oe D (some od) := ⟨hget, hz.1, by unfold PySem.W.notCls; rw [hv] <;> rfl, by rw [hz.2]; exact ho⟩
      obtain ⟨cd, hc, _⟩ := PySem.W.any_some hdC
      exact PySem.W.kia_one (PySem.W.kitx_exc (by rw [hc]; rfl) ga gg exC ha hn ht hm) I.kIn J e (fun z => nomatch z) fun tk => ⟨.bl b, H, I.kept (t' := tk) fun _ _ z => z, rfl, q⟩
end L2

/-! ### try with several clauses, with a name or without -/
namespace L2
open PySem PySem.Spec PyProof.Rows
abbrev Clause := Value × Option Nat × (Addr → Value → Option Addr → TS)
def endN : Option Nat → Ends → Ends
  | none, D => D
  | some i, D => { nx := fun σ' H' => D.nx (σ'.set i none) H', rt := D.rt, bk := fun σ' H' => D.bk (σ'.set i none) H', ct := fun σ' H' => D.ct (σ'.set i none) H' }
def inN : Option Nat → Addr → St → St
  | none, _, σ => σ
  | some i, a, σ => σ.set i (some (.ref a))
/-- what the clauses wish of an exception of the body, one after the other -/
def wGen (K : PySem.W.Frag) (Wout : WX) (D : Ends) : List Clause → WX
  | [] => Wout
  | (c, io, ts) :: r => fun cls d σ H => ∃ b, PySem.W.exmOne K cls c = some b ∧ (b = true → ∀ a, H a = none → ts a cls d (endN io D) (inN io a σ) H) ∧ (b = false → wGen K Wout D r cls d σ H)
inductive HdsG (X : Cx) : List ExceptHandler → List Clause → Prop
  | nil : HdsG X [] []
  | plain {x : Str} {c : Value} {ts : Addr → Value → Option Addr → TS} {b₀ : Stmt} {suite : List Stmt} {np pq : Pos} {hds : List ExceptHandler} {l : List Clause} (hc : Names X x c)
      (hsu : ∀ (a : Addr) (oe : Obj) (cls : Value) (d : Option Addr) (pn : List (Addr × Obj)), Zc cls d oe → (∃ vs, oe.data = .fields vs) → PSs (X.suite a ((a, oe) :: pn)) (b₀ :: suite) (ts a cls d)) (r : HdsG X hds l) :
      HdsG X (.ExceptHandler (some (.Name x np)) none (b₀ :: suite) pq :: hds) ((c, none, ts) :: l)
  | named {x n : Str} {c : Value} {i : Nat} {ts : Addr → Value → Option Addr → TS} {b₀ : Stmt} {suite : List Stmt} {np pq : Pos} {hds : List ExceptHandler} {l : List Clause} (hc : Names X x c)
      (hi : X.N[i]? = some n) (hln : X.env.kindOf n = some .local)
      (hsu : ∀ (a : Addr) (oe : Obj) (cls : Value) (d : Option Addr) (pn : List (Addr × Obj)), Zc cls d oe → (∃ vs, oe.data = .fields vs) → PSs (X.suite a ((a, oe) :: pn)) (b₀ :: suite) (ts a cls d)) (r : HdsG X hds l) :
      HdsG X (.ExceptHandler (some (.Name x np)) (some n) (b₀ :: suite) pq :: hds) ((c, some i, ts) :: l)
section
variable {X : Cx} {body : List Stmt} {hd0 : ExceptHandler} {hds : List ExceptHandler} {l : List Clause} {pos : Pos} {tb : WX → TS} {Wout : WX}
theorem ps_try_gen (hs : X.stack = X.env :: X.outer) (hf : X.env.frame = some X.env.locals) (hN : X.N.Nodup) (tk : Takes X Wout)
    (hb : ∀ (W : WX) (pn : List (Addr × Obj)) (xe : Value → Shared → Prop), Takes (X.tr pn xe) W → PassesOwn (model X.prog X.w) X.A X.env xe → PSs (X.tr pn xe) body (tb W))
    (hh : HdsG X (hd0 :: hds) l) : PS X (.Try body (hd0 :: hds) [] [] pos) (fun D σ H => tb (wGen X.K Wout D l) D σ H) := by
  refine ⟨fun pins s σ H D I h => ?_⟩
  have ok := I.ok
  have frm : X.A.frames = some (X.env :: X.outer) := by rw [ok.frames, hs]
  refine wpAny_Try_except ?_
  refine wpAny_mono ((hb (wGen X.K Wout D l) (X.pn ++ pins)
    (fun ev z1 => wpAny (model X.prog X.w) X.A (noteFrame ev X.env) (fun _ z2 => wpAny (model X.prog X.w) X.A (setFlight ev none) (fun _ z3 => wpAny (model X.prog X.w) X.A (handleBy ev X.env (hd0 :: hds)) (SP X pins D) X.xe z3) X.xe z2) X.xe z1)
    (fun u s' xx => ?_) PassesOwn.looking).run [] s σ H D (I.toTry _) h) (fun fl s1 hsp => ?_) (fun ev s1 he => he)
  · obtain ⟨ea, B, sI, pp, σq, Hq, cls, d, rfl, Jt, nb, up, sky, na, os, ag, wish⟩ := xx
    have J : Inv X pins σq Hq sI := Jt.ofTry ok
    have sky2 : Sky B (X.env :: X.outer) ea (Zc cls d) X.env.locals s'.heap := by rw [← hs]; exact sky
    show wpAny (model X.prog X.w) X.A (noteFrame (Value.ref ea) X.env) _ _ _
    refine Sky.land Zc.steady frm hf sky2 fun g3 fly3 upg3 => ?_
    have K3 : Inv X pins σq Hq { s' with heap := g3 } := J.landed nb fly3.1 (up.trans upg3) os ag
    obtain ⟨ob3, fv3, hg3, zc3, dt3⟩ := fly3.there
    have noframe : ∀ {hh : Heap} {o : Obj} {vs : Array Value}, hh.FunFrames B (X.env :: X.outer) → hh.get? ea = some o → o.data = .fields vs → ea ∉ frs (X.env :: X.outer) := fun {hh o vs} ff e1 dd1 hm1 => by
      obtain ⟨_, o2, e2, hnf⟩ := ff.mem hm1
      rw [e1] at e2
      cases e2
      exact hnf _ dd1
    have nofr := noframe fly3.2.2.1 hg3 dt3
    have neL : ea ≠ X.env.locals := fun z => nofr (List.mem_filterMap.mpr ⟨X.env, List.mem_cons_self, by rw [hf, z]⟩)
    have neF : ea ∉ X.fs := fun hm1 => by
      obtain ⟨e1, he1, q1⟩ := List.mem_filterMap.mp hm1
      exact nofr (List.mem_filterMap.mpr ⟨e1, List.mem_cons_of_mem _ he1, q1⟩)
    have Q3 := K3.suite hg3 dt3 na neL neF
    have LT : PySem.W.Looks (model X.prog X.w) g3 (typeOf (.ref ea)) cls := fun A1 Q1 E1 z1 k1 q1 => wpAny_typeOf_ref (k1 _ _ hg3) (by rw [zc3.1]; exact q1)
    have named : ∀ {x : Str} {c : Value} {np : Pos} {Q1 : Value → Shared → Prop} {E1 : Value → Shared → Prop}, Names X x c → Q1 c { s' with heap := g3 } → wpAny (model X.prog X.w) (X.A.mark (some (.ref ea))) (eval (.Name x np) X.env) Q1 E1 { s' with heap := g3 } := fun {x c np Q1 E1} hc q1 => by
      obtain ⟨hg, hdbg, hm | ⟨hm, hv, hnn⟩⟩ := hc
      · exact ld_glob (X := X.suite ea ((ea, ob3) :: (X.pn ++ pins))) Q3 hg hm q1 hdbg
      · exact ld_blt (X := X.suite ea ((ea, ob3) :: (X.pn ++ pins))) Q3 hg hm hv q1 hnn hdbg
    have run : ∀ {hs2 : List ExceptHandler} {l2 : List Clause}, HdsG X hs2 l2 → wGen X.K Wout D l2 cls d σq Hq → wpAny (model X.prog X.w) X.A (handleBy (.ref ea) X.env hs2) (SP X pins D) X.xe { s' with heap := g3 } := by
      intro hs2 l2 hk
      induction hk with
      | nil =>
        intro w1
        refine wpAny_handleBy_nil ?_
        obtain ⟨_, _, _, o1, vs1, T1, oT1, tt1, he1, hz1, hd1, hw1, hr1⟩ := id fly3
        unfold PySem.passOn
        refine wpAny_bind (wpAny_field he1 hd1 hw1 ?_)
        rw [if_neg (show ¬ ((Value.ref T1 == Value.none) = true) from by simp)]
        have last : wpAny (model X.prog X.w) X.A (setFlight (.ref ea) X.env.frame) (fun _ z4 => wpAny (model X.prog X.w) X.A (throw (.ref ea) : Sem Flow) (SP X pins D) X.xe z4) X.xe { s' with heap := g3 } := by
          rw [hf]
          refine HandSPX.setFlight_upZ fly3 fun g4 fly4 upg4 => wpAny_throw (tk _ _ ?_)
          exact ⟨ea, B, sI, pins, σq, Hq, cls, d, rfl, J, nb, (up.trans upg3).trans upg4, .inr (.inr (by rw [hs]; exact fly4)), na, os, ag, w1⟩
        first
          | exact wpAny_bind (wpAny_pure (wpAny_bind last))
          | exact wpAny_bind last
      | @plain x c ts b₀ suite np pq hs3 l3 hc hsu r ih =>
        intro w1
        obtain ⟨b, hb1, hyes, hno⟩ := w1
        refine wpAny_handleBy_cons (codeAny_handlers_test ?_) (by intro q; cases q)
        refine named hc ((PySem.W.exm_one (M := model X.prog X.w) K3.kIn LT hb1).here ?_)
        cases b with
        | true =>
          refine codeAny_handlers_suite (HandSPX.lands_againZ fly3 fun g4 fly4 upg4 => ?_)
          have K4 : Inv X pins σq Hq { s' with heap := g4 } := J.landed nb fly4.1 ((up.trans upg3).trans upg4) os ag
          obtain ⟨ob4, fv4, hg4, zc4, dt4⟩ := fly4.there
          have Q4 := K4.suite hg4 dt4 na neL neF
          refine wpAny_mono ((hsu ea ob4 cls d (X.pn ++ pins) zc4 ⟨_, dt4⟩).run [] _ _ Hq _ Q4 (hyes rfl ea na)) (fun f1 s6 hsp => ?_) (fun _ _ z => False.elim z)
          cases f1 with
          | ret u6 =>
            obtain ⟨v6, σ6, H6, S6, r6, q6⟩ := hsp
            exact ⟨_, _, _, S6.unsuite ok, r6, q6⟩
          | next | brk | cont =>
            obtain ⟨σ6, H6, S6, q6⟩ := hsp
            exact ⟨_, _, S6.unsuite ok, q6⟩
        | false =>
          show wpAny _ X.A (handleBy (.ref ea) X.env hs3) _ _ _
          exact ih (hno rfl)
      | @named x n c i ts b₀ suite np pq hs3 l3 hc hi hln hsu r ih =>
        intro w1
        obtain ⟨b, hb1, hyes, hno⟩ := w1
        refine wpAny_handleBy_cons (codeAny_handlers_test ?_) (by intro q; cases q)
        refine named hc ((PySem.W.exm_one (M := model X.prog X.w) K3.kIn LT hb1).here ?_)
        cases b with
        | true =>
          refine codeAny_handlers_suite_as (HandSPX.lands_againZ fly3 fun g4 fly4 upg4 => ?_)
          have K4 : Inv X pins σq Hq { s' with heap := g4 } := J.landed nb fly4.1 ((up.trans upg3).trans upg4) os ag
          obtain ⟨ob4, fv4, hg4, zc4, dt4⟩ := fly4.there
          have Q4 := K4.suite hg4 dt4 na neL neF
          refine store_ok (X := X.suite ea ((ea, ob4) :: (X.pn ++ pins))) (v := .ref ea) Q4 hN hi (.inl hln) rfl (fun s5 S5 => ?_) (.inr hln)
          refine wpAny_mono ((hsu ea ob4 cls d (X.pn ++ pins) zc4 ⟨_, dt4⟩).run [] s5 _ Hq _ S5 (hyes rfl ea na)) (fun f1 s6 hsp => ?_) (fun _ _ z => False.elim z)
          have away : ∀ {σ6 : St} {H6 : Hp} {Q6 : Shared → Prop}, Inv (X.suite ea ((ea, ob4) :: (X.pn ++ pins))) [] σ6 H6 s6 → (∀ s7, Inv X pins (σ6.set i none) H6 s7 → Q6 s7) →
              wpAny (model X.prog X.w) X.A (do bindName X.env n .none; unbindBehindTheSuite X.env n pq) (fun _ s7 => Q6 s7) X.xe s6 := fun S6 hq => gone_ok (S6.unsuite ok) hN hi hln hq
          cases f1 with
          | ret u6 =>
            obtain ⟨v6, σ6, H6, S6, r6, q6⟩ := hsp
            exact away S6 fun s7 J7 => ⟨_, _, _, J7, r6, q6⟩
          | next | brk | cont =>
            obtain ⟨σ6, H6, S6, q6⟩ := hsp
            exact away S6 fun s7 J7 => ⟨_, _, J7, q6⟩
        | false =>
          show wpAny _ X.A (handleBy (.ref ea) X.env hs3) _ _ _
          exact ih (hno rfl)
    exact run hh wish
  · cases fl with
    | next =>
      obtain ⟨σq, Hq, Jt, q1⟩ := hsp
      exact wpAny_execs_nil ⟨σq, Hq, Jt.ofTry ok, q1⟩
    | brk | cont =>
      obtain ⟨σq, Hq, Jt, q1⟩ := hsp
      exact ⟨σq, Hq, Jt.ofTry ok, q1⟩
    | ret u =>
      obtain ⟨v, σq, Hq, Jt, r1, q1⟩ := hsp
      exact ⟨v, σq, Hq, Jt.ofTry ok, r1, q1⟩
end
end L2

/-! # Own layer: defs bundled by name, list items read for a store, frames, reading steps -/
namespace L2
open PySem PySem.Spec PyProof.Rows

/-- the def of this name keeps the promise -/
def FnB (P : Program) (w : World) (K : PySem.W.Frag) (mg : Str → Option Value) (base : Heap) (CX : CXT) (k : Nat) (x : Str) (ps : List Str) (sp : Sp) : Prop :=
  ∃ (f : Addr) (fd : FuncData), FnOk P w K mg base CX k f fd ps sp ∧ mg x = some (.ref f) ∧ PySem.W.keepIn K (.ref f) = true ∧ Binds K fd ps []

section
variable {X : Cx} {CX : CXT} {k : Nat} {ps : List Str} {sp : Sp} {E : XK} {x : Str} {p pos : Pos} {e : Expr} {es : List Expr} {t : TA}
theorem pe_callF (F : FnB X.prog X.w X.K X.mg X.base CX k x ps sp) (hr : Room k X.A) (hg : Gl X x) (hx : Passes CX X E)
    (ha : PA X (e :: es) t) (hdb : (x == ("__debug__" : Str)) = false := by decide) (he : starEach (e :: es) X.env = (false, eval e X.env) :: starEach es X.env := by rfl) (hpl : (backTo pos (starEach es X.env)).any (·.1) = false := by rfl) :
    PE X (.Call (.Name x p) (e :: es) [] pos) (tCall sp [] E t) := by
  obtain ⟨f, fd, F1, g, kp, b⟩ := F
  exact pe_call F1 hr hg g kp b .nil hx ha hdb he hpl
theorem pe_callFS {ES : St → XK} (F : FnB X.prog X.w X.K X.mg X.base CX k x ps sp) (hr : Room k X.A) (hg : Gl X x) (hx : ∀ σ, PassesAt CX X σ (ES σ))
    (ha : PA X (e :: es) t) (hdb : (x == ("__debug__" : Str)) = false := by decide) (he : starEach (e :: es) X.env = (false, eval e X.env) :: starEach es X.env := by rfl) (hpl : (backTo pos (starEach es X.env)).any (·.1) = false := by rfl) :
    PE X (.Call (.Name x p) (e :: es) [] pos) (tCallS sp ES t) := by
  obtain ⟨f, fd, F1, g, kp, b⟩ := F
  exact pe_callS F1 hr hg g kp b hx ha hdb he hpl
theorem pget_list : PGet X (rIxL X.K) := by
  intro pins s σ H o i ov iv Q I ro ri h
  obtain ⟨p, xs, j, z, rfl, rfl, hq, he, q⟩ := h
  cases ro
  obtain ⟨t, rfl⟩ := ri
  obtain ⟨its, r, pl, hz⟩ := I.list hq
  obtain ⟨n, h1, h2, h3, h4, h5⟩ := atI_get he
  obtain ⟨w, ew, rw'⟩ := r.get h2
  have hl := r.length
  have hn := line63
  have fin : EP X pins σ Q w s := ⟨z, H, I, rw', q⟩
  by_cases h0 : 0 ≤ j
  · have hj : j.toNat = n := by
      rw [seqIndex_of h0 h5] at h1
      exact Option.some.inj h1
    exact wpAny_getItem_list pl.isList h0 (by omega) (by rw [hj]; simpa using ew) fin
  · have hj : (j + (its.toArray.size : Int)).toNat = n := by
      rw [seqIndex_neg (by omega) h4] at h1
      rw [List.size_toArray, ← hl]
      exact Option.some.inj h1
    exact wpAny_getItem_list_neg (Q := fun v s' => EP X pins σ Q v s') pl.isList (by omega) (by rw [List.size_toArray] <;> omega) (by omega) (by rw [hj]; simpa using ew) fin
end

theorem passN {X : Cx} : Passes (L2.CX X.prog X.w) X E0 := fun _ _ _ _ _ _ _ h => by
  obtain ⟨_, _, _, _, _, _, _, _, _, _, _, _, z⟩ := h
  exact z.elim
/-! ### frames: what is tracked stays, but for the addresses of S -/
def Fr (S : List Addr) (H H' : Hp) : Prop := ∀ a o, H a = some o → a ∉ S → H' a = some o
theorem Fr.refl (S : List Addr) (H : Hp) : Fr S H H := fun _ _ h _ => h
theorem Fr.trans {S : List Addr} {H H1 H2 : Hp} (a : Fr S H H1) (b : Fr S H1 H2) : Fr S H H2 := fun c o h n => b c o (a c o h n) n
theorem Fr.new {S : List Addr} {H H' : Hp} {p : Addr} {o : HO} (e : Fr S H H') (h : H' p = none) : Fr S H (upd H' p o) := fun a u ha n => by
  have z := e a u ha n
  rw [upd_ne (ne_of_none z h)]
  exact z
/-- a store at an address of S, or at one that H does not know -/
theorem Fr.put {S : List Addr} {H H' : Hp} {p : Addr} {o : HO} (e : Fr S H H') (h : p ∈ S ∨ H p = none) : Fr S H (upd H' p o) := fun a u ha n => by
  have ne : a ≠ p := by
    rintro rfl
    rcases h with h | h
    · exact n h
    · rw [ha] at h
      cases h
  rw [upd_ne ne]
  exact e a u ha n
theorem Fr.sub {S S' : List Addr} {H H' : Hp} (e : Fr S H H') (h : ∀ a, a ∈ S → a ∈ S') : Fr S' H H' := fun a o ha n => e a o ha fun z => n (h a z)
theorem Fr.nil {S : List Addr} {H H' : Hp} (e : Fr [] H H') : Fr S H H' := fun a o ha _ => e a o ha (by simp)
theorem Fr.free {H H' : Hp} {p : Addr} (e : Fr [] H H') (h : H' p = none) : H p = none := by
  cases q : H p with
  | none => rfl
  | some o =>
    rw [e p o q (by simp)] at h
    cases h
theorem Fr.free1 {H H' : Hp} {p b : Addr} {o : HO} (e : Fr [b] H H') (hb : H' b = some o) (h : H' p = none) : H p = none := by
  cases q : H p with
  | none => rfl
  | some u =>
    by_cases z : p = b
    · rw [z, hb] at h
      cases h
    · rw [e p u q (by simpa using z)] at h
      cases h
theorem Fr.l {K : PySem.W.Frag} {H H' : Hp} {a : Addr} {xs : List V} (e : Fr [] H H') (h : SqL K H a xs) : SqL K H' a xs := by
  rcases h with (h | ⟨o, h⟩) | h
  · exact .inl (.inl (e _ _ h (by simp)))
  · exact .inl (.inr ⟨o, e _ _ h (by simp)⟩)
  · exact .inr h
theorem Fr.t {K : PySem.W.Frag} {H H' : Hp} {a : Addr} {xs : List V} (e : Fr [] H H') (h : SqT K H a xs) : SqT K H' a xs := by
  rcases h with (h | ⟨o, h⟩) | h
  · exact .inl (.inl (e _ _ h (by simp)))
  · exact .inl (.inr ⟨o, e _ _ h (by simp)⟩)
  · exact .inr h

/-! ### places of lists -/
theorem at_map {α : Type} {f : α → V} {xs : List α} {j : Nat} {v : α} (h : xs[j]? = some v) : atI (xs.map f) (j : Int) = some (f v) := atI_nat (by rw [List.getElem?_map, h]; rfl)
theorem ix_nat {n j : Nat} (h : j < n) : ixN n (j : Int) = some j := by
  unfold ixN
  rw [if_pos (Int.natCast_nonneg j), if_pos (by exact_mod_cast h)]
  rfl
theorem at_int {α : Type} {xs : List α} {i : Int} {v : α} (h0 : 0 ≤ i) (h : xs[i.toNat]? = some v) : atI xs i = some v := by
  have e : ((i.toNat : Nat) : Int) = i := Int.toNat_of_nonneg h0
  rw [← e]
  exact atI_nat h
theorem ix_int {n : Nat} {i : Int} (h0 : 0 ≤ i) (h : i < n) : ixN n i = some i.toNat := by
  unfold ixN
  rw [if_pos h0, if_pos h]
end L2

namespace L2
open PySem PySem.Spec PyProof.Rows
/-- the built-in names that no module of the row binds -/
structure Blt (mg : Str → Option Value) : Prop where
  m_len : mg "len" = none
  m_int : mg "int" = none
  m_range : mg "range" = none
  m_list : mg "list" = none
  m_min : mg "min" = none
  m_max : mg "max" = none
  m_abs : mg "abs" = none
  m_isinstance : mg "isinstance" = none
  m_bool : mg "bool" = none
  m_str : mg "str" = none
  m_tuple : mg "tuple" = none
  m_dict : mg "dict" = none
  m_sorted : mg "sorted" = none
  m_sum : mg "sum" = none
  m_repr : mg "repr" = none
  m_zip : mg "zip" = none
  m_enumerate : mg "enumerate" = none
  m_reversed : mg "reversed" = none

theorem dec_iff {p : Prop} [Decidable p] {A B : Prop} (h1 : p → A) (h2 : ¬ p → B) : if decide p = true then A else B := by
  by_cases h : p
  · rw [decide_eq_true h]
    exact iteT (h1 h)
  · rw [decide_eq_false h]
    exact iteF (h2 h)
theorem iteY {c : Bool} {A B : Prop} (hc : c = true) (h : A) : if c = true then A else B := by rw [if_pos hc]; exact h
theorem iteN {c : Bool} {A B : Prop} (hc : c = false) (h : B) : if c = true then A else B := by rw [hc, if_neg Bool.false_ne_true]; exact h
/-- b || c by its ways -/
theorem bool_iff {c : Bool} {A B : Prop} (h1 : c = true → A) (h2 : c = false → B) : if c = true then A else B := by
  cases c with
  | true => exact iteT (h1 rfl)
  | false => exact iteF (h2 rfl)

/-! ### the bag of a law: what is left of the script, and the numbers drawn from it -/
def BagAt (H : Hp) (b c : Addr) (ns : List Int) (i v s : Int) : Prop :=
  H b = some (.lst [.ref c, .int i, .int v, .int s]) ∧ H c = some (.lst (ns.map V.int)) ∧ 0 ≤ i ∧ 0 ≤ v ∧ 0 ≤ s
def Bag (H : Hp) (b : Addr) : Prop := ∃ c ns i v s, BagAt H b c ns i v s
theorem BagAt.ne {H : Hp} {b c : Addr} {ns : List Int} {i v s : Int} (h : BagAt H b c ns i v s) : c ≠ b := by
  rintro rfl
  have e := h.1.symm.trans h.2.1
  cases ns with
  | nil => cases e
  | cons n r =>
    have e2 := HO.lst.inj (Option.some.inj e)
    cases e2
theorem BagAt.put {H : Hp} {b c : Addr} {ns : List Int} {i v s i' v' s' : Int} (h : BagAt H b c ns i v s) (hi : 0 ≤ i') (hv : 0 ≤ v') (hs : 0 ≤ s') : BagAt (upd H b (.lst [.ref c, .int i', .int v', .int s'])) b c ns i' v' s' :=
  ⟨upd_same, by rw [upd_ne h.ne]; exact h.2.1, hi, hv, hs⟩
theorem BagAt.fr {S : List Addr} {H H' : Hp} {b c : Addr} {ns : List Int} {i v s : Int} (h : BagAt H b c ns i v s) (e : Fr S H H') (hb : b ∉ S) (hc : c ∉ S) : BagAt H' b c ns i v s :=
  ⟨e _ _ h.1 hb, e _ _ h.2.1 hc, h.2.2⟩
theorem Bag.fr {H H' : Hp} {b : Addr} (h : Bag H b) (e : Fr [] H H') : Bag H' b := by
  obtain ⟨c, ns, i, v, s, h⟩ := h
  exact ⟨c, ns, i, v, s, h.fr e (by simp) (by simp)⟩
theorem Bag.new {H : Hp} {b p : Addr} {o : HO} (h : Bag H b) (hp : H p = none) : Bag (upd H p o) b := h.fr ((Fr.refl [] H).new hp)
theorem Bag.some {H : Hp} {b : Addr} (h : Bag H b) : ∃ o, H b = Option.some o := by
  obtain ⟨c, ns, i, v, s, h⟩ := h
  exact ⟨_, h.1⟩
/-- the bag at b whose numbers stand at c -/
def BagC (H : Hp) (b c : Addr) : Prop := ∃ ns i v s, BagAt H b c ns i v s
theorem BagC.ne {H : Hp} {b c : Addr} (h : BagC H b c) : c ≠ b := by
  obtain ⟨ns, i, v, s, h⟩ := h
  exact h.ne
theorem BagC.fr {S : List Addr} {H H' : Hp} {b c : Addr} (h : BagC H b c) (e : Fr S H H') (hb : b ∉ S) (hc : c ∉ S) : BagC H' b c := by
  obtain ⟨ns, i, v, s, h⟩ := h
  exact ⟨ns, i, v, s, h.fr e hb hc⟩
theorem BagC.put {H : Hp} {b c p : Addr} {o : HO} (h : BagC H b c) (hb : p ≠ b) (hc : p ≠ c) : BagC (upd H p o) b c :=
  h.fr (S := [p]) ((Fr.refl _ H).put (.inl (by simp))) (by simpa using hb.symm) (by simpa using hc.symm)
theorem BagC.new {H : Hp} {b c p : Addr} {o : HO} (h : BagC H b c) (hp : H p = none) : BagC (upd H p o) b c := by
  obtain ⟨ns, i, v, s, h⟩ := h
  exact ⟨ns, i, v, s, h.fr ((Fr.refl [] H).new hp) (by simp) (by simp)⟩
theorem BagC.b {H : Hp} {b c : Addr} (h : BagC H b c) : ∃ i v s, H b = some (.lst [.ref c, .int i, .int v, .int s]) := by
  obtain ⟨ns, i, v, s, h⟩ := h
  exact ⟨_, _, _, h.1⟩
theorem BagC.neb {H : Hp} {b c p : Addr} (h : BagC H b c) (hp : H p = none) : p ≠ b := by
  obtain ⟨i, v, s, h⟩ := h.b
  exact (ne_of_none h hp).symm
theorem BagC.nec {H : Hp} {b c p : Addr} (h : BagC H b c) (hp : H p = none) : p ≠ c := by
  obtain ⟨ns, i, v, s, h⟩ := h
  exact (ne_of_none h.2.1 hp).symm
/-- _law_take(bag, many): some number below many; all but the bag stays -/
def spTake : Sp := fun vs H Q _ => ∃ (b c : Addr) (many : Int), vs = [.ref b, .int many] ∧ BagC H b c ∧ 0 < many ∧ many.natAbs.log2 < 9000 ∧
  ∀ (t : Int) (H' : Hp), 0 ≤ t → t < many → Fr [b] H H' → BagC H' b c → Q (.int t) H'
/-- _law_bag(script): a new bag -/
def spBag (K : PySem.W.Frag) : Sp := fun vs H Q _ => ∃ (a : Addr) (ns : List Int), vs = [.ref a] ∧ SqL K H a (ns.map V.int) ∧ ns.length ≤ 1000 ∧
  ∀ (b c : Addr) (H' : Hp), H b = none → H c = none → Fr [] H H' → BagC H' b c → Q (.ref b) H'
theorem log_ok {z : Int} (h : z.natAbs < 2 ^ 250) : z.natAbs.log2 < 9000 := by
  by_cases c : z.natAbs = 0
  · rw [c]
    decide
  · rw [Nat.log2_lt c]
    exact Nat.lt_of_lt_of_le h (Nat.pow_le_pow_right (by decide) (by decide))
end L2

namespace L2
open PySem PySem.Spec PyProof.Rows
theorem get_map_int {ns : List Int} {i : Nat} {y : V} (h : (ns.map V.int)[i]? = some y) : ∃ z, ns[i]? = some z ∧ y = V.int z := by
  rw [List.getElem?_map] at h
  cases e : ns[i]? with
  | none => rw [e] at h; cases h
  | some z => rw [e] at h; exact ⟨z, rfl, (Option.some.inj h).symm⟩
theorem get_mapf {α : Type} {f : α → V} {ns : List α} {i : Nat} {y : V} (h : (ns.map f)[i]? = some y) : ∃ z, ns[i]? = some z ∧ y = f z := by
  rw [List.getElem?_map] at h
  cases e : ns[i]? with
  | none => rw [e] at h; cases h
  | some z => rw [e] at h; exact ⟨z, rfl, (Option.some.inj h).symm⟩
theorem take_succ {α : Type} {ns : List α} {i : Nat} {z : α} (h : ns[i]? = some z) : ns.take (i + 1) = ns.take i ++ [z] := by
  rw [List.take_add_one, h]
  rfl
end L2

namespace L2
open PySem PySem.Spec PyProof.Rows
theorem for_rng {n : Nat} {g : TG} {tb : TS} {D : Ends} {σ : St} {H : Hp} (Pv : Nat → St → Hp → Prop) (h0 : Pv 0 σ H)
    (hs : ∀ i σ H, i < n → Pv i σ H → g (.int (i : Int)) σ H fun σ2 H2 => tb { D with nx := Pv (i + 1), ct := Pv (i + 1), bk := D.nx } σ2 H2) (hd : ∀ σ H, Pv n σ H → D.nx σ H) :
    ∃ W : Nat → Nat → St → Hp → Prop, (∃ m, W 0 m σ H) ∧ ∀ i m σ H, W i m σ H →
      ((Itr 0 n).stop i H ∧ D.nx σ H) ∨ ((Itr 0 n).go i H ∧ ∃ N : St → Hp → Prop, (∀ σ' H', N σ' H' → ∃ m', m' < m ∧ W (i + 1) m' σ' H') ∧ ∀ x H', (Itr 0 n).yld i H x H' → g x σ H' fun σ2 H2 => tb { D with nx := N, ct := N, bk := D.nx } σ2 H2) :=
  for_range Pv h0 (fun i σ H hi p => by rw [Int.zero_add]; exact hs i σ H hi p) hd
theorem lc_rng {n : Nat} {g : TG} {tt : TT} {te : TE} {vs : List Nat} {σ : St} {H1 : Hp} {D : Addr} {Qd : Hp → Prop} (Pv : Nat → Hp → Prop) (h0 : Pv 0 (upd H1 D (.lst [])))
    (hs : ∀ i H, i < n → Pv i H → g (.int (i : Int)) (wipe σ vs) H fun σ2 H2 => wipe σ2 vs = wipe σ vs ∧ tt σ2 H2 fun b H3 =>
      if b = true then te σ2 H3 fun y H4 => ∃ acc, H4 D = some (.lst acc) ∧ acc.length < sizeLine ∧ Pv (i + 1) (upd H4 D (.lst (acc ++ [y]))) else Pv (i + 1) H3) (hd : ∀ H, Pv n H → Qd H) :
    ∃ W : Nat → Nat → Hp → Prop, (∃ m, W 0 m (upd H1 D (.lst []))) ∧ ∀ i m H, W i m H →
      ((Itr 0 n).stop i H ∧ Qd H) ∨ ((Itr 0 n).go i H ∧ ∃ Nx : Hp → Prop, (∀ H', Nx H' → ∃ m', m' < m ∧ W (i + 1) m' H') ∧ ∀ x H', (Itr 0 n).yld i H x H' → g x (wipe σ vs) H' fun σ2 H2 => wipe σ2 vs = wipe σ vs ∧ tt σ2 H2 fun b H3 =>
        if b = true then te σ2 H3 fun y H4 => ∃ acc, H4 D = some (.lst acc) ∧ acc.length < sizeLine ∧ Nx (upd H4 D (.lst (acc ++ [y]))) else Nx H3) :=
  lc_range Pv h0 (fun i H hi p => by rw [Int.zero_add]; exact hs i H hi p) hd
/-- numbers that a range takes -/
theorem rg_ok {n : Nat} (h : n ≤ 100000000) : -(2 ^ 62) ≤ (n : Int) ∧ (n : Int) < 2 ^ 62 := by omega
theorem len_line {n : Nat} (h : n ≤ 100000) : n ≤ sizeLine := Nat.le_trans h (by decide)
theorem len_lt {n : Nat} (h : n < 100000) : n < sizeLine := Nat.lt_of_lt_of_le h (by decide)
/-- ends that nobody asks for -/
def noEnds : Ends := { nx := fun _ _ => False, rt := fun _ _ => False }
theorem rep_one {n : Nat} {v : V} : (List.replicate n [v]).flatten = List.replicate n v := by
  induction n with
  | zero => rfl
  | succ m ih =>
    rw [List.replicate_succ, List.flatten_cons, ih, List.replicate_succ]
    rfl
end L2

namespace L2
open PySem PySem.Spec PyProof.Rows
theorem while_m {c : TT} {tb : TS} {D : Ends} {σ : St} {H : Hp} (W : Nat → St → Hp → Prop) (m0 : Nat) (h0 : W m0 σ H)
    (hs : ∀ m σ H, W m σ H → c σ H fun b H1 => if b = true then tb { D with nx := fun σ' H' => ∃ m', m' < m ∧ W m' σ' H', ct := fun σ' H' => ∃ m', m' < m ∧ W m' σ' H', bk := D.nx } σ H1 else D.nx σ H1)
    (mono : ∀ σ H Q Q', (∀ b H1, Q b H1 → Q' b H1) → c σ H Q → c σ H Q') : tWhile c tb D σ H := by
  refine ⟨W, ⟨m0, h0⟩, fun m σ H p => mono σ H _ _ (fun b H1 q => ?_) (hs m σ H p)⟩
  cases b with
  | true => exact ⟨_, fun σ' H' h => h, q⟩
  | false => exact q
/-- while True -/
theorem while_true {tb : TS} {D : Ends} {σ : St} {H : Hp} (W : Nat → St → Hp → Prop) (m0 : Nat) (h0 : W m0 σ H)
    (hs : ∀ m σ H, W m σ H → tb { D with nx := fun σ' H' => ∃ m', m' < m ∧ W m' σ' H', ct := fun σ' H' => ∃ m', m' < m ∧ W m' σ' H', bk := D.nx } σ H) : tWhile (tB (tC (.bl true))) tb D σ H :=
  while_m W m0 h0 (fun m σ H p => ⟨true, rfl, iteT (hs m σ H p)⟩) fun σ H Q Q' h ⟨c, e, q⟩ => ⟨c, e, h _ _ q⟩
/-- the places of a list of numbers, as a dict -/
def kvsOf : List Int → Nat → List (Key × V)
  | [], _ => []
  | v :: r, i => (Sum.inl v, V.int (i : Int)) :: kvsOf r (i + 1)
theorem kvsOf_len : ∀ (l : List Int) (i : Nat), (kvsOf l i).length = l.length
  | [], _ => rfl
  | v :: r, i => by
    show (kvsOf r (i + 1)).length + 1 = r.length + 1
    rw [kvsOf_len r]
theorem kvsOf_snoc (v : Int) : ∀ (l : List Int) (i : Nat), kvsOf (l ++ [v]) i = kvsOf l i ++ [(Sum.inl v, V.int ((i + l.length : Nat) : Int))]
  | [], i => rfl
  | u :: r, i => by
    show (_ :: kvsOf (r ++ [v]) (i + 1)) = _ :: (kvsOf r (i + 1) ++ _)
    rw [kvsOf_snoc v r (i + 1)]
    have e : i + 1 + r.length = i + (u :: r).length := by
      rw [List.length_cons]
      omega
    rw [e]
theorem kvsOf_val (v : Int) : ∀ (l : List Int) (i : Nat), valV (kvsOf l i) (Sum.inl v : Key) = if v ∈ l then some (V.int ((i + l.idxOf v : Nat) : Int)) else none
  | [], i => rfl
  | u :: r, i => by
    have ih := kvsOf_val v r (i + 1)
    unfold valV at ih ⊢
    show ((_ :: kvsOf r (i + 1)).find? _).map _ = _
    rw [List.find?_cons]
    by_cases c : u = v
    · have d : decide ((Sum.inl u : Key) = Sum.inl v) = true := decide_eq_true (by rw [c])
      simp only [d]
      rw [if_pos (by rw [c]; exact List.mem_cons_self), c, List.idxOf_cons_self]
      rfl
    · have d : decide ((Sum.inl u : Key) = Sum.inl v) = false := decide_eq_false (fun e => c (Sum.inl.inj e))
      simp only [d]
      rw [ih]
      by_cases m : v ∈ r
      · rw [if_pos m, if_pos (List.mem_cons_of_mem _ m)]
        have ec : (u == v) = false := by simpa using c
        rw [List.idxOf_cons, ec]
        have e : i + 1 + r.idxOf v = i + (r.idxOf v + 1) := by omega
        rw [e]
        rfl
      · rw [if_neg m, if_neg]
        intro h
        rcases List.mem_cons.mp h with h | h
        · exact c h.symm
        · exact m h
theorem cut_drop (xs : List V) (i : Nat) (h : i ≤ xs.length) : cutV xs (some (i : Int)) none = xs.drop i := by
  unfold cutV
  have e1 : HT.sIx xs.length 0 (some (i : Int)) = i := by
    rw [HT.sIx_nat]
    omega
  have e2 : HT.sIx xs.length xs.length none = xs.length := rfl
  rw [e1, e2]
  exact List.take_of_length_le (by rw [List.length_drop]; exact Nat.le_refl _)
end L2

namespace L2
open PySem PySem.Spec PyProof.Rows
theorem nint {a b : Int} (h : (!decide (V.int a = V.int b)) = true) : a ≠ b := fun e => by
  rw [e] at h
  simp at h
theorem yint {a b : Int} (h : (!decide (V.int a = V.int b)) = false) : a = b := by
  have : decide (V.int a = V.int b) = true := by simpa using h
  exact V.int.inj (of_decide_eq_true this)
theorem ne_if {a b : Int} {A B : Prop} (h1 : a ≠ b → A) (h2 : a = b → B) : if (!decide (V.int a = V.int b)) = true then A else B := bool_iff (fun h => h1 (nint h)) fun h => h2 (yint h)
theorem eq_if {a b : Int} {A B : Prop} (h1 : a = b → A) (h2 : a ≠ b → B) : if decide (V.int a = V.int b) = true then A else B :=
  dec_iff (fun h => h1 (V.int.inj h)) fun h => h2 fun e => h (congrArg V.int e)
theorem not_if {p : Prop} [Decidable p] {A B : Prop} (h1 : ¬ p → A) (h2 : p → B) : if (!decide p) = true then A else B := by
  by_cases h : p
  · rw [decide_eq_true h]
    exact iteF (h2 h)
  · rw [decide_eq_false h]
    exact iteT (h1 h)
end L2

namespace L2
open PySem PySem.Spec PyProof.Rows
/-- min(t), t a tuple of two ints -/
def rMinT (K : PySem.W.Frag) : List V → Hp → VK → Prop := fun vs H Q => ∃ (a : Addr) (i j : Int), vs = [V.ref a] ∧ SqT K H a [.int i, .int j] ∧ Q (.int (if j < i then j else i)) H
theorem cr_minT {X : Cx} (hc : X.calm = true) (hu : X.A.units + 65 < cLine) : CallR X (.builtin "min") (rMinT X.K) := by
  intro pins s σ H vs us Q I r h
  obtain ⟨a, i, j, rfl, hs, q⟩ := h
  obtain ⟨its, rv, hl, _⟩ := I.tuple hs
  rw [Vals.ref1 r]
  obtain ⟨u1, u2, rfl, ⟨t1, rfl⟩, ⟨t2, rfl⟩⟩ := vals2 rv
  refine PySem.W.min_tuple_datum (α := Int) (x := i) (xs := [j]) (I.ok.hd hc) hl (PySem.W.HoldAll.cons (PySem.W.holds_int _ _) (PySem.W.HoldAll.cons (PySem.W.holds_int _ _) PySem.W.HoldAll.nil)) (by show X.A.units + 1 + 0 < cLine; omega) fun k v h' tk hk hv kp => ?_
  have J := I.kept (t' := tk) kp
  have hval : ∀ (n : Int) (t : Tok), v = .int n t → n = PySem.W.minOf i [j] := fun n t e => by
    subst e
    obtain ⟨as, rd⟩ := hv
    cases rd
    rfl
  have em : PySem.W.minOf i [j] = if j < i then j else i := by
    show (if PySem.W.DatumOrd.lt j i = true then j else i) = _
    by_cases c : j < i
    · rw [if_pos c, if_pos (by show decide (j < i) = true; exact decide_eq_true c)]
    · rw [if_neg c, if_neg (by show ¬ decide (j < i) = true; simpa using c)]
  obtain ⟨n, t, rfl⟩ : ∃ n t, v = Value.int n t := by
    match k, hk with
    | 0, hk => exact ⟨i, t1, (Option.some.inj hk).symm⟩
    | 1, hk => exact ⟨j, t2, (Option.some.inj hk).symm⟩
    | k + 2, hk => simp at hk
  have en := hval n t rfl
  rw [em] at en
  exact ⟨.int n, H, J, ⟨t, rfl⟩, by rw [en]; exact q⟩
end L2

namespace L2
open PySem PySem.Spec PyProof.Rows
/-! ### data: lists of ints, pairs of ints, lists of pairs -/
def dInts (xs : List Int) : PyData := .list (xs.map PyData.int)
def dPr (p : Int × Int) : PyData := .tuple [.int p.1, .int p.2]
def dPrs (ps : List (Int × Int)) : PyData := .list (ps.map dPr)
theorem dpa_ints {K : PySem.W.Frag} {H : Hp} : ∀ xs : List Int, DpAll K H (xs.map V.int) (xs.map PyData.int)
  | [] => .nil
  | x :: xs => .cons (.int x) (dpa_ints xs)
theorem dp_ints {K : PySem.W.Frag} {H : Hp} {a : Addr} {xs : List Int} (h : SqL K H a (xs.map V.int)) : Dp K H (.ref a) (dInts xs) := .lst h (dpa_ints xs)
theorem dp_pr {K : PySem.W.Frag} {H : Hp} {t : Addr} {p : Int × Int} (h : SqT K H t [.int p.1, .int p.2]) : Dp K H (.ref t) (dPr p) := .tup h (.cons (.int _) (.cons (.int _) .nil))
theorem dpa_prs {K : PySem.W.Frag} {H : Hp} : ∀ (ts : List Addr) (ps : List (Int × Int)), ts.length = ps.length → (∀ (k : Nat) (t : Addr) (p : Int × Int), ts[k]? = some t → ps[k]? = some p → SqT K H t [.int p.1, .int p.2]) → DpAll K H (ts.map V.ref) (ps.map dPr)
  | [], [], _, _ => .nil
  | t :: ts, p :: ps, hl, h => .cons (dp_pr (h 0 t p rfl rfl)) (dpa_prs ts ps (by simpa using hl) fun k t' p' a b => h (k + 1) t' p' a b)
  | [], _ :: _, hl, _ => by simp at hl
  | _ :: _, [], hl, _ => by simp at hl
theorem ints_lay : ∀ xs : List Int, PyData.canLayAll0 (xs.map PyData.int) = true
  | [] => by simp [PyData.canLayAll0]
  | x :: xs => by simp [PyData.canLayAll0, PyData.canLay0, ints_lay xs]
theorem ints_depth : ∀ xs : List Int, PyData.depthAll (xs.map PyData.int) ≤ 1
  | [] => by simp [PyData.depthAll]
  | x :: xs => by
    have := ints_depth xs
    simp only [List.map_cons, PyData.depthAll, PyData.depth]
    omega
theorem prs_lay : ∀ ps : List (Int × Int), PyData.canLayAll0 (ps.map dPr) = true
  | [] => by simp [PyData.canLayAll0]
  | p :: ps => by simp [PyData.canLayAll0, PyData.canLay0, dPr, prs_lay ps]
theorem pr_depth (p : Int × Int) : (dPr p).depth ≤ 2 := by simp [dPr, PyData.depth, PyData.depthAll]
theorem prs_depth : ∀ ps : List (Int × Int), PyData.depthAll (ps.map dPr) ≤ 2
  | [] => by simp [PyData.depthAll]
  | p :: ps => by
    have h1 := prs_depth ps
    have h2 := pr_depth p
    simp only [List.map_cons, PyData.depthAll]
    omega
theorem shaped_of {d : PyData} (h : d.canLay0 = true) (h2 : d.depth ≤ 64) : SeqAt.shaped d = true := by
  show (d.canLay0 && decide (d.depth ≤ 64)) = true
  rw [h, decide_eq_true h2]
  rfl
theorem ints_shaped (xs : List Int) : SeqAt.shaped (dInts xs) = true := shaped_of (by simp only [dInts, PyData.canLay0]; exact ints_lay xs) (by have := ints_depth xs; simp only [dInts, PyData.depth]; omega)
theorem pr_shaped (p : Int × Int) : SeqAt.shaped (dPr p) = true := shaped_of (by simp [dPr, PyData.canLay0, PyData.canLayAll0]) (by have := pr_depth p; omega)
theorem prs_shaped (ps : List (Int × Int)) : SeqAt.shaped (dPrs ps) = true := shaped_of (by simp only [dPrs, PyData.canLay0]; exact prs_lay ps) (by have := prs_depth ps; simp only [dPrs, PyData.depth]; omega)
theorem ints_eqvA : ∀ xs : List Int, PyData.eqvAll (xs.map PyData.int) (xs.map PyData.int) = true
  | [] => by simp [PyData.eqvAll]
  | x :: xs => by simp [PyData.eqvAll, PyData.eqv, ints_eqvA xs]
theorem ints_eqv (xs : List Int) : PyData.eqv (dInts xs) (dInts xs) = true := by simp only [dInts, PyData.eqv]; exact ints_eqvA xs
theorem pr_eqv (p q : Int × Int) : PyData.eqv (dPr p) (dPr q) = decide (p = q) := by
  obtain ⟨a, b⟩ := p
  obtain ⟨c, d⟩ := q
  have e : PyData.eqv (dPr (a, b)) (dPr (c, d)) = ((a == c) && ((b == d) && true)) := by simp only [dPr, PyData.eqv, PyData.eqvAll]
  rw [e]
  by_cases h1 : a = c
  · by_cases h2 : b = d
    · subst h1 h2
      simp
    · simp [h2]
  · simp [h1]
theorem prs_eqvA : ∀ ps : List (Int × Int), PyData.eqvAll (ps.map dPr) (ps.map dPr) = true
  | [] => by simp [PyData.eqvAll]
  | p :: ps => by
    simp only [List.map_cons, PyData.eqvAll, prs_eqvA ps, pr_eqv]
    simp
theorem prs_eqv (ps : List (Int × Int)) : PyData.eqv (dPrs ps) (dPrs ps) = true := by simp only [dPrs, PyData.eqv]; exact prs_eqvA ps
theorem any_pr (ps : List (Int × Int)) (p : Int × Int) : ((ps.map dPr).any fun z => PyData.eqv z (dPr p)) = decide (p ∈ ps) := by
  induction ps with
  | nil => rfl
  | cons q ps ih =>
    rw [List.map_cons, List.any_cons, ih, pr_eqv]
    by_cases c : q = p
    · subst c; simp
    · simp [c, Ne.symm c]
end L2

/-! # Own layer: defs whose promise is kept where no repr is under way (the law's own call is such a place): repr of lists and tuples -/
namespace L2
open PySem PySem.Spec PyProof.Rows
/-- as FnOk, but for calls with no repr under way -/
structure FnG (P : Program) (w : World) (K : PySem.W.Frag) (mg : Str → Option Value) (base : Heap) (CX : CXT) (k : Nat) (f : Addr) (fd : FuncData) (ps : List Str) (sp : Sp) : Prop where
  many : ∀ vs H Q E, sp vs H Q E → vs.length = ps.length
  go : ∀ (B : Around) (out : List Env) (z : Shared) (H : Hp) (ar : Args) (us : List Value) (vs : List V) (Q : VK) (E : XK), Room k B → B.guards = some [] → Env0 P w K mg base B out z H → BindsTo z fd ar (ps.zip us) →
    Vals vs us → sp vs H Q E → codeAny (model P w) B (.call (.ref f) ar) (CR CX out P w H z Q E) z
theorem FnOk.g {P : Program} {w : World} {K : PySem.W.Frag} {mg : Str → Option Value} {base : Heap} {CX : CXT} {k : Nat} {f : Addr} {fd : FuncData} {ps : List Str} {sp : Sp} (F : FnOk P w K mg base CX k f fd ps sp) : FnG P w K mg base CX k f fd ps sp :=
  ⟨F.len, fun B out z H ar us vs Q E hr _ => F.run B out z H ar us vs Q E hr⟩
section
variable {P : Program} {w : World} {K : PySem.W.Frag} {mg : Str → Option Value} {base : Heap}
theorem fnG_mk {CX : CXT} {k : Nat} {x qual : Str} {st : Stmt} {f : Addr} {fd : FuncData} {N ps : List Str} {sp : Sp} (F : Fun K x qual st f fd) (S : FnScope N ps (defScope st)) (many : ∀ vs H Q E, sp vs H Q E → vs.length = ps.length)
    (body : ∀ (cdv : Value) (B : Around) (out : List Env) (z : Shared) (H : Hp) (vs : List V) (Q : VK) (E : XK), Room k (B.deeper (envOfC qual (defScope st) z.heap.objs.size f cdv)) → B.guards = some [] → sp vs H Q E →
      ∃ t, PSs (cxOf CX P w K mg base N qual (defScope st) f cdv B out z H E) (defBody st) t ∧ t { nx := fun _ H' => Q .non H', rt := Q } (start N vs) H) : FnG P w K mg base CX (k + 1) f fd ps sp := by
  obtain ⟨oc, od, kV, doc, pm, an, cdv, ct, osl, rfl, look, code⟩ := F.ex
  refine ⟨many, fun B out z H ar us vs Q E room hg e0 bind vals prom => ?_⟩
  have nvs := many vs H Q E prom
  have kin : K.In z.heap := e0.mod.kin.keeps fun c o hc => (e0.bs c o hc).1
  have nolim : z.heap.NoLimit := e0.mod.nolimit.keeps fun c o hc => (e0.bs c o hc).1
  refine codeAny_call_function room.depth (kin _ _ look) rfl S.co S.gen rfl (PySem.W.codeRec_of kin code) (bind _ _ _ _ ?_)
  refine wpAny_newFunctionEnv_cells S.kind (fun ⟨n, u⟩ hy => (S.par n (List.of_mem_zip hy).1).imp id fun q => ⟨q, PySem.W.cellsFrom_some _ _ _ (.inl q)⟩) fun env he z1 inside => ?_
  subst he
  refine ⟨nolim.keeps inside.toInCall.keep, codeAny_func ?_⟩
  obtain ⟨t, tree, wish⟩ := body cdv B out z H vs Q E (room.deeper _) hg prom
  have I0 := inv_start (CX := CX) (E := E) (qual := qual) (f := f) (cd := cdv) S room.hd e0 nvs vals inside
  refine wpAny_mono (tree.run [] z1 (start N vs) H _ I0 wish) (fun fl z2 hs => ?_) fun e z2 hs => hs
  match fl, hs with
  | .ret u, ⟨v, _, H2, J, rv, q⟩ => exact ⟨v, H2, J.os, J.bare, J.base, J.hok, rv, q⟩
  | .next, ⟨_, H2, J, q⟩ => exact ⟨V.non, H2, J.os, J.bare, J.base, J.hok, rfl, q⟩
  | .brk, ⟨_, _, _, q⟩ => exact q.elim
  | .cont, ⟨_, _, _, q⟩ => exact q.elim
/-- a def that raises nothing -/
theorem Fun.okG {k : Nat} {x qual : Str} {st : Stmt} {f : Addr} {fd : FuncData} {N ps : List Str} {sp : Sp} (F : Fun K x qual st f fd) (S : FnScope N ps (defScope st)) (many : ∀ vs H Q E, sp vs H Q E → vs.length = ps.length)
    (body : ∀ (cdv : Value) (A : Around) (outer : List Env) (s : Shared) (H : Hp) (vs : List V) (Q : VK) (E : XK), Room k (A.deeper (envOfC qual (defScope st) s.heap.objs.size f cdv)) → A.guards = some [] → sp vs H Q E →
      ∃ t, PSs (cxOf CX0 P w K mg base N qual (defScope st) f cdv A outer s H E).nox (defBody st) t ∧ t { nx := fun _ H' => Q .non H', rt := Q } (start N vs) H) : FnG P w K mg base CX0 (k + 1) f fd ps sp :=
  fnG_mk F S many fun cdv A outer s H vs Q E hr hg hsp => by
    obtain ⟨t, h, q⟩ := body cdv A outer s H vs Q E hr hg hsp
    exact ⟨t, h.nox, q⟩
end
/-- such a def, bundled by its name -/
def FnGB (P : Program) (w : World) (K : PySem.W.Frag) (mg : Str → Option Value) (base : Heap) (CX : CXT) (k : Nat) (x : Str) (ps : List Str) (sp : Sp) : Prop :=
  ∃ (f : Addr) (fd : FuncData), FnG P w K mg base CX k f fd ps sp ∧ mg x = some (.ref f) ∧ PySem.W.keepIn K (.ref f) = true ∧ Binds K fd ps []
section
variable {X : Cx} {CX : CXT} {k : Nat} {ps : List Str} {sp : Sp} {E : XK} {x : Str} {p pos : Pos} {e : Expr} {es : List Expr} {t : TA}
theorem pe_callG (F : FnGB X.prog X.w X.K X.mg X.base CX k x ps sp) (hr : Room k X.A) (hgu : X.A.guards = some []) (hg : Gl X x) (hx : Passes CX X E)
    (ha : PA X (e :: es) t) (hdb : (x == ("__debug__" : Str)) = false := by decide) (he : starEach (e :: es) X.env = (false, eval e X.env) :: starEach es X.env := by rfl) (hpl : (backTo pos (starEach es X.env)).any (·.1) = false := by rfl) :
    PE X (.Call (.Name x p) (e :: es) [] pos) (tCall sp [] E t) := by
  obtain ⟨f, fd, F, hm, hk, hb⟩ := F
  refine ⟨fun pins s σ H Q I h => wpAny_Call_Name_kw (ld_glob I hg hm ?_ hdb)⟩
  refine PySem.W.callWith_K (h₀ := X.base) I.ok.mod.kin hk (thn (ha.run pos pins s σ H _ I h) fun us s1 hh => ?_) he hpl
  obtain ⟨vs, H1, J, r, q⟩ := hh
  rw [List.append_nil] at q
  refine ⟨J.kIn, wpAny_call (codeAny_mono (F.go X.A X.stack s1 H1 ⟨us, []⟩ us vs Q E hr hgu J.env0 ?_ r q) fun res s2 done => ?_)⟩
  · have := hb s1 us J.kIn (by rw [List.append_nil, ← r.length]; exact F.many _ _ _ _ q)
    rwa [List.append_nil] at this
  · match res, done with
    | .error e, h => exact hx pins σ H1 s1 e s2 J h
    | .ok (.ret u), h => exact J.after h
/-- repr(x), x a list or a tuple of data -/
def rReprD (K : PySem.W.Frag) : List V → Hp → VK → Prop := fun xs H Q => ∃ (a : Addr) (d : PyData), xs = [.ref a] ∧ Dp K H (.ref a) d ∧ SeqAt.shaped d = true ∧ d.showable = true ∧ d.shown.length ≤ sizeLine ∧ Q (.str d.shown) H
theorem cr_reprD (hgu : X.A.guards = some []) (hu : X.A.units + 66 < cLine) : CallR X (.builtin "repr") (rReprD X.K) := by
  intro pins s σ H xs us Q I r h
  obtain ⟨a, d, rfl, hd, sd, hs, hz, q⟩ := h
  match us, r with
  | [u], .cons (rx : u = Value.ref a) .nil =>
    subst rx
    obtain ⟨as, rd⟩ := Dp.reads I d (.ref a) (.ref a) hd rfl
    have dep := SeqAt.depth_of_shaped sd
    refine repr_of_reads' rd hs (PyData.noDict_hsm (PyData.hasDict_of_canLay d (SeqAt.canLay_of_shaped sd))) hgu (by omega) (fun _ _ z => z) (fun h' u tk kp => ?_) hz
    exact ⟨.str d.shown, H, I.kept kp, ⟨u, rfl⟩, q⟩
end

/-- the head: the law's def called with the script, no repr under way -/
theorem law_callG {P : Program} {w : World} {K : PySem.W.Frag} {mg mb : Str → Option Value} {k : Nat} {fa a : Addr} {fd : FuncData} {x : Str} {sp : Sp} {z : Shared} {us : List Value} {ns : List Int}
    (kin : K.In z.heap) (glob : z.heap.Ns mainGlobals mg) (blt : z.heap.Ns builtinsNs mb) (bbb : ∀ x : Str, x ≠ "__name__" → mb x = bootBuiltins x) (nolim : z.heap.NoLimit) (gens : z.gens = #[])
    (obj : z.heap.get? a = some { cls := .type "list", data := .seq us.toArray }) (inty : IntsAre us ns) (short : ns.length ≤ sizeLine) (room : Room k callerA)
    (F : ∀ base : Heap, K.In base → base.Ns mainGlobals mg → FnG P w K mg base CX0 k fa fd [x] sp) (bind : ∀ (s : Shared) (u : Value), BindsTo s fd ⟨[u], []⟩ [(x, u)])
    (prom : ∀ H : Hp, Only H → SqL K H a (ns.map V.int) → sp [.ref a] H (fun v _ => v = .bl true) fun _ _ _ => False) :
    codeAny (model P w) callerA (.call (.ref fa) ⟨[.ref a], []⟩) (fun r s' => r = .ok (.ret (.bool true)) ∧ OldK z.heap s'.heap ∧ s'.os = z.os ∧ AllBare s'.gens) z := by
  have vals := vals_ints inty
  -- what is tracked: the script, if the written part does not hold it
  obtain ⟨H, only, sq, hok, just, out⟩ : ∃ H : Hp, Only H ∧ SqL K H a (ns.map V.int) ∧ HOk P w H z.heap ∧ (∀ b o, H b = some o → b = a) ∧ (∀ o, H a = some o → K.lookup a = none) := by
    cases hk : K.lookup a with
    | some o =>
      have e := kin a o hk
      rw [obj] at e
      cases e
      exact ⟨fun _ => none, fun _ => .inl rfl, .inr ⟨_, us.toArray, _, hk, rfl, rfl, rfl, by rw [List.size_toArray, inty.length]; exact short, vals⟩, (fun b u hb => nomatch (show (none : Option HO) = some u from hb)), (fun b o hb => nomatch (show (none : Option HO) = some o from hb)), (fun o hb => nomatch (show (none : Option HO) = some o from hb))⟩
    | none =>
      have it : ∀ {b : Addr} {o : HO}, (if b = a then some (HO.frz { cls := .type "list", data := .seq us.toArray } (.lst (ns.map V.int))) else none) = some o → b = a ∧ o = HO.frz { cls := .type "list", data := .seq us.toArray } (.lst (ns.map V.int)) := fun {b o} hb => by
        by_cases c : b = a
        · rw [if_pos c] at hb
          exact ⟨c, (Option.some.inj hb).symm⟩
        · rw [if_neg c] at hb
          cases hb
      refine ⟨fun b => if b = a then some (.frz { cls := .type "list", data := .seq us.toArray } (.lst (ns.map V.int))) else none, fun b => ?_, .inl (.inr ⟨_, if_pos rfl⟩), fun b u hb => ?_, fun b o hb => (it hb).1, fun _ _ => rfl⟩
      · by_cases c : b = a
        · exact .inr ⟨_, _, if_pos c⟩
        · exact .inl (if_neg c)
      · obtain ⟨rfl, rfl⟩ := it hb
        exact ⟨obj, by rw [List.length_map]; exact short, us, _, vals, obj⟩
  have stays : ∀ {b : Addr} {o : Obj}, z.heap.get? b = some o → H b = none → (hidT z.heap H).get? b = some o := fun e n => hidT_get e n
  have kin2 : K.In (hidT z.heap H) := fun b o e => stays (kin b o e) (by
    cases q : H b with
    | none => rfl
    | some u =>
      have eb := just b u q
      subst eb
      rw [out u q] at e
      cases e)
  have ns2 : ∀ {b : Addr} {m : Str → Option Value}, z.heap.Ns b m → (hidT z.heap H).Ns b m := fun {b m} hn => by
    obtain ⟨o, es, ep, e, d, r⟩ := hn
    refine ⟨o, es, ep, stays e ?_, d, r⟩
    cases q : H b with
    | none => rfl
    | some u =>
      have eb := just b u q
      subst eb
      rw [obj] at e
      cases e
      have d2 : Data.seq us.toArray _ = Data.dict es ep := d
      cases d2
  obtain ⟨mc, l1, l2⟩ := nolim
  have e0 : Env0 P w K mg (hidT z.heap H) callerA [] z H :=
    { frames := rfl, mod := ⟨kin2, ns2 glob, ⟨mb, ns2 blt, bbb⟩, ⟨mc, ns2 l1, l2⟩⟩, bs := fun b o e => of_hidT e, bsz := Nat.le_of_eq (hidT_size _ _), funs := trivial, frf := fun b hb => (List.not_mem_nil hb).elim, hok := hok, bare := .of_eq gens }
  refine codeAny_mono ((F _ kin2 (ns2 glob)).go callerA [] z H ⟨[.ref a], []⟩ [.ref a] [.ref a] _ _ room rfl e0 (bind z (.ref a)) (.cons rfl .nil) (prom H only sq)) fun res s' done => ?_
  match res, done with
  | .error e, h => exact h.elim
  | .ok (.ret u), ⟨v, H', os, bare, un, hok', rv, q⟩ =>
    obtain rfl : v = .bl true := q
    obtain rfl : u = Value.bool true := rv
    refine ⟨rfl, OldK.of_keep fun b o e => ?_, os, bare⟩
    cases q : H b with
    | none => exact un.keep b o e q (fun h => (List.not_mem_nil h).elim) (fun h => (List.not_mem_nil h).elim)
    | some u =>
      rcases only b with n | ⟨ob, xs, n⟩
      · rw [q] at n
        cases n
      · obtain ⟨e1, _⟩ := hok b _ n
        rw [e] at e1
        cases e1
        obtain ⟨e2, _⟩ := hok' b _ (un.frzs b o _ n)
        exact e2
theorem walk_ofG {l : PySem.W.OpenLaw} {n k : Nat} {q : Program} {loose : List Str} {XP : (Str → Option Value) → Heap → Prop} {YP : World → Heap → Prop} {d : DefRec} {K : Params → PySem.W.Frag} {sp : PySem.W.Frag → Sp} {x : Str}
    (most : l.most = some n) (short : n ≤ sizeLine) (dfl : d.params.defaults = []) (room : Room k callerA) (kin : ∀ (w : World) (h : Heap), YP w h → (K w.params).In h)
    (F : ∀ (w : World) (mg : Str → Option Value) (fa : Addr) (h : Heap), (K w.params).In h → h.Ns mainGlobals mg → mg d.name = some (.ref fa) →
      ∃ fd : FuncData, (∀ (s : Shared) (u : Value), BindsTo s fd ⟨[u], []⟩ [(x, u)]) ∧ ∀ base : Heap, (K w.params).In base → base.Ns mainGlobals mg → FnG l.prog w (K w.params) mg base CX0 k fa fd [x] (sp (K w.params)))
    (prom : ∀ (K : PySem.W.Frag) (H : Hp) (a : Addr) (ns : List Int), ns.length ≤ n → SqL K H a (ns.map V.int) → sp K [.ref a] H (fun v _ => v = .bl true) fun _ _ _ => False) :
    PySem.W.WalkO q loose XP YP l.row.toRowW d [] (fun f vs => PySem.call f vs) := by
  refine Att.attach_call most dfl fun w s0 s1 mg mb fa o pm cd doc a vs ns G Y ho hd hcd hmg hobj hints hlen hg => ?_
  obtain ⟨fd, bind, hF⟩ := F w mg fa _ (kin w _ Y) G.T.g hmg
  exact law_callG (kin w _ Y) G.T.g G.T.b G.T.builtins G.T.nolimit hg hobj hints (Nat.le_trans hlen short) room hF bind fun H _ hS => prom _ H a ns hlen hS
end L2

/-! # Lines of words: what a split by line feeds and spaces tells, and what one look through the signs tells. Plain Lean -/
namespace Lns
/-- split at the sign c, acc the part under way -/
def spA (c : Nat) : List Nat → List Nat → List (List Nat)
  | acc, [] => [acc]
  | acc, a :: r => if a = c then acc :: spA c [] r else spA c (acc ++ [a]) r
def okS (a : Nat) : Bool := decide (33 ≤ a) && decide (a ≤ 126)
def okW (w : List Nat) : Bool := (!w.isEmpty) && w.all okS
def wordsOf (l : List Nat) : Option (List (List Nat)) := if (spA 32 [] l).all okW = true then some (spA 32 [] l) else none
abbrev Rows := List (List (List Nat))
def goP : List (List Nat) → Rows → Nat × Rows
  | [], rows => (0, rows)
  | [l], rows => (if l = [] then 0 else rows.length + 1, rows)
  | l :: m :: ls, rows => match wordsOf l with
    | none => (rows.length + 1, rows)
    | some ws => goP (m :: ls) (rows ++ [ws])
def prog (t : List Nat) : Nat × Rows := goP (spA 10 [] t) []
def scan : List Nat → Rows → List (List Nat) → List Nat → Bool → Nat × Rows
  | [], rows, _, _, st => (if st = true then rows.length + 1 else 0, rows)
  | a :: r, rows, ws, w, _ =>
    if a = 32 ∨ a = 10 then
      if w = [] then (rows.length + 1, rows)
      else if a = 10 then scan r (rows ++ [ws ++ [w]]) [] [] false else scan r rows (ws ++ [w]) [] true
    else if okS a = true then scan r rows ws (w ++ [a]) true else (rows.length + 1, rows)
theorem spA_hit (c : Nat) (acc r : List Nat) : spA c acc (c :: r) = acc :: spA c [] r := by rw [spA, if_pos rfl]
theorem spA_miss {c a : Nat} (acc r : List Nat) (h : a ≠ c) : spA c acc (a :: r) = spA c (acc ++ [a]) r := by rw [spA, if_neg h]
theorem spA_ne (c : Nat) : ∀ (l acc : List Nat), spA c acc l ≠ []
  | [], acc => by simp [spA]
  | a :: r, acc => by
    by_cases h : a = c
    · rw [h, spA_hit]
      simp
    · rw [spA_miss _ _ h]
      exact spA_ne c r _
theorem spA_app (c : Nat) : ∀ (p acc s : List Nat) (ws : List (List Nat)) (w : List Nat), spA c acc p = ws ++ [w] → spA c acc (p ++ s) = ws ++ spA c w s
  | [], acc, s, ws, w, h => by
    have h' : [acc] = ws ++ [w] := h
    cases ws with
    | nil =>
      have e : acc = w := by simpa using h'
      rw [e]
      rfl
    | cons x xs => simp at h'
  | a :: p, acc, s, ws, w, h => by
    rw [List.cons_append]
    by_cases e : a = c
    · rw [e, spA_hit] at h
      rw [e, spA_hit]
      cases ws with
      | nil =>
        have e2 : acc = w ∧ spA c [] p = [] := by simpa using h
        exact absurd e2.2 (spA_ne c p [])
      | cons x xs =>
        have e2 : acc = x ∧ spA c [] p = xs ++ [w] := by simpa using h
        rw [spA_app c p [] s xs w e2.2, e2.1]
        rfl
    · rw [spA_miss _ _ e] at h
      rw [spA_miss _ _ e]
      exact spA_app c p _ s ws w h
theorem spA_head (c : Nat) : ∀ (s acc : List Nat), ∃ t r, spA c acc s = (acc ++ t) :: r
  | [], acc => ⟨[], [], by simp [spA]⟩
  | a :: s, acc => by
    by_cases e : a = c
    · exact ⟨[], spA c [] s, by rw [e, spA_hit]; simp⟩
    · obtain ⟨t, r, h⟩ := spA_head c s (acc ++ [a])
      exact ⟨a :: t, r, by rw [spA_miss _ _ e, h]; simp⟩
/-- no text that begins so is a line of words -/
def Bad (q : List Nat) : Prop := ∀ s, (spA 32 [] (q ++ s)).all okW = false
theorem Bad.more {q : List Nat} (h : Bad q) (a : Nat) : Bad (q ++ [a]) := fun s => by
  rw [List.append_assoc]
  exact h _
theorem goP_bad : ∀ (r q : List Nat) (rows : Rows), Bad q → q ≠ [] → goP (spA 10 q r) rows = (rows.length + 1, rows)
  | [], q, rows, _, hq => by
    show goP [q] rows = _
    unfold goP
    rw [if_neg hq]
  | a :: r, q, rows, hb, hq => by
    by_cases c : a = 10
    · rw [c, spA_hit]
      cases hr : spA 10 [] r with
      | nil => exact absurd hr (spA_ne 10 r [])
      | cons m ls =>
        have e : wordsOf q = none := by
          unfold wordsOf
          have := hb []
          rw [List.append_nil] at this
          rw [this]
          rfl
        show goP (q :: m :: ls) rows = _
        unfold goP
        rw [e]
    · rw [spA_miss _ _ c]
      exact goP_bad r _ rows (hb.more a) (by simp)
theorem scan_go : ∀ (t : List Nat) (rows : Rows) (ws : List (List Nat)) (w : List Nat) (p : List Nat), spA 32 [] p = ws ++ [w] → ws.all okW = true → w.all okS = true →
    scan t rows ws w (!p.isEmpty) = goP (spA 10 p t) rows
  | [], rows, ws, w, p, h, h1, h2 => by
    show (if (!p.isEmpty) = true then rows.length + 1 else 0, rows) = goP [p] rows
    unfold goP
    cases p with
    | nil => rfl
    | cons a p => rfl
  | a :: r, rows, ws, w, p, h, h1, h2 => by
    have badw : a = 32 ∨ a = 10 → w = [] → a ≠ 10 → Bad (p ++ [a]) := fun c hw ne s => by
      have a32 : a = 32 := by omega
      rw [List.append_assoc, spA_app 32 p [] _ ws w h, hw, a32]
      show (ws ++ spA 32 [] (32 :: s)).all okW = false
      rw [spA_hit, List.all_append, List.all_cons]
      have : okW [] = false := rfl
      rw [this, Bool.false_and, Bool.and_false]
    unfold scan
    by_cases c : a = 32 ∨ a = 10
    · rw [if_pos c]
      by_cases hw : w = []
      · rw [if_pos hw]
        by_cases c10 : a = 10
        · rw [c10, spA_hit]
          cases hr : spA 10 [] r with
          | nil => exact absurd hr (spA_ne 10 r [])
          | cons m ls =>
            have e : wordsOf p = none := by
              unfold wordsOf
              rw [h, List.all_append, hw]
              have : [([] : List Nat)].all okW = false := rfl
              rw [this, Bool.and_false]
              rfl
            unfold goP
            rw [e]
        · rw [spA_miss _ _ c10]
          exact (goP_bad r _ rows (badw c hw c10) (by simp)).symm
      · rw [if_neg hw]
        have hwW : okW w = true := by
          unfold okW
          rw [h2]
          cases w with
          | nil => exact absurd rfl hw
          | cons x y => rfl
        by_cases c10 : a = 10
        · rw [if_pos c10, c10, spA_hit]
          cases hr : spA 10 [] r with
          | nil => exact absurd hr (spA_ne 10 r [])
          | cons m ls =>
            have e : wordsOf p = some (ws ++ [w]) := by
              unfold wordsOf
              rw [h, List.all_append, h1, List.all_cons, hwW]
              rfl
            have ih := scan_go r (rows ++ [ws ++ [w]]) [] [] [] rfl rfl rfl
            rw [hr] at ih
            unfold goP
            rw [e]
            exact ih
        · have a32 : a = 32 := by omega
          rw [if_neg c10, spA_miss _ _ c10]
          have ih := scan_go r rows (ws ++ [w]) [] (p ++ [a]) (by
            rw [spA_app 32 p [] _ ws w h, a32]
            show ws ++ spA 32 w [32] = _
            rw [spA_hit]
            simp [spA]) (by rw [List.all_append, h1, List.all_cons, hwW]; rfl) rfl
          rw [← ih]
          congr 1
          cases p <;> rfl
    · have n10 : a ≠ 10 := fun e => c (.inr e)
      have n32 : a ≠ 32 := fun e => c (.inl e)
      rw [if_neg c, spA_miss _ _ n10]
      by_cases ok : okS a = true
      · rw [if_pos ok]
        have ih := scan_go r rows ws (w ++ [a]) (p ++ [a]) (by
          rw [spA_app 32 p [] _ ws w h, spA_miss _ _ n32]
          rfl) h1 (by rw [List.all_append, h2, List.all_cons, ok]; rfl)
        rw [← ih]
        congr 1
        cases p <;> rfl
      · rw [if_neg ok]
        refine (goP_bad r _ rows (fun s => ?_) (by simp)).symm
        rw [List.append_assoc, spA_app 32 p [] _ ws w h]
        show (ws ++ spA 32 w (a :: s)).all okW = false
        rw [spA_miss _ _ n32]
        obtain ⟨t, r2, e⟩ := spA_head 32 s (w ++ [a])
        rw [e, List.all_append, List.all_cons]
        have : okW (w ++ [a] ++ t) = false := by
          unfold okW
          rw [List.all_append, List.all_append, List.all_cons]
          have : okS a = false := by simpa using ok
          rw [this]
          simp
        rw [this, Bool.false_and, Bool.and_false]
theorem scan_prog (t : List Nat) : scan t [] [] [] false = prog t := scan_go t [] [] [] [] rfl rfl rfl
/-- what the words of the rows weigh -/
def wsum (ws : List (List Nat)) : Nat := (ws.map fun w => w.length + 1).sum
def rsum (rows : Rows) : Nat := (rows.map fun ws => wsum ws + 1).sum
theorem wsum_snoc (ws : List (List Nat)) (w : List Nat) : wsum (ws ++ [w]) = wsum ws + w.length + 1 := by
  simp [wsum, Nat.add_assoc]
theorem rsum_snoc (rows : Rows) (ws : List (List Nat)) : rsum (rows ++ [ws]) = rsum rows + wsum ws + 1 := by
  simp [rsum, Nat.add_assoc]
theorem scan_sum : ∀ (t : List Nat) (rows : Rows) (ws : List (List Nat)) (w : List Nat) (st : Bool), rsum (scan t rows ws w st).2 ≤ rsum rows + 2 * (wsum ws + w.length + t.length)
  | [], rows, ws, w, st => by
    show rsum rows ≤ _
    omega
  | a :: r, rows, ws, w, st => by
    unfold scan
    by_cases c : a = 32 ∨ a = 10
    · rw [if_pos c]
      by_cases hw : w = []
      · rw [if_pos hw]
        show rsum rows ≤ _
        omega
      · rw [if_neg hw]
        by_cases c10 : a = 10
        · rw [if_pos c10]
          have ih := scan_sum r (rows ++ [ws ++ [w]]) [] [] false
          rw [rsum_snoc, wsum_snoc] at ih
          have e : wsum [] = 0 := rfl
          rw [e] at ih
          simp only [List.length_nil, List.length_cons] at ih ⊢
          omega
        · rw [if_neg c10]
          have ih := scan_sum r rows (ws ++ [w]) [] true
          rw [wsum_snoc] at ih
          simp only [List.length_nil, List.length_cons] at ih ⊢
          omega
    · rw [if_neg c]
      by_cases ok : okS a = true
      · rw [if_pos ok]
        have ih := scan_sum r rows ws (w ++ [a]) true
        rw [List.length_append, List.length_singleton] at ih
        simp only [List.length_cons] at ih ⊢
        omega
      · rw [if_neg ok]
        show rsum rows ≤ _
        omega
def okR (rows : Rows) : Prop := ∀ ws ∈ rows, ∀ w ∈ ws, ∀ c ∈ w, c < 128
theorem ok_lt {a : Nat} (h : okS a = true) : a < 128 := by
  unfold okS at h
  simp at h
  omega
theorem scan_okR : ∀ (t : List Nat) (rows : Rows) (ws : List (List Nat)) (w : List Nat) (st : Bool), okR rows → (∀ v ∈ ws, ∀ c ∈ v, c < 128) → (∀ c ∈ w, c < 128) → okR (scan t rows ws w st).2
  | [], rows, ws, w, st, h, _, _ => h
  | a :: r, rows, ws, w, st, h, h1, h2 => by
    have h3 : ∀ v ∈ ws ++ [w], ∀ c ∈ v, c < 128 := fun v hv => by
      rcases List.mem_append.mp hv with z | z
      · exact h1 v z
      · have : v = w := by simpa using z
        rw [this]
        exact h2
    unfold scan
    by_cases c : a = 32 ∨ a = 10
    · rw [if_pos c]
      by_cases hw : w = []
      · rw [if_pos hw]
        exact h
      · rw [if_neg hw]
        by_cases c10 : a = 10
        · rw [if_pos c10]
          refine scan_okR r _ [] [] false (fun v hv => ?_) (fun v hv => by simp at hv) (fun c hc => by simp at hc)
          rcases List.mem_append.mp hv with z | z
          · exact h v z
          · have : v = ws ++ [w] := by simpa using z
            rw [this]
            exact h3
        · rw [if_neg c10]
          exact scan_okR r rows _ [] true h h3 (fun c hc => by simp at hc)
    · rw [if_neg c]
      by_cases ok : okS a = true
      · rw [if_pos ok]
        refine scan_okR r rows ws _ true h h1 fun c hc => ?_
        rcases List.mem_append.mp hc with z | z
        · exact h2 c z
        · have : c = a := by simpa using z
          rw [this]
          exact ok_lt ok
      · rw [if_neg ok]
        exact h
theorem prog_sum (t : List Nat) : rsum (prog t).2 ≤ 2 * t.length := by
  rw [← scan_prog]
  have := scan_sum t [] [] [] false
  have e1 : rsum [] = 0 := rfl
  have e2 : wsum [] = 0 := rfl
  rw [e1, e2] at this
  simp at this
  omega
theorem prog_ok (t : List Nat) : okR (prog t).2 := by
  rw [← scan_prog]
  exact scan_okR t [] [] [] false (fun v hv => by simp at hv) (fun v hv => by simp at hv) (fun c hc => by simp at hc)
theorem spA_len (c : Nat) : ∀ (l acc : List Nat), (spA c acc l).length ≤ l.length + 1
  | [], acc => by simp [spA]
  | a :: r, acc => by
    by_cases h : a = c
    · rw [h, spA_hit]
      have := spA_len c r []
      simp only [List.length_cons]
      omega
    · rw [spA_miss _ _ h]
      have := spA_len c r (acc ++ [a])
      simp only [List.length_cons]
      omega
theorem spA_mem (c : Nat) : ∀ (l acc : List Nat), ∀ w ∈ spA c acc l, w.length ≤ acc.length + l.length
  | [], acc, w, h => by
    have : w = acc := by simpa [spA] using h
    rw [this]
    simp
  | a :: r, acc, w, h => by
    by_cases e : a = c
    · rw [e, spA_hit] at h
      rcases List.mem_cons.mp h with z | z
      · rw [z]
        omega
      · have := spA_mem c r [] w z
        simp only [List.length_nil, List.length_cons] at this ⊢
        omega
    · rw [spA_miss _ _ e] at h
      have := spA_mem c r (acc ++ [a]) w h
      simp only [List.length_append, List.length_singleton, List.length_cons, List.length_nil] at this ⊢
      omega
theorem goP_step {L : List (List Nat)} {i : Nat} {rows : Rows} (h : i + 1 < L.length) : goP (L.drop i) rows = match wordsOf (L.getD i []) with
    | none => (rows.length + 1, rows)
    | some ws => goP (L.drop (i + 1)) (rows ++ [ws]) := by
  rw [List.drop_eq_getElem_cons (show i < L.length by omega), List.drop_eq_getElem_cons h]
  have e : L.getD i [] = L[i]'(by omega) := by rw [List.getD_eq_getElem?_getD, List.getElem?_eq_getElem (by omega)]; rfl
  rw [e]
  rfl
theorem goP_last {L : List (List Nat)} {i : Nat} {rows : Rows} (h : i + 1 = L.length) : goP (L.drop i) rows = (if L.getD i [] = [] then 0 else rows.length + 1, rows) := by
  rw [List.drop_eq_getElem_cons (show i < L.length by omega), h, List.drop_length]
  have e : L.getD i [] = L[i]'(by omega) := by rw [List.getD_eq_getElem?_getD, List.getElem?_eq_getElem (by omega)]; rfl
  rw [e]
  rfl
theorem scan_nil (rows : Rows) (ws : List (List Nat)) (w : List Nat) (st : Bool) : scan [] rows ws w st = (if st = true then rows.length + 1 else 0, rows) := rfl
theorem scan_cons (a : Nat) (r : List Nat) (rows : Rows) (ws : List (List Nat)) (w : List Nat) (st : Bool) : scan (a :: r) rows ws w st = if a = 32 ∨ a = 10 then
      if w = [] then (rows.length + 1, rows)
      else if a = 10 then scan r (rows ++ [ws ++ [w]]) [] [] false else scan r rows (ws ++ [w]) [] true
    else if okS a = true then scan r rows ws (w ++ [a]) true else (rows.length + 1, rows) := rfl
theorem rows_sum (rows : Rows) : rows.length ≤ rsum rows := by
  induction rows with
  | nil => exact Nat.le_refl _
  | cons v rows ih =>
    unfold rsum at ih ⊢
    simp only [List.map_cons, List.sum_cons, List.length_cons]
    omega
theorem scan_fst : ∀ (t : List Nat) (rows : Rows) (ws : List (List Nat)) (w : List Nat) (st : Bool), (scan t rows ws w st).1 ≤ (scan t rows ws w st).2.length + 1
  | [], rows, ws, w, st => by
    rw [scan_nil]
    show (if st = true then rows.length + 1 else 0) ≤ rows.length + 1
    split <;> omega
  | a :: r, rows, ws, w, st => by
    rw [scan_cons]
    split
    · split
      · exact Nat.le_refl _
      · split
        · exact scan_fst r _ _ _ _
        · exact scan_fst r _ _ _ _
    · split
      · exact scan_fst r _ _ _ _
      · exact Nat.le_refl _
theorem prog_le (t : List Nat) : (prog t).1 ≤ 2 * t.length + 1 := by
  have h1 := prog_sum t
  have h2 := rows_sum (prog t).2
  have h3 : (prog t).1 ≤ (prog t).2.length + 1 := by
    rw [← scan_prog]
    exact scan_fst t [] [] [] false
  omega
end Lns

/-! # Own layer: texts by their signs (lists of numbers) -/
namespace L2
open PySem PySem.Spec PyProof.Rows TL
def mk (l : List Nat) : Str := ⟨l.toArray⟩
abbrev vS (l : List Nat) : V := .str (mk l)
theorem tlm (l : List Nat) : tl (mk l) = l := rfl
theorem mkt (x : Str) : mk (tl x) = x := mk_tl x
theorem mk_inj {a b : List Nat} (h : mk a = mk b) : a = b := by
  have := congrArg tl h
  exact this
theorem mk_len (l : List Nat) : (mk l).length = l.length := by rw [len_tl]; rfl
theorem mk_app (a b : List Nat) : mk a ++ mk b = mk (a ++ b) := ext_tl (by rw [tl_append]; rfl)
theorem mk_lit (s : String) : Str.ofString s = mk (s.toList.map Char.toNat) := ext_tl (tl_ofString s)
theorem str_if {a b : List Nat} {A B : Prop} (h1 : a = b → A) (h2 : a ≠ b → B) : if decide (V.str (mk a) = V.str (mk b)) = true then A else B :=
  dec_iff (fun h => h1 (mk_inj (V.str.inj h))) fun h => h2 fun e => h (by rw [e])
theorem strn_if {a b : List Nat} {A B : Prop} (h1 : a ≠ b → A) (h2 : a = b → B) : if (!decide (V.str (mk a) = V.str (mk b))) = true then A else B :=
  not_if (fun h => h1 fun e => h (by rw [e])) fun h => h2 (mk_inj (V.str.inj h))
theorem lt1 (a b : Nat) : (([a] : List Nat) < [b]) ↔ a < b := by
  rw [List.cons_lt_cons_iff]
  simp
/-- a for over a text -/
theorem for_sgn {l : List Nat} {g : TG} {tb : TS} {D : Ends} {σ : L2.St} {H : Hp} (Pv : Nat → L2.St → Hp → Prop) (h0 : Pv 0 σ H)
    (hs : ∀ i c σ H, l[i]? = some c → Pv i σ H → g (.str (mk [c])) σ H fun σ2 H2 => tb { D with nx := Pv (i + 1), ct := Pv (i + 1), bk := D.nx } σ2 H2) (hd : ∀ σ H, Pv l.length σ H → D.nx σ H) :
    ∃ W : Nat → Nat → L2.St → Hp → Prop, (∃ m, W 0 m σ H) ∧ ∀ i m σ H, W i m σ H →
      ((Its (mk l)).stop i H ∧ D.nx σ H) ∨ ((Its (mk l)).go i H ∧ ∃ N : L2.St → Hp → Prop, (∀ σ' H', N σ' H' → ∃ m', m' < m ∧ W (i + 1) m' σ' H') ∧ ∀ x H', (Its (mk l)).yld i H x H' → g x σ H' fun σ2 H2 => tb { D with nx := N, ct := N, bk := D.nx } σ2 H2) := by
  have hz : (mk l).cps.size = l.length := by show l.toArray.size = _; simp
  refine for_it walk_str Pv h0 (fun _ _ _ _ _ => trivial) (fun i x σ H H' hi p y => ?_) (fun σ H p => hd σ H (by rw [← hz]; exact p))
  obtain ⟨rfl, c, hc, rfl⟩ := y
  exact hs i c σ _ (by have : l.toArray[i]? = some c := hc; simpa using this) p
theorem split_spA (x y : Str) (c : Nat) (hy : tl y = [c]) (hc : c < 256) : Txt.split x y = (Lns.spA c [] (tl x)).map mk := by
  have key : ∀ (l acc : List Nat), spl [c] 0 acc l = Lns.spA c acc l := by
    intro l
    induction l with
    | nil => intro acc; rw [spl_nil]; rfl
    | cons a r ih =>
      intro acc
      by_cases h : a = c
      · rw [h, Lns.spA_hit, spl_hit (by simp [pre])]
        exact congrArg (acc :: ·) (ih [])
      · rw [Lns.spA_miss _ _ h, spl_miss (by simp [pre, h])]
        exact ih _
  have hk : y.cps.all (· < 256) = true := by
    rw [← Array.all_toList]
    have : y.cps.toList = [c] := hy
    rw [this]
    simp [hc]
  have e := split_spl x y (by rw [hy]; simp) (kind_ok hk)
  rw [hy, key] at e
  rw [← e, List.map_map]
  have : (mk ∘ tl) = id := funext fun z => mkt z
  rw [this, List.map_id]
/-- short and of plain signs -/
def Tx (n : Nat) (l : List Nat) : Prop := l.length ≤ n ∧ ∀ c ∈ l, c < 128
theorem Tx.more {n m : Nat} {l : List Nat} (h : Tx n l) (le : n ≤ m) : Tx m l := ⟨Nat.le_trans h.1 le, h.2⟩
theorem Tx.app {n m : Nat} {a b : List Nat} (h : Tx n a) (g : Tx m b) : Tx (n + m) (a ++ b) :=
  ⟨by rw [List.length_append]; exact Nat.add_le_add h.1 g.1, fun c hc => by rcases List.mem_append.mp hc with z | z; exact h.2 c z; exact g.2 c z⟩
theorem Tx.nil : Tx 0 [] := ⟨Nat.le_refl _, fun c h => by simp at h⟩
/-- a slice of a text -/
theorem cut_mk (l : List Nat) (lo hi : Option Int) : ∃ l', cutS (mk l) lo hi = mk l' ∧ l'.length ≤ l.length ∧ ∀ c ∈ l', c ∈ l := by
  refine ⟨(l.drop (HT.sIx (mk l).length 0 lo)).take (HT.sIx (mk l).length (mk l).length hi - HT.sIx (mk l).length 0 lo), rfl, ?_, fun c hc => List.mem_of_mem_drop (List.mem_of_mem_take hc)⟩
  rw [List.length_take, List.length_drop]
  omega
theorem Tx.cut {n : Nat} {l l' : List Nat} (h : Tx n l) (hl : l'.length ≤ l.length) (hm : ∀ c ∈ l', c ∈ l) : Tx n l' := ⟨Nat.le_trans hl h.1, fun c hc => h.2 c (hm c hc)⟩

/-! ### rows of words as data -/
def dS (l : List Nat) : PyData := .str (mk l)
def dRow (ws : List (List Nat)) : PyData := .list (ws.map dS)
def dRows (rows : List (List (List Nat))) : PyData := .list (rows.map dRow)
theorem dpa_words {K : PySem.W.Frag} {H : Hp} : ∀ ws : List (List Nat), DpAll K H (ws.map vS) (ws.map dS)
  | [] => .nil
  | w :: ws => .cons (.str _) (dpa_words ws)
/-- at p: the list of these rows -/
def RowsAt (H : Hp) (p : Addr) (rows : List (List (List Nat))) : Prop :=
  ∃ rs : List Addr, H p = some (.lst (rs.map V.ref)) ∧ rs.length = rows.length ∧ ∀ (k : Nat) (r : Addr) (ws : List (List Nat)), rs[k]? = some r → rows[k]? = some ws → H r = some (.lst (ws.map vS))
theorem dpa_rows {K : PySem.W.Frag} {H : Hp} : ∀ (rs : List Addr) (rows : List (List (List Nat))), rs.length = rows.length → (∀ (k : Nat) (r : Addr) (ws : List (List Nat)), rs[k]? = some r → rows[k]? = some ws → H r = some (.lst (ws.map vS))) → DpAll K H (rs.map V.ref) (rows.map dRow)
  | [], [], _, _ => .nil
  | r :: rs, ws :: rows, hl, h => .cons (.lst (SqL.of (h 0 r ws rfl rfl)) (dpa_words ws)) (dpa_rows rs rows (by simpa using hl) fun k r' ws' a b => h (k + 1) r' ws' a b)
  | [], _ :: _, hl, _ => by simp at hl
  | _ :: _, [], hl, _ => by simp at hl
theorem dp_rows {K : PySem.W.Frag} {H : Hp} {p : Addr} {rows : List (List (List Nat))} (h : RowsAt H p rows) : Dp K H (.ref p) (dRows rows) := by
  obtain ⟨rs, h1, h2, h3⟩ := h
  exact .lst (SqL.of h1) (dpa_rows rs rows h2 h3)
theorem RowsAt.fr {H H' : Hp} {p : Addr} {rows : List (List (List Nat))} (h : RowsAt H p rows) (e : Fr [] H H') : RowsAt H' p rows := by
  obtain ⟨rs, h1, h2, h3⟩ := h
  exact ⟨rs, e _ _ h1 (by simp), h2, fun k r ws a b => e _ _ (h3 k r ws a b) (by simp)⟩
/-- all words of plain signs -/
def AscR (rows : List (List (List Nat))) : Prop := ∀ ws ∈ rows, ∀ w ∈ ws, ∀ c ∈ w, c < 128
theorem strOk_mk {l : List Nat} (h : ∀ c ∈ l, c < 128) : PyData.strOk (mk l) = true := by
  unfold PyData.strOk
  rw [← Array.all_toList, List.all_eq_true]
  intro c hc
  have := h c hc
  exact decide_eq_true (by omega)
theorem row_lay : ∀ ws : List (List Nat), (∀ w ∈ ws, ∀ c ∈ w, c < 128) → PyData.canLayAll0 (ws.map dS) = true
  | [], _ => by simp [PyData.canLayAll0]
  | w :: ws, h => by
    have h1 := strOk_mk (h w List.mem_cons_self)
    have h2 := row_lay ws fun v hv => h v (List.mem_cons_of_mem _ hv)
    simp [PyData.canLayAll0, dS, PyData.canLay0, h1]
    exact h2
theorem rows_lay : ∀ rows : List (List (List Nat)), AscR rows → PyData.canLayAll0 (rows.map dRow) = true
  | [], _ => by simp [PyData.canLayAll0]
  | ws :: rows, h => by
    have h1 := row_lay ws (h ws List.mem_cons_self)
    have h2 := rows_lay rows fun v hv => h v (List.mem_cons_of_mem _ hv)
    simp only [List.map_cons, PyData.canLayAll0, dRow, PyData.canLay0, h1, h2]
    rfl
theorem row_depth : ∀ ws : List (List Nat), PyData.depthAll (ws.map dS) ≤ 1
  | [] => by simp [PyData.depthAll]
  | w :: ws => by
    have := row_depth ws
    simp only [List.map_cons, PyData.depthAll, dS, PyData.depth]
    omega
theorem rows_depth : ∀ rows : List (List (List Nat)), PyData.depthAll (rows.map dRow) ≤ 2
  | [] => by simp [PyData.depthAll]
  | ws :: rows => by
    have h1 := rows_depth rows
    have h2 := row_depth ws
    simp only [List.map_cons, PyData.depthAll, dRow, PyData.depth]
    omega
theorem rows_shaped {rows : List (List (List Nat))} (h : AscR rows) : SeqAt.shaped (dRows rows) = true :=
  shaped_of (by simp only [dRows, PyData.canLay0]; exact rows_lay rows h) (by have := rows_depth rows; simp only [dRows, PyData.depth]; omega)
theorem row_show : ∀ ws : List (List Nat), PyData.showableAll (ws.map dS) = true
  | [] => by simp [PyData.showableAll]
  | w :: ws => by simp [PyData.showableAll, dS, PyData.showable]; exact row_show ws
theorem rows_show : ∀ rows : List (List (List Nat)), PyData.showableAll (rows.map dRow) = true
  | [] => by simp [PyData.showableAll]
  | ws :: rows => by
    have h1 := row_show ws
    have h2 := rows_show rows
    simp only [List.map_cons, PyData.showableAll, dRow, PyData.showable, h1, h2]
    rfl
theorem rows_showable (rows : List (List (List Nat))) : (dRows rows).showable = true := by simp only [dRows, PyData.showable]; exact rows_show rows
/-- what the words weigh -/
def cost (rows : List (List (List Nat))) : Nat := (rows.map fun ws => (ws.map fun w => w.length + 1).sum + 1).sum
theorem row_weight : ∀ ws : List (List Nat), PyData.weightAll (ws.map dS) = (ws.map fun w => w.length + 1).sum
  | [] => rfl
  | w :: ws => by
    have e : (mk w).cps.size = w.length := by show w.toArray.size = _; simp
    simp only [List.map_cons, PyData.weightAll, dS, PyData.weight, List.sum_cons, e]
    have := row_weight ws
    omega
theorem rows_weight : ∀ rows : List (List (List Nat)), PyData.weightAll (rows.map dRow) = cost rows
  | [] => rfl
  | ws :: rows => by
    have h1 := row_weight ws
    have h2 := rows_weight rows
    unfold cost at h2 ⊢
    simp only [List.map_cons, PyData.weightAll, dRow, PyData.weight, List.sum_cons, h1, h2]
theorem row_short : ∀ ws : List (List Nat), (∀ w ∈ ws, ∀ c ∈ w, c < 128) → PyData.leavesShortAll 8 (ws.map dS) = true
  | [], _ => by simp [PyData.leavesShortAll]
  | w :: ws, h => by
    have h1 : (PyData.leavesShort 8 (dS w)) = true := by
      simp only [dS, PyData.leavesShort, List.all_eq_true, decide_eq_true_eq]
      intro c hc
      have := h w List.mem_cons_self c hc
      exact Nat.lt_of_lt_of_le this (by decide)
    have h2 := row_short ws fun v hv => h v (List.mem_cons_of_mem _ hv)
    simp only [List.map_cons, PyData.leavesShortAll, h1, h2]
    rfl
theorem rows_short : ∀ rows : List (List (List Nat)), AscR rows → PyData.leavesShortAll 8 (rows.map dRow) = true
  | [], _ => by simp [PyData.leavesShortAll]
  | ws :: rows, h => by
    have h1 := row_short ws (h ws List.mem_cons_self)
    have h2 := rows_short rows fun v hv => h v (List.mem_cons_of_mem _ hv)
    simp only [List.map_cons, PyData.leavesShortAll, dRow, PyData.leavesShort, h1, h2]
    rfl
theorem rows_shown {rows : List (List (List Nat))} (h : AscR rows) : (dRows rows).shown.length ≤ 10 * cost rows + 8 := by
  have := PyData.shown_le 8 (Nat.le_refl _) (dRows rows) (by simp only [dRows, PyData.leavesShort]; exact rows_short rows h)
  have e : (dRows rows).weight = cost rows := by simp only [dRows, PyData.weight]; exact rows_weight rows
  rw [e] at this
  exact this
/-! ### plain signs stay plain when a text is shown -/
def Asc (x : Str) : Prop := ∀ c ∈ tl x, c < 128
theorem asc_char : ∀ c, c < 128 → (∀ d ∈ Builtin.Str.reprChar 39 c, d < 128) ∧ ∀ d ∈ Builtin.Str.reprChar 34 c, d < 128 := by decide +kernel
theorem asc_fold (q : Nat) (hq : q = 39 ∨ q = 34) : ∀ (l : List Nat) (acc : Array Nat), (∀ c ∈ l, c < 128) → (∀ d ∈ acc.toList, d < 128) → ∀ d ∈ (l.foldl (fun out c => out ++ (Builtin.Str.reprChar q c).toArray) acc).toList, d < 128
  | [], acc, _, h => h
  | c :: l, acc, hl, h => by
    refine asc_fold q hq l _ (fun c hc => hl c (List.mem_cons_of_mem _ hc)) fun d hd => ?_
    rw [Array.toList_append] at hd
    rcases List.mem_append.mp hd with z | z
    · exact h d z
    · have hc := asc_char c (hl c List.mem_cons_self)
      have z' : d ∈ Builtin.Str.reprChar q c := by simpa using z
      rcases hq with rfl | rfl
      · exact hc.1 d z'
      · exact hc.2 d z'
theorem asc_repr {x : Str} (h : Asc x) : Asc (reprText x) := by
  have hq : reprQuote x = 39 ∨ reprQuote x = 34 := by
    unfold reprQuote
    split
    · exact .inr rfl
    · exact .inl rfl
  have q128 : reprQuote x < 128 := by omega
  intro d hd
  have hd' : d ∈ ((x.cps.foldl (fun out c => out ++ (Builtin.Str.reprChar (reprQuote x) c).toArray) #[reprQuote x]).push (reprQuote x)).toList := hd
  rw [Array.toList_push, ← Array.foldl_toList] at hd'
  rcases List.mem_append.mp hd' with z | z
  · exact asc_fold _ hq x.cps.toList _ h (fun d hd => by
      have : d = reprQuote x := by simpa using hd
      rw [this]
      exact q128) d z
  · have : d = reprQuote x := by simpa using z
    rw [this]
    exact q128
theorem asc_app {x y : Str} (h : Asc x) (g : Asc y) : Asc (x ++ y) := fun c hc => by
  rw [tl_append] at hc
  rcases List.mem_append.mp hc with z | z
  · exact h c z
  · exact g c z
theorem asc_from : ∀ (ts : List Str) (k : Nat) (acc : Str), (∀ t ∈ ts, Asc t) → Asc acc → Asc (textFrom k acc ts)
  | [], k, acc, _, h => h
  | t :: ts, k, acc, ht, h => by
    unfold textFrom
    refine asc_from ts _ _ (fun u hu => ht u (List.mem_cons_of_mem _ hu)) (asc_app (asc_app h ?_) (ht t List.mem_cons_self))
    split
    · show ∀ c ∈ tl (Str.ofString ", "), c < 128
      rw [tl_ofString]
      decide
    · show ∀ c ∈ tl (Str.ofString ""), c < 128
      rw [tl_ofString]
      decide
theorem asc_list {ts : List Str} (h : ∀ t ∈ ts, Asc t) : Asc (listText ts) := by
  unfold listText
  refine asc_app (asc_from ts 0 _ h ?_) ?_
  · show ∀ c ∈ tl (Str.ofString "["), c < 128
    rw [tl_ofString]
    decide
  · show ∀ c ∈ tl (Str.ofString "]"), c < 128
    rw [tl_ofString]
    decide
theorem asc_row : ∀ ws : List (List Nat), (∀ w ∈ ws, ∀ c ∈ w, c < 128) → ∀ t ∈ PyData.shownAll (ws.map dS), Asc t
  | [], _, t, ht => by simp [PyData.shownAll] at ht
  | w :: ws, h, t, ht => by
    simp only [List.map_cons, PyData.shownAll, List.mem_cons] at ht
    rcases ht with rfl | ht
    · simp only [dS, PyData.shown]
      exact asc_repr (h w List.mem_cons_self)
    · exact asc_row ws (fun v hv => h v (List.mem_cons_of_mem _ hv)) t ht
theorem asc_rows : ∀ rows : List (List (List Nat)), AscR rows → ∀ t ∈ PyData.shownAll (rows.map dRow), Asc t
  | [], _, t, ht => by simp [PyData.shownAll] at ht
  | ws :: rows, h, t, ht => by
    simp only [List.map_cons, PyData.shownAll, List.mem_cons] at ht
    rcases ht with rfl | ht
    · simp only [dRow, PyData.shown]
      exact asc_list (asc_row ws (h ws List.mem_cons_self))
    · exact asc_rows rows (fun v hv => h v (List.mem_cons_of_mem _ hv)) t ht
theorem rows_asc {rows : List (List (List Nat))} (h : AscR rows) : Asc (dRows rows).shown := by
  simp only [dRows, PyData.shown]
  exact asc_list (asc_rows rows h)
/-! ### tests of texts -/
theorem lit_if {a b : List Nat} {s : String} {A B : Prop} (hb : s.toList.map Char.toNat = b) (h1 : a = b → A) (h2 : a ≠ b → B) : if decide (V.str (mk a) = V.str (Str.ofString s)) = true then A else B := by
  have e : Str.ofString s = mk b := by rw [mk_lit, hb]
  rw [e]
  exact str_if h1 h2
theorem litn_if {a b : List Nat} {s : String} {A B : Prop} (hb : s.toList.map Char.toNat = b) (h1 : a ≠ b → A) (h2 : a = b → B) : if (!decide (V.str (mk a) = V.str (Str.ofString s))) = true then A else B := by
  have e : Str.ofString s = mk b := by rw [mk_lit, hb]
  rw [e]
  exact strn_if h1 h2
theorem le_a {c b : Nat} {s : String} (hs : s.toList.map Char.toNat = [b]) : (!decide ((mk [c]).cps.toList < (Str.ofString s).cps.toList)) = decide (b ≤ c) := by
  have e : (Str.ofString s).cps.toList = [b] := by rw [← hs]; exact tl_ofString s
  have e2 : (mk [c]).cps.toList = [c] := rfl
  rw [e, e2]
  by_cases h : b ≤ c
  · rw [decide_eq_true h, decide_eq_false (fun z => by have := (lt1 c b).mp z; omega)]
    rfl
  · rw [decide_eq_false h, decide_eq_true ((lt1 c b).mpr (by omega))]
    rfl
theorem le_b {c b : Nat} {s : String} (hs : s.toList.map Char.toNat = [b]) : (!decide ((Str.ofString s).cps.toList < (mk [c]).cps.toList)) = decide (c ≤ b) := by
  have e : (Str.ofString s).cps.toList = [b] := by rw [← hs]; exact tl_ofString s
  have e2 : (mk [c]).cps.toList = [c] := rfl
  rw [e, e2]
  by_cases h : c ≤ b
  · rw [decide_eq_true h, decide_eq_false (fun z => by have := (lt1 b c).mp z; omega)]
    rfl
  · rw [decide_eq_false h, decide_eq_true ((lt1 b c).mpr (by omega))]
    rfl
/-- '!' <= sign <= '~' -/
theorem sign_if {ta : TE} {σ : L2.St} {H : Hp} {c : Nat} {Q : Bool → Hp → Prop} (ha : ∀ R : VK, R (.str (mk [c])) H → ta σ H R) (h : Q (Lns.okS c) H) :
    tTest (tChain (fun x y H Q => ∃ i j, x = .str i ∧ y = .str j ∧ Q (.bl (!decide (j.cps.toList < i.cps.toList))) H) (fun x y H Q => ∃ i j, x = .str i ∧ y = .str j ∧ Q (.bl (!decide (j.cps.toList < i.cps.toList))) H)
      (tC (.str (Str.ofString "!"))) ta (tC (.str (Str.ofString "~")))) σ H Q := by
  refine ha _ ⟨_, _, rfl, rfl, _, rfl, ?_⟩
  rw [le_a (b := 33) (by decide)]
  by_cases h1 : 33 ≤ c
  · refine iteY (decide_eq_true h1) ⟨_, _, rfl, rfl, _, rfl, ?_⟩
    rw [le_b (b := 126) (by decide)]
    have e : Lns.okS c = decide (c ≤ 126) := by
      unfold Lns.okS
      rw [decide_eq_true h1]
      rfl
    rw [← e]
    exact h
  · refine iteN (decide_eq_false h1) ⟨_, rfl, ?_⟩
    have e : Lns.okS c = false := by
      unfold Lns.okS
      rw [decide_eq_false h1]
      rfl
    rw [← e]
    exact h
theorem at_lastm {α : Type} {xs : List α} {v : α} (h : xs[xs.length - 1]? = some v) : atI xs (-1) = some v := by
  have hl : 0 < xs.length := by
    have := (List.getElem?_eq_some_iff.mp h).1
    omega
  have e : xs.dropLast ++ [v] = xs := by
    have ne : xs ≠ [] := by
      intro z
      rw [z] at hl
      simp at hl
    have := List.dropLast_concat_getLast ne
    rw [List.getLast_eq_getElem] at this
    have g := (List.getElem?_eq_some_iff.mp h).2
    rw [g] at this
    exact this
  rw [← e]
  exact atI_last _ _
theorem lit1_eq {c b : Nat} {s : String} (hs : s.toList.map Char.toNat = [b]) : decide (V.str (mk [c]) = V.str (Str.ofString s)) = decide (c = b) := by
  have e : Str.ofString s = mk [b] := by rw [mk_lit, hs]
  rw [e]
  by_cases h : c = b
  · rw [decide_eq_true h, h]
    exact decide_eq_true rfl
  · rw [decide_eq_false h]
    exact decide_eq_false fun z => h (by have := mk_inj (V.str.inj z); simpa using this)
theorem lit1_ne {c b : Nat} {s : String} (hs : s.toList.map Char.toNat = [b]) : (!decide (V.str (mk [c]) = V.str (Str.ofString s))) = decide (c ≠ b) := by
  rw [lit1_eq hs]
  by_cases h : c = b <;> simp [h]
/-- short texts of plain signs -/
def TxS (n : Nat) (y : Str) : Prop := y.length ≤ n ∧ Asc y
theorem TxS.more {n m : Nat} {y : Str} (h : TxS n y) (le : n ≤ m) : TxS m y := ⟨Nat.le_trans h.1 le, h.2⟩
theorem str_app_len (x y : Str) : (x ++ y).length = x.length + y.length := by
  rw [len_tl, len_tl, len_tl, tl_append, List.length_append]
theorem TxS.app {n m : Nat} {x y : Str} (h : TxS n x) (g : TxS m y) : TxS (n + m) (x ++ y) :=
  ⟨by rw [str_app_len]; exact Nat.add_le_add h.1 g.1, asc_app h.2 g.2⟩
theorem TxS.cut {n : Nat} {x : Str} (h : TxS n x) (lo hi : Option Int) : TxS n (cutS x lo hi) := by
  refine ⟨Nat.le_trans (cutS_length x lo hi) h.1, fun c hc => ?_⟩
  have e : tl (cutS x lo hi) = (x.cps.toList.drop (HT.sIx x.length 0 lo)).take (HT.sIx x.length x.length hi - HT.sIx x.length 0 lo) := rfl
  rw [e] at hc
  exact h.2 c (List.mem_of_mem_drop (List.mem_of_mem_take hc))
theorem TxS.lit {s : String} {n : Nat} (h1 : (s.toList.map Char.toNat).length ≤ n) (h2 : ∀ c ∈ s.toList.map Char.toNat, c < 128) : TxS n (Str.ofString s) :=
  ⟨by rw [len_tl, tl_ofString]; exact h1, fun c hc => by rw [tl_ofString] at hc; exact h2 c hc⟩
theorem TxS.tx {n : Nat} {y : Str} (h : TxS n y) : Tx n (tl y) := ⟨by rw [← len_tl]; exact h.1, h.2⟩
theorem line_le {n : Nat} (h : n ≤ 16000000) : n ≤ sizeLine := Nat.le_trans h (by decide)
/-- t1 or t2, both answers known -/
theorem tOr_p {t1 t2 : TT} {σ : L2.St} {H : Hp} {Q : Bool → Hp → Prop} {p q : Prop} [Decidable p] [Decidable q] (h1 : ∀ R : Bool → Hp → Prop, R (decide p) H → t1 σ H R) (h2 : ∀ R : Bool → Hp → Prop, R (decide q) H → t2 σ H R) (h : Q (decide (p ∨ q)) H) : tOr t1 t2 σ H Q := by
  refine h1 _ ?_
  by_cases hp : p
  · refine iteY (decide_eq_true hp) ?_
    rw [decide_eq_true (Or.inl hp)] at h
    exact h
  · refine iteN (decide_eq_false hp) (h2 _ ?_)
    have e : decide (p ∨ q) = decide q := by simp [hp]
    rw [← e]
    exact h
/-- t1 and t2, where only the second one's answer matters -/
theorem tAnd_any {t1 t2 : TT} {σ : L2.St} {H : Hp} {Q : Bool → Hp → Prop} {p : Prop} (h1 : ∀ R : Bool → Hp → Prop, (∀ c, R c H) → t1 σ H R) (h2 : ∀ R : Bool → Hp → Prop, (p → R true H) → R false H → t2 σ H R) (hT : p → Q true H) (hF : Q false H) : tAnd t1 t2 σ H Q := by
  refine h1 _ fun c => ?_
  cases c with
  | true => exact iteT (h2 _ hT hF)
  | false => exact iteF hF
theorem dec_R {p : Prop} [Decidable p] {R : Bool → Hp → Prop} {H : Hp} (h1 : p → R true H) (h2 : R false H) : R (decide p) H := by
  by_cases h : p
  · rw [decide_eq_true h]
    exact h1 h
  · rw [decide_eq_false h]
    exact h2
end L2

namespace K21
open PySem PySem.Spec PyProof.Rows L2 TL
def top (i : Nat) : Stmt := PySem.Challenge.pw_eachfloweachlink_k21_first_wrong_line.main.body.getD i (.Pass ⟨0, 0, 0, 0⟩)
abbrev vN (k : Nat) : V := .int (k : Int)
/-! _words(line): slots 0 line 1 words 2 word 3 sign -/
abbrev s_words : Stmt := top 6
abbrev n_words : List Str := ["line", "words", "word", "sign"]
theorem sc_words : FnScope n_words ["line"] (defScope s_words) := ⟨rfl, rfl, rfl, by decide +kernel, rfl, by decide +kernel, by decide +kernel⟩
/-! good_lines(text): slots 0 text 1 lines 2 rows 3 k 4 words -/
abbrev s_good_lines : Stmt := top 7
abbrev n_good_lines : List Str := ["text", "lines", "rows", "k", "words"]
theorem sc_good_lines : FnScope n_good_lines ["text"] (defScope s_good_lines) := ⟨rfl, rfl, rfl, by decide +kernel, rfl, by decide +kernel, by decide +kernel⟩
/-! read_lines(text): slots 0 text 1 rows 2 wrong -/
abbrev s_read_lines : Stmt := top 8
abbrev n_read_lines : List Str := ["text", "rows", "wrong"]
theorem sc_read_lines : FnScope n_read_lines ["text"] (defScope s_read_lines) := ⟨rfl, rfl, rfl, by decide +kernel, rfl, by decide +kernel, by decide +kernel⟩
abbrev s_iB : Stmt := inClass (top 4) 0
theorem S_BadText : XS.ErrSyn "BadText.__init__" s_iB "place" [] where
  body := ⟨_, _, _, _, _, _, _, _, _, _, _, _, _, rfl, .nil, by decide +kernel⟩
  ar := ⟨_, rfl, rfl⟩
  kind := rfl
  sup := rfl
  cls := rfl
  self := rfl
  loc := by decide +kernel
  cell := by decide +kernel
  co := rfl
  gen := rfl
  nd := by decide +kernel
  short := by decide
  bind := fun _ _ _ _ _ _ _ us hl s => match us, hl with | [_, _], _ => .of_eq rfl
/-- what the top has written -/
structure Txt1 (P : Program) (K : PySem.W.Frag) (mg : Str → Option Value) (CB : Addr) : Prop extends Blt mg where
  bad : ∃ fI, XS.ErrTxt P K mg "BadText" "BadText.__init__" s_iB ["place"] CB fI
/-- at p: the list of these rows, all of whose lists have z -/
def RowsZ (z : Addr → Prop) (H : Hp) (p : Addr) (rows : Lns.Rows) : Prop :=
  ∃ rs : List Addr, H p = some (.lst (rs.map V.ref)) ∧ rs.length = rows.length ∧ (∀ (k : Nat) (r : Addr) (ws : List (List Nat)), rs[k]? = some r → rows[k]? = some ws → H r = some (.lst (ws.map vS))) ∧ ∀ r ∈ rs, z r
theorem RowsZ.at {z : Addr → Prop} {H : Hp} {p : Addr} {rows : Lns.Rows} (h : RowsZ z H p rows) : RowsAt H p rows := by
  obtain ⟨rs, h1, h2, h3, h4⟩ := h
  exact ⟨rs, h1, h2, h3⟩
theorem RowsZ.fr {z : Addr → Prop} {H H' : Hp} {p : Addr} {rows : Lns.Rows} (h : RowsZ z H p rows) (e : Fr [] H H') : RowsZ z H' p rows := by
  obtain ⟨rs, h1, h2, h3, h4⟩ := h
  exact ⟨rs, e _ _ h1 (by simp), h2, fun k r ws a b => e _ _ (h3 k r ws a b) (by simp), h4⟩
theorem RowsZ.imp {z z' : Addr → Prop} {H : Hp} {p : Addr} {rows : Lns.Rows} (h : RowsZ z H p rows) (i : ∀ r, z r → z' r) : RowsZ z' H p rows := by
  obtain ⟨rs, h1, h2, h3, h4⟩ := h
  exact ⟨rs, h1, h2, h3, fun r hr => i r (h4 r hr)⟩
/-- a further row -/
theorem RowsZ.snoc {z : Addr → Prop} {H : Hp} {p r : Addr} {rows : Lns.Rows} {ws : List (List Nat)} (h : RowsZ z H p rows) (hr : H r = some (.lst (ws.map vS))) (hz : z r) (hp : ¬ z p) :
    ∃ rs : List Addr, H p = some (.lst (rs.map V.ref)) ∧ rs.length = rows.length ∧ RowsZ z (upd H p (.lst (rs.map V.ref ++ [.ref r]))) p (rows ++ [ws]) := by
  obtain ⟨rs, h1, h2, h3, h4⟩ := h
  have ne : ∀ {q : Addr}, z q → q ≠ p := fun {q} hq e => hp (by rw [← e]; exact hq)
  refine ⟨rs, h1, h2, rs ++ [r], by rw [upd_same, List.map_append]; rfl, by simp [h2], fun k q us hq hu => ?_, fun q hq => ?_⟩
  · rcases List.getElem?_append_right (l₁ := rs) (l₂ := [r]) (i := k) with _
    by_cases c : k < rs.length
    · rw [List.getElem?_append_left c] at hq
      rw [List.getElem?_append_left (by rw [← h2]; exact c)] at hu
      rw [upd_ne (ne (h4 q (List.mem_of_getElem? hq)))]
      exact h3 k q us hq hu
    · rw [List.getElem?_append_right (by omega)] at hq
      rw [List.getElem?_append_right (by omega)] at hu
      have e0 : k - rs.length = 0 := by
        have := (List.getElem?_eq_some_iff.mp hq).1
        simp at this
        omega
      rw [e0] at hq
      rw [show k - rows.length = 0 by omega] at hu
      cases Option.some.inj hq
      cases Option.some.inj hu
      rw [upd_ne (ne hz)]
      exact hr
  · rcases List.mem_append.mp hq with a | a
    · exact h4 q a
    · have : q = r := by simpa using a
      rw [this]
      exact hz
def spWords (K : PySem.W.Frag) : Sp := fun vs H Q _ => ∃ l : List Nat, vs = [vS l] ∧ l.length ≤ 1000000 ∧ (Lns.wordsOf l = none → ∀ H', Fr [] H H' → Q .non H') ∧
  ∀ ws, Lns.wordsOf l = some ws → ∀ (p : Addr) (H' : Hp), H p = none → Fr [] H H' → H' p = some (.lst (ws.map vS)) → Q (.ref p) H'
def spGood (K : PySem.W.Frag) : Sp := fun vs H Q _ => ∃ l : List Nat, vs = [vS l] ∧ l.length ≤ 1000000 ∧ ∀ (p pr : Addr) (H' : Hp), H pr = none → Fr [] H H' → H' p = some (.tup [.ref pr, vN (Lns.prog l).1]) → RowsZ (fun r => H r = none ∧ r ≠ pr) H' pr (Lns.prog l).2 → Q (.ref p) H'
def spRead (K : PySem.W.Frag) (CB : Addr) : Sp := fun vs H Q E => ∃ l : List Nat, vs = [vS l] ∧ l.length ≤ 1000000 ∧ ((Lns.prog l).1 = 0 → ∀ (pr : Addr) (H' : Hp), H pr = none → Fr [] H H' → RowsZ (fun r => H r = none ∧ r ≠ pr) H' pr (Lns.prog l).2 → Q (.ref pr) H') ∧
  (0 < (Lns.prog l).1 → ∀ (d : Addr) (H' : Hp), Fr [] H H' → H' d = some (.xd [(("place" : Str), vN (Lns.prog l).1)]) → E (.ref CB) (some d) H')
section
variable {P : Program} {w : World} {K : PySem.W.Frag} {mg : Str → Option Value} {base : Heap} {CB : Addr}
theorem ok_words {f : Addr} {fd : FuncData} (F : Fun K "_words" "_words" s_words f fd) (T : Blt mg) : FnOk P w K mg base CX0 1 f fd ["line"] (spWords K) := by
  refine F.ok sc_words (fun vs H Q E h => ?_) (fun cdv A outer s H vs Q E hr h => ?_)
  · obtain ⟨l, rfl, _⟩ := h
    rfl
  · obtain ⟨l, rfl, hl, kN, kS⟩ := h
    refine ⟨_, (pss_cons (ps_set (i := 1) sc_words.nd rfl (Or.inl rfl) (pe_split (pv 0) pe_str))
    (pss_cons (ps_for PassesOwn.never rfl (pi_list (pv 1)) (pg_name (i := 2) sc_words.nd rfl (Or.inl rfl))
      (pss_cons (ps_if (pt_cmpR op_eq (pv 2) pe_str (nomark _))
        (pss_one (ps_ret pe_non))
        pss_nil)
      (pss_one (ps_for PassesOwn.never rfl (pi_str (pv 2)) (pg_name (i := 3) sc_words.nd rfl (Or.inl rfl))
        (pss_one (ps_if (pt_not (pt_chain op_le_str op_le_str pe_str (pv 3) pe_str))
          (pss_one (ps_ret pe_non))
          pss_nil))))))
    (pss_one (ps_ret (pv 1))))), ?_⟩
    refine ⟨_, rfl, ⟨_, rfl⟩, _, _, rfl, rfl, by decide +kernel, by rw [mk_len]; show l.length + 2 ≤ sizeLine; exact Nat.le_trans (Nat.add_le_add_right hl 2) (by decide), fun p hp => ?_⟩
    have es : (Txt.split (mk l) (Str.ofString " ")).map V.str = (Lns.spA 32 [] l).map vS := by
      rw [split_spA (mk l) _ 32 (by rw [tl_ofString]; decide) (by decide), List.map_map]
      rfl
    have hw : Lns.wordsOf l = if (Lns.spA 32 [] l).all Lns.okW = true then some (Lns.spA 32 [] l) else none := rfl
    rw [es]
    have h1 : (upd H p (.lst ((Lns.spA 32 [] l).map vS))) p = some (.lst ((Lns.spA 32 [] l).map vS)) := upd_same
    have e1 : Fr [] H (upd H p (.lst ((Lns.spA 32 [] l).map vS))) := (Fr.refl [] H).new hp
    generalize upd H p (.lst ((Lns.spA 32 [] l).map vS)) = H1 at h1 e1 ⊢
    generalize Lns.spA 32 [] l = ws at hw h1 ⊢
    have none_of : ∀ {v : List Nat}, v ∈ ws → Lns.okW v = false → Lns.wordsOf l = none := fun {v} hv hb => by
      rw [hw, if_neg]
      intro z
      rw [List.all_eq_true] at z
      rw [z v hv] at hb
      cases hb
    refine ⟨_, rfl, p, rfl, ⟨_, SqL.of h1⟩, for_list (K := K) (a := p) (xs := ws.map vS)
      (fun i σ H' => H' = H1 ∧ (∀ v ∈ ws.take i, Lns.okW v = true) ∧ ∃ o2 o3 : Option V, σ = [some (vS l), some (.ref p), o2, o3])
      ⟨rfl, fun v hv => by simp at hv, _, _, rfl⟩ (fun i σ H' _ z => by rw [z.1]; exact SqL.of h1) ?_ ?_⟩
    · rintro i y σ H' hy ⟨rfl, ok, o2, o3, rfl⟩
      obtain ⟨v, hv, rfl⟩ := get_mapf hy
      have vm : v ∈ ws := List.mem_of_getElem? hv
      refine ⟨_, rfl, rfl, _, rfl, lit_if (b := []) (by decide) (fun e => ?_) fun ne => ?_⟩
      · exact kN (none_of vm (by rw [e]; rfl)) _ e1
      · refine ⟨_, rfl, _, rfl, for_sgn (l := v) (fun j σ H'' => H'' = H' ∧ (v.take j).all Lns.okS = true ∧ ∃ o3 : Option V, σ = [some (vS l), some (.ref p), some (vS v), o3]) ⟨rfl, rfl, _, rfl⟩ ?_ ?_⟩
        · rintro j c σ H'' hc ⟨rfl, ok2, o3, rfl⟩
          refine sign_if (c := c) (fun R h => ⟨_, rfl, h⟩) ?_
          cases ho : Lns.okS c with
          | true =>
            refine ⟨rfl, ?_, _, rfl⟩
            rw [take_succ hc, List.all_append, ok2, List.all_cons, ho]
            rfl
          | false =>
            refine kN (none_of vm ?_) _ e1
            unfold Lns.okW
            have : v.all Lns.okS = false := by
              cases h : v.all Lns.okS with
              | false => rfl
              | true =>
                rw [List.all_eq_true] at h
                rw [h c (List.mem_of_getElem? hc)] at ho
                cases ho
            rw [this, Bool.and_false]
        · rintro σ H'' ⟨rfl, ok2, o3, rfl⟩
          rw [List.take_length] at ok2
          refine ⟨rfl, fun u hu => ?_, _, _, rfl⟩
          rw [take_succ hv] at hu
          rcases List.mem_append.mp hu with z | z
          · exact ok u z
          · have : u = v := by simpa using z
            rw [this]
            unfold Lns.okW
            rw [ok2]
            cases v with
            | nil => exact absurd rfl ne
            | cons a b => rfl
    · rintro σ H' ⟨rfl, ok, o2, o3, rfl⟩
      rw [List.length_map, List.take_length] at ok
      refine ⟨_, rfl, kS ws ?_ p _ hp e1 h1⟩
      rw [hw, if_pos (List.all_eq_true.mpr ok)]
theorem ok_good_lines {f : Addr} {fd : FuncData} (F : Fun K "good_lines" "good_lines" s_good_lines f fd) (T : Blt mg) (F_words : FnB P w K mg base CX0 1 "_words" ["line"] (spWords K)) : FnOk P w K mg base CX0 2 f fd ["text"] (spGood K) := by
  refine F.ok sc_good_lines (fun vs H Q E h => ?_) (fun cdv A outer s H vs Q E hr h => ?_)
  · obtain ⟨l, rfl, _⟩ := h
    rfl
  · obtain ⟨l, rfl, hl, k⟩ := h
    refine ⟨_, (pss_cons (ps_set (i := 1) sc_good_lines.nd rfl (Or.inl rfl) (pe_split (pv 0) pe_str))
    (pss_cons (ps_set (i := 2) sc_good_lines.nd rfl (Or.inl rfl) (pe_lst pa_nil))
    (pss_cons (ps_for PassesOwn.never rfl (pi_range1 (by rfl) T.m_range (pa_cons (pe_op op_sub (pe_callB call_len_seq (by rfl) T.m_len (by decide +kernel) (pa_cons (pv 1) pa_nil)) pe_int) pa_nil)) (pg_name (i := 3) sc_good_lines.nd rfl (Or.inl rfl))
      (pss_cons (ps_set (i := 4) sc_good_lines.nd rfl (Or.inl rfl) (pe_callF F_words (hr.mono (by decide)) rfl pass0 (pa_cons (pe_ix ix_list (pv 1) (pv 3) (fun _ _ => rfl)) pa_nil)))
      (pss_cons (ps_if (pt_cmpR op_isN (pv 4) pe_non (nomark _))
        (pss_one (ps_ret (pe_tup (pa_cons (pv 2) (pa_cons (pe_op op_add (pv 3) pe_int) pa_nil)))))
        pss_nil)
      (pss_one (ps_expr (pe_bm PySem.F.plainAttrs_list PySem.F.slot_list_append PySem.F.type_list_append mt_append (pv 2) (pa_cons (pv 4) pa_nil)))))))
    (pss_cons (ps_if (pt_cmpR op_ne (pe_ix ix_list (pv 1) (pe_un un_neg pe_int) (fun _ _ => rfl)) pe_str (nomark _))
      (pss_one (ps_ret (pe_tup (pa_cons (pv 2) (pa_cons (pe_callB call_len_seq (by rfl) T.m_len (by decide +kernel) (pa_cons (pv 1) pa_nil)) pa_nil)))))
      pss_nil)
    (pss_one (ps_ret (pe_tup (pa_cons (pv 2) (pa_cons pe_int pa_nil))))))))), ?_⟩
    refine ⟨_, rfl, ⟨_, rfl⟩, _, _, rfl, rfl, by decide +kernel, by rw [mk_len]; show l.length + 2 ≤ sizeLine; exact Nat.le_trans (Nat.add_le_add_right hl 2) (by decide), fun p hp => ?_⟩
    have es : (Txt.split (mk l) (Str.ofString "\n")).map V.str = (Lns.spA 10 [] l).map vS := by
      rw [split_spA (mk l) _ 10 (by rw [tl_ofString]; decide) (by decide), List.map_map]
      rfl
    have hprog : Lns.prog l = Lns.goP (Lns.spA 10 [] l) [] := rfl
    have hne := Lns.spA_ne 10 l []
    rw [es]
    refine ⟨by show 0 ≤ sizeLine; exact Nat.zero_le _, fun pr hpr => ?_⟩
    have hlen := Lns.spA_len 10 l []
    have hmem := Lns.spA_mem 10 l []
    have h1 : (upd (upd H p (.lst ((Lns.spA 10 [] l).map vS))) pr (.lst [])) p = some (.lst ((Lns.spA 10 [] l).map vS)) := by rw [upd_ne (ne_of_none upd_same hpr)]; exact upd_same
    have e1 : Fr [] H (upd (upd H p (.lst ((Lns.spA 10 [] l).map vS))) pr (.lst [])) := ((Fr.refl [] H).new hp).new hpr
    have h2 : (upd (upd H p (.lst ((Lns.spA 10 [] l).map vS))) pr (.lst [])) pr = some (.lst []) := upd_same
    have npr : H pr = none := ((Fr.refl [] H).new hp).free hpr
    have nppr : p ≠ pr := ne_of_none upd_same hpr
    generalize upd (upd H p (.lst ((Lns.spA 10 [] l).map vS))) pr (.lst []) = H1 at h1 h2 e1 ⊢
    clear hpr es
    generalize Lns.spA 10 [] l = L at hprog hne hlen hmem h1 ⊢
    have L0 : 0 < L.length := List.length_pos_iff.mpr hne
    have lm : (L.map vS).length = L.length := List.length_map _
    refine ⟨_, rfl, _, _, rfl, .inl (SqL.of h1), _, _, rfl, rfl, _, rfl, ?_, ?_, for_rng (n := (((L.map vS).length : Int) - 1).toNat)
      (fun i σ H' => ∃ rows : Lns.Rows, Lns.goP L [] = Lns.goP (L.drop i) rows ∧ rows.length = i ∧ Fr [] H H' ∧ H' p = some (.lst (L.map vS)) ∧ RowsZ (fun r => H r = none ∧ r ≠ pr) H' pr rows ∧ ∃ o3 o4 : Option V, σ = [some (vS l), some (.ref p), some (.ref pr), o3, o4])
      ⟨[], rfl, rfl, e1, h1, ⟨[], h2, rfl, fun k r ws a => by simp at a, fun r hr => by simp at hr⟩, _, _, rfl⟩ ?_ ?_⟩
    · rw [lm]
      omega
    · rw [lm]
      omega
    · rintro i σ H' hi ⟨rows, hgo, hrl, e, g1, g2, o3, o4, rfl⟩
      rw [lm] at hi
      have hi1 : i + 1 < L.length := by omega
      have hg : L[i]? = some (L.getD i []) := by rw [List.getD_eq_getElem?_getD, List.getElem?_eq_getElem (show i < L.length by omega)]; rfl
      have lw := hmem _ (List.mem_of_getElem? hg)
      rw [Lns.goP_step hi1] at hgo
      generalize L.getD i [] = li at hg lw hgo
      refine ⟨_, rfl, _, rfl, _, _, _, _, rfl, rfl, SqL.of g1, at_map hg, li, rfl, by simp at lw; omega, fun hN H2 e2 => ?_, fun ws hS q H2 hq e2 h2 => ?_⟩
      · refine ⟨_, rfl, rfl, _, rfl, ?_⟩
        refine ⟨_, rfl, _, rfl, _, _, rfl, rfl, by show 2 ≤ sizeLine; decide, fun t ht => ?_⟩
        rw [hN] at hgo
        have e3 : Fr [] H (upd H2 t (.tup [.ref pr, .int ((i : Int) + 1)])) := (e.trans e2).new ht
        refine k t pr _ npr e3 ?_ ?_
        · rw [upd_same, hprog, hgo]
          show some (HO.tup [V.ref pr, .int ((i : Int) + 1)]) = some (.tup [.ref pr, .int ((rows.length + 1 : Nat) : Int)])
          rw [hrl]
          rfl
        · rw [hprog, hgo]
          exact (g2.fr e2).fr ((Fr.refl [] H2).new ht)
      · rw [hS] at hgo
        refine ⟨_, rfl, rfl, _, rfl, ?_⟩
        have nq : H q = none := e.free hq
        obtain ⟨rs, a1, a2, a3⟩ := (g2.fr e2).snoc h2 ⟨nq, fun z => by
          obtain ⟨rs, b1, _⟩ := g2
          rw [z, b1] at hq
          cases hq⟩ (fun z => z.2 rfl)
        refine ⟨_, rfl, .inl ⟨rfl, _, SqL.of a1⟩, _, rfl, _, _, _, rfl, rfl, a1, ?_, ?_⟩
        · rw [List.length_map, a2, hrl]
          exact Nat.lt_of_lt_of_le (show i < 2000000 by omega) (by decide)
        · exact ⟨rows ++ [ws], hgo, by simp [hrl], (e.trans e2).put (.inr npr), by rw [upd_ne nppr]; exact e2 _ _ g1 (by simp), a3, _, _, rfl⟩
    · rintro σ H' ⟨rows, hgo, hrl, e, g1, g2, o3, o4, rfl⟩
      rw [lm] at hgo hrl
      have hil : (((L.length : Int) - 1).toNat) + 1 = L.length := by omega
      rw [Lns.goP_last hil] at hgo
      have hg : L[L.length - 1]? = some (L.getD ((L.length : Int) - 1).toNat []) := by
        rw [show ((L.length : Int) - 1).toNat = L.length - 1 by omega, List.getD_eq_getElem?_getD, List.getElem?_eq_getElem (show L.length - 1 < L.length by omega)]
        rfl
      generalize L.getD ((L.length : Int) - 1).toNat [] = ll at hg hgo
      have hat : atI (L.map vS) (-1) = some (vS ll) := at_lastm (by rw [List.length_map, List.getElem?_map, hg]; rfl)
      refine ⟨_, rfl, _, rfl, _, _, _, _, rfl, rfl, SqL.of g1, hat, rfl, _, rfl, litn_if (b := []) (by decide) (fun ne => ?_) fun eq => ?_⟩
      · refine ⟨_, rfl, _, rfl, _, _, rfl, .inl (SqL.of g1), by show 2 ≤ sizeLine; decide, fun t ht => ?_⟩
        rw [if_neg ne] at hgo
        refine k t pr _ npr (e.new ht) ?_ ?_
        · rw [upd_same, hprog, hgo, lm]
          show some (HO.tup [V.ref pr, .int (L.length : Int)]) = some (.tup [.ref pr, .int ((rows.length + 1 : Nat) : Int)])
          rw [show rows.length + 1 = L.length by omega]
        · rw [hprog, hgo]
          exact g2.fr ((Fr.refl [] H').new ht)
      · refine ⟨_, rfl, by show 2 ≤ sizeLine; decide, fun t ht => ?_⟩
        rw [if_pos eq] at hgo
        refine k t pr _ npr (e.new ht) ?_ ?_
        · rw [upd_same, hprog, hgo]
          rfl
        · rw [hprog, hgo]
          exact g2.fr ((Fr.refl [] H').new ht)
theorem ok_read_lines {f : Addr} {fd : FuncData} (F : Fun K "read_lines" "read_lines" s_read_lines f fd) (T : Txt1 P K mg CB) (F_good_lines : FnB P w K mg base CX0 2 "good_lines" ["text"] (spGood K)) : FnOk P w K mg base (L2.CX P w) 3 f fd ["text"] (spRead K CB) := by
  refine F.okX sc_read_lines (fun vs H Q E h => ?_) (fun cdv A outer s H vs Q E hr h => ?_)
  · obtain ⟨l, rfl, _⟩ := h
    rfl
  · obtain ⟨l, rfl, hl, kQ, kE⟩ := h
    obtain ⟨fI, TB⟩ := T.bad
    refine ⟨_, (pss_cons (ps_asg (pe_callF F_good_lines (hr.mono (by decide)) rfl pass0 (pa_cons (pv 0) pa_nil)) (pg_tup rfl (pgs_cons (pg_name (i := 1) sc_read_lines.nd rfl (Or.inl rfl)) (pgs_cons (pg_name (i := 2) sc_read_lines.nd rfl (Or.inl rfl)) pgs_nil))))
    (pss_cons (ps_if (pt_cmpR op_gt (pv 2) pe_int (nomark _))
      (pss_one (ps_raiseErr rfl TB S_BadText hr (takes_of rfl rfl rfl rfl) (pa_cons (pv 2) pa_nil)))
      pss_nil)
    (pss_one (ps_ret (pv 1))))), ?_⟩
    refine ⟨_, rfl, l, rfl, hl, fun p pr H1 npr e1 hp hrows => ?_⟩
    refine ⟨p, _, rfl, SqT.of hp, rfl, _, _, rfl, _, _, rfl, rfl, ?_⟩
    refine ⟨_, rfl, _, _, rfl, rfl, _, rfl, dec_iff (fun pos => ?_) fun neg => ?_⟩
    · exact ⟨_, rfl, rfl, fun d hd => kE (by omega) d _ (e1.new hd) upd_same⟩
    · exact ⟨_, rfl, kQ (by omega) pr H1 npr e1 hrows⟩
end
/-! _law_word(bag): slots 0 bag 1 signs 2 word 3 k -/
abbrev s_law_word : Stmt := top 12
abbrev n_law_word : List Str := ["bag", "signs", "word", "k"]
theorem sc_law_word : FnScope n_law_word ["bag"] (defScope s_law_word) := ⟨rfl, rfl, rfl, by decide +kernel, rfl, by decide +kernel, by decide +kernel⟩
/-! _law_spoilt(bag, text): slots 0 bag 1 text 2 kind 3 at 4 feeds 5 blanks 6 k -/
abbrev s_law_spoilt : Stmt := top 13
abbrev n_law_spoilt : List Str := ["bag", "text", "kind", "at", "feeds", "blanks", "k"]
theorem sc_law_spoilt : FnScope n_law_spoilt ["bag", "text"] (defScope s_law_spoilt) := ⟨rfl, rfl, rfl, by decide +kernel, rfl, by decide +kernel, by decide +kernel⟩
/-! _law_lines(text): slots 0 text 1 rows 2 words 3 word 4 started 5 sign -/
abbrev s_law_lines : Stmt := top 14
abbrev n_law_lines : List Str := ["text", "rows", "words", "word", "started", "sign"]
theorem sc_law_lines : FnScope n_law_lines ["text"] (defScope s_law_lines) := ⟨rfl, rfl, rfl, by decide +kernel, rfl, by decide +kernel, by decide +kernel⟩
def spWord : Sp := fun vs H Q _ => ∃ b c : Addr, vs = [.ref b] ∧ BagC H b c ∧ ∀ (y : Str) (H' : Hp), TxS 6 y → Fr [b] H H' → BagC H' b c → Q (.str y) H'
def spSpoilt : Sp := fun vs H Q _ => ∃ (b c : Addr) (n : Nat) (y : Str), vs = [.ref b, .str y] ∧ BagC H b c ∧ TxS n y ∧ n ≤ 1000000 ∧ ∀ (z : Str) (H' : Hp), TxS (2 * n + 3) z → Fr [b] H H' → BagC H' b c → Q (.str z) H'
def spLines (K : PySem.W.Frag) : Sp := fun vs H Q _ => ∃ l : List Nat, vs = [vS l] ∧ l.length ≤ 1000000 ∧ ∀ (p pr : Addr) (H' : Hp), Fr [] H H' → H' p = some (.lst [vN (Lns.prog l).1, .ref pr]) → RowsAt H' pr (Lns.prog l).2 → Q (.ref p) H'
theorem RowsZ.put {z : Addr → Prop} {H : Hp} {p q : Addr} {o : HO} {rows : Lns.Rows} (h : RowsZ z H p rows) (hq : q ≠ p) (hz : ∀ r, z r → r ≠ q) : RowsZ z (upd H q o) p rows := by
  obtain ⟨rs, h1, h2, h3, h4⟩ := h
  exact ⟨rs, by rw [upd_ne hq.symm]; exact h1, h2, fun k r ws a b => by rw [upd_ne (hz r (h4 r (List.mem_of_getElem? a)))]; exact h3 k r ws a b, h4⟩
/-- its lists are none of the free addresses -/
theorem RowsZ.free {z : Addr → Prop} {H : Hp} {p q : Addr} {rows : Lns.Rows} (h : RowsZ z H p rows) (hq : H q = none) : RowsZ (fun r => z r ∧ r ≠ q) H p rows := by
  obtain ⟨rs, h1, h2, h3, h4⟩ := h
  refine ⟨rs, h1, h2, h3, fun r hr => ⟨h4 r hr, ?_⟩⟩
  obtain ⟨k, hk⟩ := List.mem_iff_getElem?.mp hr
  have hl : k < rows.length := by rw [← h2]; exact (List.getElem?_eq_some_iff.mp hk).1
  exact ne_of_none (h3 k r _ hk (List.getElem?_eq_getElem hl)) hq
/-- left and right: the same data -/
def spSame (K : PySem.W.Frag) : Sp := fun vs H Q _ => ∃ (a b : Addr) (d : PyData), vs = [.ref a, .ref b] ∧ Dp K H (.ref a) d ∧ Dp K H (.ref b) d ∧ SeqAt.shaped d = true ∧ d.showable = true ∧ d.shown.length ≤ sizeLine ∧ Q (.bl true) H
/-! _law_same(left, right): slots 0 left 1 right -/
abbrev s_law_same : Stmt := top 15
abbrev n_law_same : List Str := ["left", "right"]
theorem sc_law_same : FnScope n_law_same ["left", "right"] (defScope s_law_same) := ⟨rfl, rfl, rfl, by decide +kernel, rfl, by decide +kernel, by decide +kernel⟩
/-! _law_bag(script): slots 0 script 1 seed 2 cell -/
abbrev s_law_bag : Stmt := top 10
abbrev n_law_bag : List Str := ["script", "seed", "cell"]
theorem sc_law_bag : FnScope n_law_bag ["script"] (defScope s_law_bag) := ⟨rfl, rfl, rfl, by decide +kernel, rfl, by decide +kernel, by decide +kernel⟩
/-! _law_take(bag, many): slots 0 bag 1 many 2 cell 3 told -/
abbrev s_law_take : Stmt := top 11
abbrev n_law_take : List Str := ["bag", "many", "cell", "told"]
theorem sc_law_take : FnScope n_law_take ["bag", "many"] (defScope s_law_take) := ⟨rfl, rfl, rfl, by decide +kernel, rfl, by decide +kernel, by decide +kernel⟩
theorem m31 : (0 : Int) < 2147483647 := by decide
section
variable {P : Program} {w : World} {K : PySem.W.Frag} {mg : Str → Option Value} {base : Heap}
theorem ok_law_take {f : Addr} {fd : FuncData} (F : Fun K "_law_take" "_law_take" s_law_take f fd) (T : Blt mg) : FnOk P w K mg base CX0 1 f fd ["bag", "many"] spTake := by
  refine F.ok sc_law_take (fun vs H Q E h => ?_) (fun cdv A outer s H vs Q E hr h => ?_)
  · obtain ⟨b, c, many, rfl, _⟩ := h
    rfl
  · obtain ⟨b, c, many, rfl, ⟨ns, i, v, sd, hB⟩, hm, hlog, k⟩ := h
    have hb := hB.1
    have hc := hB.2.1
    have hv : 0 ≤ v := hB.2.2.2.1
    have hi : 0 ≤ i := hB.2.2.1
    refine ⟨_, (Evl.pss_cut (ps_if (pt_cmpR op_lt (pe_ix ix_list (pv 0) pe_int (fun _ _ => rfl)) (pv 1) (nomark _))
      (pss_cons (ps_set (i := 2) sc_law_take.nd rfl (Or.inl rfl) (pe_ix ix_list (pv 0) pe_int (fun _ _ => rfl)))
      (Evl.pss_cut (ps_if (pt_cmpR op_lt (pe_ix ix_list (pv 0) pe_int (fun _ _ => rfl)) (pe_callB call_len_seq (by rfl) T.m_len (by decide +kernel) (pa_cons (pe_ix ix_list (pv 0) pe_int (fun _ _ => rfl)) pa_nil)) (nomark _))
        (pss_one (ps_set (i := 2) sc_law_take.nd rfl (Or.inl rfl) (pe_ix ix_list (pe_ix ix_list (pv 0) pe_int (fun _ _ => rfl)) (pe_ix ix_list (pv 0) pe_int (fun _ _ => rfl)) (fun _ _ => rfl))))
        pss_nil)
      (pss_cons (ps_asg (pe_op op_add (pe_ix ix_list (pv 0) pe_int (fun _ _ => rfl)) pe_int) (pg_sub (pv 0) pe_int set_list))
      (pss_cons (ps_asg (pe_op op_mod (pe_callTy call_int1 (by rfl) T.m_int (by decide +kernel) (pa_cons (pe_op op_add (pe_op op_add (pe_op op_mul (pe_ix ix_list (pv 0) pe_int (fun _ _ => rfl)) pe_int) pe_int) (pe_ix ix_list (pv 0) pe_int (fun _ _ => rfl))) pa_nil)) pe_int) (pg_sub (pv 0) pe_int set_list))
      (Evl.pss_cut (ps_if (pt_cmpR op_lt (pv 2) pe_int (nomark _))
        (pss_one (ps_set (i := 2) sc_law_take.nd rfl (Or.inl rfl) (pe_un un_neg (pv 2))))
        pss_nil)
      (Evl.pss_cut (ps_if (pt_cmpR op_lt (pv 2) (pe_op op_pow pe_int pe_int) (nomark _))
        (pss_cons (ps_set (i := 2) sc_law_take.nd rfl (Or.inl rfl) (pe_op op_mod (pe_callTy call_int1 (by rfl) T.m_int (by decide +kernel) (pa_cons (pe_op op_add (pe_op op_add (pe_op op_mul (pe_op op_add (pv 2) (pe_ix ix_list (pv 0) pe_int (fun _ _ => rfl))) pe_int) (pe_op op_mul (pe_ix ix_list (pv 0) pe_int (fun _ _ => rfl)) pe_int)) pe_int) pa_nil)) pe_int))
        (pss_one (ps_set (i := 2) sc_law_take.nd rfl (Or.inl rfl) (pe_op op_add (pe_op op_mod (pe_callTy call_int1 (by rfl) T.m_int (by decide +kernel) (pa_cons (pe_op op_add (pe_op op_mul (pv 2) pe_int) (pe_op op_mul pe_int (pe_ix ix_list (pv 0) pe_int (fun _ _ => rfl)))) pa_nil)) pe_int) pe_int))))
        pss_nil)
      (pss_one (ps_asg (pv 2) (pg_sub (pv 0) pe_int set_list)))))))))
      pss_nil)
    (pss_cons (ps_set (i := 3) sc_law_take.nd rfl (Or.inl rfl) (pe_op op_mod (pe_callTy call_int1 (by rfl) T.m_int (by decide +kernel) (pa_cons (pe_ix ix_list (pv 0) pe_int (fun _ _ => rfl)) pa_nil)) (pv 1)))
    (pss_cons (ps_asg (pe_op op_fdivW (pe_ix ix_list (pv 0) pe_int (fun _ _ => rfl)) (pv 1)) (pg_sub (pv 0) pe_int set_list))
    (pss_one (ps_ret (pv 3)))))), ?_⟩
    -- behind the if: the bag, whatever is in it
    refine ⟨fun σ' H1 => ∃ (o : Option V) (i1 v1 s1 : Int), σ' = [some (.ref b), some (.int many), o, none] ∧ Fr [b] H H1 ∧ BagAt H1 b c ns i1 v1 s1, ?_, ?_⟩
    · refine ⟨_, rfl, _, _, _, _, rfl, rfl, SqL.of hb, rfl, _, rfl, _, _, rfl, rfl, _, rfl, dec_iff (fun hlt => ?_) fun hge => ⟨_, _, _, _, rfl, Fr.refl _ _, hB⟩⟩
      -- cell = bag[3]; if bag[1] < len(bag[0]): cell = bag[0][bag[1]]
      refine ⟨_, rfl, _, _, _, _, rfl, rfl, SqL.of hb, rfl, ?_⟩
      refine ⟨fun σ' H1 => H1 = H ∧ ∃ cell : Int, σ' = [some (.ref b), some (.int many), some (.int cell), none], ?_, ?_⟩
      · refine ⟨_, rfl, _, _, _, _, rfl, rfl, SqL.of hb, rfl, _, rfl, _, _, _, _, rfl, rfl, SqL.of hb, rfl, _, _, rfl, .inl (SqL.of hc), _, _, rfl, rfl, _, rfl, dec_iff (fun hin => ?_) fun hout => ⟨rfl, _, rfl⟩⟩
        have hlt2 : i.toNat < ns.length := by
          rw [List.length_map] at hin
          omega
        exact ⟨_, rfl, _, _, _, _, rfl, rfl, SqL.of hb, rfl, _, rfl, _, _, _, _, rfl, rfl, SqL.of hb, rfl, _, _, _, _, rfl, rfl, SqL.of hc, at_int hi (by rw [List.getElem?_map, List.getElem?_eq_getElem hlt2]; rfl), rfl, _, rfl⟩
      rintro σ' H1 ⟨rfl, cell, rfl⟩
      -- bag[1] = bag[1] + 1; bag[3] = int(..) % ..
      refine ⟨_, rfl, _, _, _, _, rfl, rfl, SqL.of hb, rfl, _, _, rfl, rfl, _, rfl, _, _, _, _, rfl, rfl, hb, rfl, ?_⟩
      refine ⟨_, rfl, _, _, _, _, rfl, rfl, SqL.of upd_same, rfl, _, _, rfl, rfl, .inr (by decide), _, _, rfl, rfl, _, rfl, _, _, _, _, rfl, rfl, SqL.of upd_same, rfl, _, _, rfl, rfl, .inl ⟨_, rfl, _, _, rfl, rfl, m31, ?_⟩⟩
      refine ⟨_, rfl, _, _, _, _, rfl, rfl, upd_same, rfl, ?_⟩
      rw [upd_upd]
      show Evl.tCut _ _ _ _ (upd H1 b (.lst [.ref c, .int (i + 1), .int v, .int ((sd * 69621 + 12345 + (i + 1)) % 2147483647)]))
      have B2 : ∀ z : Int, 0 ≤ z → BagAt (upd H1 b (.lst [.ref c, .int (i + 1), .int v, .int z])) b c ns (i + 1) v z := fun z hz => hB.put (by omega) hv hz
      have hz0 : 0 ≤ (sd * 69621 + 12345 + (i + 1)) % 2147483647 := Int.emod_nonneg _ (by decide)
      have B3 := B2 _ hz0
      have h3 := B3.1
      have e3 : Fr [b] H1 (upd H1 b (.lst [.ref c, .int (i + 1), .int v, .int ((sd * 69621 + 12345 + (i + 1)) % 2147483647)])) := (Fr.refl _ _).put (.inl (by simp))
      revert B3 h3 e3
      generalize upd H1 b (.lst [.ref c, .int (i + 1), .int v, .int ((sd * 69621 + 12345 + (i + 1)) % 2147483647)]) = H2
      intro B3 h3 e3
      -- if cell < 0: cell = -cell
      refine ⟨fun σ' H' => H' = H2 ∧ ∃ cell : Int, 0 ≤ cell ∧ σ' = [some (.ref b), some (.int many), some (.int cell), none], ?_, ?_⟩
      · refine ⟨_, rfl, _, _, rfl, rfl, _, rfl, dec_iff (fun hneg => ?_) fun hpos => ⟨rfl, cell, by omega, rfl⟩⟩
        exact ⟨_, rfl, _, rfl, rfl, -cell, by omega, rfl⟩
      rintro σ' H' ⟨rfl, cell, hcell, rfl⟩
      -- if cell < 10 ** 18: cell = ..
      refine ⟨fun σ' H2 => H2 = H' ∧ ∃ cell : Int, 0 ≤ cell ∧ σ' = [some (.ref b), some (.int many), some (.int cell), none], ?_, ?_⟩
      · refine ⟨_, rfl, _, _, rfl, rfl, ⟨by decide, by decide, by decide⟩, _, _, rfl, rfl, _, rfl, dec_iff (fun hlow => ?_) fun hhigh => ⟨rfl, cell, hcell, rfl⟩⟩
        refine ⟨_, rfl, _, rfl, _, _, _, _, rfl, rfl, SqL.of h3, rfl, _, _, rfl, rfl, _, _, rfl, rfl, .inr (by decide), _, rfl, _, _, _, _, rfl, rfl, SqL.of h3, rfl, _, _, rfl, rfl, .inr (by decide), _, _, rfl, rfl, _, _, rfl, rfl, .inl ⟨_, rfl, _, _, rfl, rfl, m31, ?_⟩⟩
        refine ⟨_, rfl, _, _, rfl, rfl, .inr (by decide), _, rfl, _, _, _, _, rfl, rfl, SqL.of h3, rfl, _, _, rfl, rfl, .inl (by decide), _, _, rfl, rfl, .inl ⟨_, rfl, _, _, rfl, rfl, m31, _, _, rfl, rfl, ?_⟩⟩
        refine ⟨rfl, _, ?_, rfl⟩
        have := Int.emod_nonneg (((cell + (i + 1)) * 48271 + (i + 1) * 40692 + 3) % 2147483647 * 69621 + 7919 * (i + 1)) (b := 2147483647) (by decide)
        omega
      rintro σ' H2 ⟨rfl, cell, hcell, rfl⟩
      -- bag[2] = cell
      refine ⟨_, rfl, _, rfl, _, _, _, _, rfl, rfl, h3, rfl, ?_⟩
      exact ⟨_, _, _, _, rfl, e3.put (.inl (by simp)), B3.put B3.2.2.1 hcell B3.2.2.2.2⟩
    rintro σ' H1 ⟨o, i1, v1, s1, rfl, e1, B1⟩
    have h1 := B1.1
    refine ⟨_, rfl, _, _, _, _, rfl, rfl, SqL.of h1, rfl, .inl ⟨_, rfl, _, rfl, _, _, rfl, rfl, hm, ?_⟩⟩
    refine ⟨_, rfl, _, _, _, _, rfl, rfl, SqL.of h1, rfl, _, rfl, _, _, rfl, rfl, ⟨hm, hlog⟩, ?_⟩
    refine ⟨_, rfl, _, _, _, _, rfl, rfl, h1, rfl, _, rfl, ?_⟩
    refine k _ _ (Int.emod_nonneg _ (by omega)) (Int.emod_lt_of_pos _ hm) (e1.put (.inl (by simp))) ⟨ns, i1, v1 / many, s1, ?_⟩
    exact B1.put B1.2.2.1 (Int.ediv_nonneg B1.2.2.2.1 (by omega)) B1.2.2.2.2
end
section
variable {P : Program} {w : World} {K : PySem.W.Frag} {mg : Str → Option Value} {base : Heap}
theorem ok_law_bag {f : Addr} {fd : FuncData} (F : Fun K "_law_bag" "_law_bag" s_law_bag f fd) (T : Blt mg) : FnOk P w K mg base CX0 1 f fd ["script"] (spBag K) := by
  refine F.ok sc_law_bag (fun vs H Q E h => ?_) (fun cdv A outer s H vs Q E hr h => ?_)
  · obtain ⟨a, ns, rfl, _⟩ := h
    rfl
  · obtain ⟨a, ns, rfl, hS, hlen, k⟩ := h
    refine ⟨_, (pss_cons (ps_set (i := 1) sc_law_bag.nd rfl (Or.inl rfl) pe_int)
    (pss_cons (ps_for PassesOwn.never rfl (pi_list (pv 0)) (pg_name (i := 2) sc_law_bag.nd rfl (Or.inl rfl))
      (pss_one (ps_set (i := 1) sc_law_bag.nd rfl (Or.inl rfl) (pe_op op_mod (pe_callTy call_int1 (by rfl) T.m_int (by decide +kernel) (pa_cons (pe_op op_add (pe_op op_add (pe_op op_mul (pv 1) pe_int) (pe_op op_mod (pe_callTy call_int1 (by rfl) T.m_int (by decide +kernel) (pa_cons (pv 2) pa_nil)) pe_int)) pe_int) pa_nil)) pe_int))))
    (pss_one (ps_ret (pe_lst (pa_cons (pe_lc (own := [("cell", 2)]) rfl sc_law_bag.nd (pi_list (pv 0)) (blkOk_by (own := [("cell", 2)]) (N := n_law_bag) (sc := defScope s_law_bag) (by decide +kernel)) (fun _ _ _ _ _ => (pg_name (i := 2) sc_law_bag.nd rfl (Or.inl rfl))) (fun _ _ _ _ _ => pts_nil) (fun _ _ _ _ _ => (pe_callTy call_int1 (by rfl) T.m_int (by decide +kernel) (pa_cons (pv 2) pa_nil)))) (pa_cons pe_int (pa_cons pe_int (pa_cons (pv 1) pa_nil))))))))), ?_⟩
    refine ⟨_, rfl, a, rfl, ⟨_, hS⟩, for_list (K := K) (a := a) (xs := ns.map V.int) (fun i σ H' => H' = H ∧ ∃ (seed : Int) (o : Option V), 0 ≤ seed ∧ σ = [some (.ref a), some (.int seed), o])
      ⟨rfl, 7, none, by decide, rfl⟩ (fun i σ H' _ ⟨e, _⟩ => by rw [e]; exact hS) ?_ ?_⟩
    · rintro i y σ H' hi ⟨rfl, seed, o, hs, rfl⟩
      obtain ⟨z, hz, rfl⟩ := get_map_int hi
      refine ⟨_, rfl, _, _, rfl, rfl, .inr (by decide), _, rfl, .inl ⟨_, rfl, _, _, rfl, rfl, by show (0 : Int) < 1000003; decide, _, _, rfl, rfl, _, _, rfl, rfl, .inl ⟨_, rfl, _, _, rfl, rfl, m31, ?_⟩⟩⟩
      exact ⟨rfl, _, _, Int.emod_nonneg _ (by decide), rfl⟩
    · rintro σ H' ⟨rfl, seed, o, hs, rfl⟩
      refine ⟨_, rfl, a, rfl, ⟨_, hS⟩, fun D hD => lc_list (K := K) (a := a) (xs := ns.map V.int) (fun i H2 => H2 = upd H' D (.lst ((ns.take i).map V.int))) rfl
        (fun i H2 _ e => by rw [e]; exact ((Fr.refl [] H').new hD).l hS) ?_ ?_⟩
      · rintro i y H2 hi rfl
        obtain ⟨z, hz, rfl⟩ := get_map_int hi
        refine ⟨rfl, _, rfl, .inl ⟨_, rfl, _, upd_same, ?_, ?_⟩⟩
        · rw [List.length_map, List.length_take]
          exact Nat.lt_of_le_of_lt (Nat.le_trans (Nat.min_le_right _ _) hlen) (by decide)
        · rw [upd_upd, take_succ hz, List.map_append]
          rfl
      · rintro H2 rfl
        rw [List.length_map, List.take_length]
        refine ⟨_, rfl, by show 4 ≤ sizeLine; decide, fun l hl => ?_⟩
        have hlD : D ≠ l := ne_of_none upd_same hl
        refine k l D _ ?_ hD (((Fr.refl [] H').new hD).new hl) ⟨ns, 0, 0, seed, upd_same, by rw [upd_ne hlD]; exact upd_same, by decide, by decide, hs⟩
        exact ((Fr.refl [] H').new hD).free hl
end
section
variable {P : Program} {w : World} {K : PySem.W.Frag} {mg : Str → Option Value} {base : Heap} {CB : Addr}
theorem ok_law_word {f : Addr} {fd : FuncData} (F : Fun K "_law_word" "_law_word" s_law_word f fd) (T : Blt mg) (F_law_take : FnB P w K mg base CX0 1 "_law_take" ["bag", "many"] spTake) : FnOk P w K mg base CX0 2 f fd ["bag"] spWord := by
  refine F.ok sc_law_word (fun vs H Q E h => ?_) (fun cdv A outer s H vs Q E hr h => ?_)
  · obtain ⟨b, c, rfl, _⟩ := h
    rfl
  · obtain ⟨b, c, rfl, hB, k⟩ := h
    refine ⟨_, (pss_cons (ps_set (i := 1) sc_law_word.nd rfl (Or.inl rfl) pe_str)
    (pss_cons (ps_set (i := 1) sc_law_word.nd rfl (Or.inl rfl) (pe_op op_add_str (pv 1) pe_str))
    (pss_cons (ps_set (i := 2) sc_law_word.nd rfl (Or.inl rfl) pe_str)
    (pss_cons (ps_for PassesOwn.never rfl (pi_range1 (by rfl) T.m_range (pa_cons (pe_op op_add pe_int (pe_callF F_law_take (hr.mono (by decide)) rfl pass0 (pa_cons (pv 0) (pa_cons pe_int pa_nil)))) pa_nil)) (pg_name (i := 3) sc_law_word.nd rfl (Or.inl rfl))
      (pss_one (ps_set (i := 2) sc_law_word.nd rfl (Or.inl rfl) (pe_op op_add_str (pv 2) (pe_ix ix_str (pv 1) (pe_callF F_law_take (hr.mono (by decide)) rfl pass0 (pa_cons (pv 0) (pa_cons (pe_callB call_len_str (by rfl) T.m_len (by decide +kernel) (pa_cons (pv 1) pa_nil)) pa_nil))) (fun _ _ => rfl))))))
    (pss_one (ps_ret (pv 2))))))), ?_⟩
    refine ⟨_, rfl, _, _, rfl, rfl, by decide +kernel, ?_⟩
    generalize hsg : Str.ofString _ ++ Str.ofString _ = sg
    have h1 : 0 < (tl sg).length ∧ (tl sg).length ≤ 1000 := by
      rw [← hsg, tl_append, tl_ofString, tl_ofString]
      decide
    have h2 : ∀ c ∈ tl sg, c < 128 := by
      rw [← hsg, tl_append, tl_ofString, tl_ofString]
      decide
    have hl : sg.length = (tl sg).length := len_tl sg
    clear hsg
    refine ⟨_, rfl, b, c, 6, rfl, hB, by decide, by decide, fun t H1 t0 t1 e1 B1 => ⟨_, _, rfl, rfl, ?_⟩⟩
    obtain ⟨tn, rfl⟩ : ∃ q : Nat, t = (q : Int) := ⟨t.toNat, by omega⟩
    refine ⟨_, rfl, (rg_ok (n := 1 + tn) (by omega)).1, (rg_ok (n := 1 + tn) (by omega)).2, for_rng (n := 1 + tn)
      (fun i σ H' => Fr [b] H H' ∧ BagC H' b c ∧ ∃ (y : Str) (o : Option V), TxS i y ∧ σ = [some (.ref b), some (.str sg), some (.str y), o]) ⟨e1, B1, Str.ofString "", none, .lit (by decide) (by decide), rfl⟩ ?_ ?_⟩
    · rintro i σ H2 hi ⟨e2, B2, y, o, hy, rfl⟩
      refine ⟨_, rfl, _, rfl, _, rfl, _, rfl, _, rfl, line_le (by omega), b, c, _, rfl, B2, by omega, log_ok (Nat.lt_of_le_of_lt (m := 1000) (by omega) (by decide)), fun t H3 t0 t1 e3 B3 => ?_⟩
      have hlt : t.toNat < (tl sg).length := by omega
      have hc := List.getElem?_eq_getElem hlt
      generalize (tl sg)[t.toNat] = ch at hc
      refine ⟨_, _, ch, rfl, rfl, line_le (by omega), at_int t0 hc, _, _, rfl, rfl, line_le ?_, ?_⟩
      · have := hy.1
        show y.length + 1 ≤ _
        omega
      · have hch : TxS 1 (⟨#[ch]⟩ : Str) := ⟨Nat.le_refl 1, fun d hd => by
          have : d = ch := by simpa using hd
          rw [this]
          exact h2 _ (List.mem_of_getElem? hc)⟩
        exact ⟨e2.trans e3, B3, _, _, hy.app hch, rfl⟩
    · rintro σ H2 ⟨e2, B2, y, o, hy, rfl⟩
      exact ⟨_, rfl, k y H2 (hy.more (by omega)) e2 B2⟩
theorem ok_law_spoilt {f : Addr} {fd : FuncData} (F : Fun K "_law_spoilt" "_law_spoilt" s_law_spoilt f fd) (T : Blt mg) (F_law_take : FnB P w K mg base CX0 1 "_law_take" ["bag", "many"] spTake) : FnOk P w K mg base CX0 2 f fd ["bag", "text"] spSpoilt := by
  refine F.ok sc_law_spoilt (fun vs H Q E h => ?_) (fun cdv A outer s H vs Q E hr h => ?_)
  · obtain ⟨b, c, n, y, rfl, _⟩ := h
    rfl
  · obtain ⟨b, c, n, y, rfl, hB, hy, hn, k⟩ := h
    refine ⟨_, (pss_cons (ps_set (i := 2) sc_law_spoilt.nd rfl (Or.inl rfl) (pe_callF F_law_take (hr.mono (by decide)) rfl pass0 (pa_cons (pv 0) (pa_cons pe_int pa_nil))))
    (pss_cons (ps_set (i := 3) sc_law_spoilt.nd rfl (Or.inl rfl) (pe_callF F_law_take (hr.mono (by decide)) rfl pass0 (pa_cons (pv 0) (pa_cons (pe_op op_add (pe_callB call_len_str (by rfl) T.m_len (by decide +kernel) (pa_cons (pv 1) pa_nil)) pe_int) pa_nil))))
    (pss_cons (ps_setLc (i := 4) (own := [("k", 6)]) rfl sc_law_spoilt.nd rfl rfl (sw_true rfl rfl rfl (by decide +kernel)) (pi_range1 (by rfl) T.m_range (pa_cons (pe_callB call_len_str (by rfl) T.m_len (by decide +kernel) (pa_cons (pv 1) pa_nil)) pa_nil)) (blkOk_by (own := [("k", 6)]) (N := n_law_spoilt) (sc := defScope s_law_spoilt) (by decide +kernel)) (fun _ _ _ _ _ => (pg_name (i := 6) sc_law_spoilt.nd rfl (Or.inl rfl))) (fun _ _ _ _ _ => pts_one (pt_cmpR op_eq (pe_ix ix_str (pv 1) (pv 6) (fun _ _ => rfl)) pe_str (nomark _))) (fun _ _ _ _ _ => (pv 6)))
    (pss_cons (ps_setLc (i := 5) (own := [("k", 6)]) rfl sc_law_spoilt.nd rfl rfl (sw_true rfl rfl rfl (by decide +kernel)) (pi_range1 (by rfl) T.m_range (pa_cons (pe_callB call_len_str (by rfl) T.m_len (by decide +kernel) (pa_cons (pv 1) pa_nil)) pa_nil)) (blkOk_by (own := [("k", 6)]) (N := n_law_spoilt) (sc := defScope s_law_spoilt) (by decide +kernel)) (fun _ _ _ _ _ => (pg_name (i := 6) sc_law_spoilt.nd rfl (Or.inl rfl))) (fun _ _ _ _ _ => pts_one (pt_cmpR op_eq (pe_ix ix_str (pv 1) (pv 6) (fun _ _ => rfl)) pe_str (nomark _))) (fun _ _ _ _ _ => (pv 6)))
    (pss_cons (ps_if (PW.pt (pw_and (pt_cmpR op_eq (pv 2) pe_int (nomark _)) (pw_and1 (pt_cmpR op_gt (pe_callB call_len_seq (by rfl) T.m_len (by decide +kernel) (pa_cons (pv 4) pa_nil)) pe_int (nomark _)))))
      (pss_cons (ps_set (i := 3) sc_law_spoilt.nd rfl (Or.inl rfl) (pe_ix ix_list (pv 4) (pe_callF F_law_take (hr.mono (by decide)) rfl pass0 (pa_cons (pv 0) (pa_cons (pe_callB call_len_seq (by rfl) T.m_len (by decide +kernel) (pa_cons (pv 4) pa_nil)) pa_nil))) (fun _ _ => rfl)))
      (pss_one (ps_ret (pe_op op_add_str (pe_op op_add_str (pe_slice sl_str (pv 1) po_none (po_some (pv 3))) pe_str) (pe_slice sl_str (pv 1) (po_some (pv 3)) po_none)))))
      pss_nil)
    (pss_cons (ps_if (PW.pt (pw_and (pt_cmpR op_eq (pv 2) pe_int (nomark _)) (pw_and1 (pt_cmpR op_gt (pe_callB call_len_seq (by rfl) T.m_len (by decide +kernel) (pa_cons (pv 4) pa_nil)) pe_int (nomark _)))))
      (pss_cons (ps_set (i := 3) sc_law_spoilt.nd rfl (Or.inl rfl) (pe_op op_add (pe_ix ix_list (pv 4) (pe_callF F_law_take (hr.mono (by decide)) rfl pass0 (pa_cons (pv 0) (pa_cons (pe_callB call_len_seq (by rfl) T.m_len (by decide +kernel) (pa_cons (pv 4) pa_nil)) pa_nil))) (fun _ _ => rfl)) pe_int))
      (pss_one (ps_ret (pe_op op_add_str (pe_op op_add_str (pe_slice sl_str (pv 1) po_none (po_some (pv 3))) pe_str) (pe_slice sl_str (pv 1) (po_some (pv 3)) po_none)))))
      pss_nil)
    (pss_cons (ps_if (PW.pt (pw_and (pt_cmpR op_eq (pv 2) pe_int (nomark _)) (pw_and1 (pt_cmpR op_gt (pe_callB call_len_seq (by rfl) T.m_len (by decide +kernel) (pa_cons (pv 5) pa_nil)) pe_int (nomark _)))))
      (pss_cons (ps_set (i := 3) sc_law_spoilt.nd rfl (Or.inl rfl) (pe_ix ix_list (pv 5) (pe_callF F_law_take (hr.mono (by decide)) rfl pass0 (pa_cons (pv 0) (pa_cons (pe_callB call_len_seq (by rfl) T.m_len (by decide +kernel) (pa_cons (pv 5) pa_nil)) pa_nil))) (fun _ _ => rfl)))
      (pss_one (ps_ret (pe_op op_add_str (pe_op op_add_str (pe_slice sl_str (pv 1) po_none (po_some (pv 3))) pe_str) (pe_slice sl_str (pv 1) (po_some (pv 3)) po_none)))))
      pss_nil)
    (pss_cons (ps_if (PW.pt (pw_and (pt_cmpR op_eq (pv 2) pe_int (nomark _)) (pw_and1 (pt_cmpR op_gt (pe_callB call_len_seq (by rfl) T.m_len (by decide +kernel) (pa_cons (pv 4) pa_nil)) pe_int (nomark _)))))
      (pss_cons (ps_set (i := 3) sc_law_spoilt.nd rfl (Or.inl rfl) (pe_ix ix_list (pv 4) (pe_callF F_law_take (hr.mono (by decide)) rfl pass0 (pa_cons (pv 0) (pa_cons (pe_callB call_len_seq (by rfl) T.m_len (by decide +kernel) (pa_cons (pv 4) pa_nil)) pa_nil))) (fun _ _ => rfl)))
      (pss_one (ps_ret (pe_op op_add_str (pe_op op_add_str (pe_slice sl_str (pv 1) po_none (po_some (pv 3))) (pe_ix ix_list (pe_lst (pa_cons pe_str (pa_cons pe_str (pa_cons pe_str (pa_cons pe_str pa_nil))))) (pe_callF F_law_take (hr.mono (by decide)) rfl pass0 (pa_cons (pv 0) (pa_cons pe_int pa_nil))) (fun _ _ => rfl))) (pe_slice sl_str (pv 1) (po_some (pv 3)) po_none)))))
      pss_nil)
    (pss_cons (ps_if (pt_cmpR op_eq (pv 2) pe_int (nomark _))
      (pss_one (ps_ret (pe_op op_add_str (pe_op op_add_str (pe_slice sl_str (pv 1) po_none (po_some (pv 3))) pe_str) (pe_slice sl_str (pv 1) (po_some (pv 3)) po_none))))
      pss_nil)
    (pss_cons (ps_if (pt_cmpR op_eq (pv 2) pe_int (nomark _))
      (pss_one (ps_ret (pe_op op_add_str (pe_op op_add_str (pe_slice sl_str (pv 1) po_none (po_some (pv 3))) pe_str) (pe_slice sl_str (pv 1) (po_some (pv 3)) po_none))))
      pss_nil)
    (pss_cons (ps_if (pt_cmpR op_eq (pv 2) pe_int (nomark _))
      (pss_one (ps_ret (pe_op op_add_str (pe_slice sl_str (pv 1) po_none (po_some (pv 3))) (pe_slice sl_str (pv 1) (po_some (pe_op op_add (pv 3) pe_int)) po_none))))
      pss_nil)
    (pss_cons (ps_if (pt_cmpR op_eq (pv 2) pe_int (nomark _))
      (pss_one (ps_ret (pe_slice sl_str (pv 1) po_none (po_some (pe_un un_neg pe_int)))))
      pss_nil)
    (pss_one (ps_ret (pe_op op_add_str (pv 1) (pe_ix ix_list (pe_lst (pa_cons pe_str (pa_cons pe_str (pa_cons pe_str (pa_cons pe_str (pa_cons pe_str (pa_cons pe_str pa_nil))))))) (pe_callF F_law_take (hr.mono (by decide)) rfl pass0 (pa_cons (pv 0) (pa_cons pe_int pa_nil))) (fun _ _ => rfl))))))))))))))))), ?_⟩
    have yl := hy.1
    refine ⟨_, rfl, b, c, 9, rfl, hB, by decide, by decide, fun kind H1 t0 t1 e1 B1 => ?_⟩
    refine ⟨_, rfl, _, rfl, _, rfl, line_le (by omega), _, _, rfl, rfl, b, c, _, rfl, B1, by omega, log_ok (Nat.lt_of_le_of_lt (m := 1000001) (by omega) (by decide)), fun at_ H2 a0 a1 e2 B2 => ?_⟩
    have hfit : ∀ i, i < y.length → ∃ ch, atI y.cps.toList (i : Int) = some ch := fun i hi => ⟨_, atI_nat (List.getElem?_eq_getElem (by rw [len_tl] at hi; exact hi))⟩
    refine ⟨_, rfl, _, rfl, line_le (by omega), _, rfl, (rg_ok (by omega)).1, (rg_ok (by omega)).2, fun D hD => lc_rng (n := y.length) (fun i H3 => ∃ fs : List Int, fs.length ≤ i ∧ H3 = upd H2 D (.lst (fs.map V.int))) ⟨[], Nat.le_refl _, rfl⟩ ?_ ?_⟩
    · rintro i H3 hi ⟨fs, hf, rfl⟩
      obtain ⟨ch, hc⟩ := hfit i hi
      refine ⟨rfl, _, rfl, _, rfl, _, _, ch, rfl, rfl, line_le (by omega), hc, rfl, _, rfl, dec_iff (fun _ => ⟨_, rfl, _, upd_same, ?_, fs ++ [(i : Int)], ?_, ?_⟩) fun _ => ⟨fs, by omega, rfl⟩⟩
      · rw [List.length_map]
        exact Nat.lt_of_le_of_lt (show fs.length ≤ 1000000 by omega) (by decide)
      · rw [List.length_append, List.length_singleton]
        omega
      · rw [upd_upd, List.map_append]
        rfl
    rintro H3 ⟨fs, hf, rfl⟩
    have B3 := B2.new (o := .lst (fs.map V.int)) hD
    have g3 : (upd H2 D (.lst (fs.map V.int))) D = some (.lst (fs.map V.int)) := upd_same
    have e3 : Fr [b] H (upd H2 D (.lst (fs.map V.int))) := (e1.trans e2).new hD
    generalize upd H2 D (.lst (fs.map V.int)) = H3 at B3 g3 e3 ⊢
    refine ⟨_, rfl, _, rfl, line_le (by omega), _, rfl, (rg_ok (by omega)).1, (rg_ok (by omega)).2, fun D2 hD2 => lc_rng (n := y.length) (fun i H4 => ∃ bs : List Int, bs.length ≤ i ∧ H4 = upd H3 D2 (.lst (bs.map V.int))) ⟨[], Nat.le_refl _, rfl⟩ ?_ ?_⟩
    · rintro i H4 hi ⟨bs, hf2, rfl⟩
      obtain ⟨ch, hc⟩ := hfit i hi
      refine ⟨rfl, _, rfl, _, rfl, _, _, ch, rfl, rfl, line_le (by omega), hc, rfl, _, rfl, dec_iff (fun _ => ⟨_, rfl, _, upd_same, ?_, bs ++ [(i : Int)], ?_, ?_⟩) fun _ => ⟨bs, by omega, rfl⟩⟩
      · rw [List.length_map]
        exact Nat.lt_of_le_of_lt (show bs.length ≤ 1000000 by omega) (by decide)
      · rw [List.length_append, List.length_singleton]
        omega
      · rw [upd_upd, List.map_append]
        rfl
    rintro H4 ⟨bs, hf2, rfl⟩
    have B4 := B3.new (o := .lst (bs.map V.int)) hD2
    have g5 : (upd H3 D2 (.lst (bs.map V.int))) D2 = some (.lst (bs.map V.int)) := upd_same
    have g4 : (upd H3 D2 (.lst (bs.map V.int))) D = some (.lst (fs.map V.int)) := by rw [upd_ne (ne_of_none g3 hD2)]; exact g3
    have e4 : Fr [b] H (upd H3 D2 (.lst (bs.map V.int))) := e3.new hD2
    generalize upd H3 D2 (.lst (bs.map V.int)) = H4 at B4 g4 g5 e4 ⊢
    clear B3 g3 e3 B2 B1 e1 e2 hD hD2
    have nD : ∀ {D : Addr} {l : List Int}, H4 D = some (.lst (l.map V.int)) → D ≠ b := fun {D l} h => by
      obtain ⟨i, v, s, hb⟩ := B4.b
      refine ne_of h hb fun z => ?_
      have z2 := HO.lst.inj z
      cases l with
      | nil => cases z2
      | cons x r => cases z2
    have any : ∀ {v : Int} (R : Bool → Hp → Prop), (∀ c, R c H4) → tTest (tOp rEq (tVar 2) (tC (V.int v))) [some (.ref b), some (.str y), some (.int kind), some (.int at_), some (.ref D), some (.ref D2), none] H4 R := fun R h => ⟨_, rfl, rfl, _, rfl, h _⟩
    -- text[:i] + m + text[i:]
    have both : ∀ (at_ : Int) (m : Str) (H' : Hp), TxS 3 m → Fr [b] H H' → BagC H' b c → Q (.str (cutS y none (some at_) ++ m ++ cutS y (some at_) none)) H' := fun at_ m H' hm e B =>
      k _ H' (((hy.cut none (some at_)).app hm |>.app (hy.cut (some at_) none)).more (by omega)) e B
    have len1 : ∀ (at_ : Int) (m : Str), TxS 3 m → (cutS y none (some at_)).length + m.length ≤ sizeLine := fun at_ m hm => line_le (by
      have h1 := (hy.cut none (some at_)).1
      have h2 := hm.1
      omega)
    have len2 : ∀ (at_ : Int) (m : Str), TxS 3 m → (cutS y none (some at_) ++ m).length + (cutS y (some at_) none).length ≤ sizeLine := fun at_ m hm => line_le (by
      have h1 := (hy.cut none (some at_)).1
      have h2 := hm.1
      have h3 := (hy.cut (some at_) none).1
      rw [str_app_len]
      omega)
    have lit3 : ∀ {s : String}, ((s.toList.map Char.toNat).length ≤ 3 ∧ ∀ c ∈ s.toList.map Char.toNat, c < 128) → TxS 3 (Str.ofString s) := fun {s} h => .lit h.1 h.2
    have yz : y.length ≤ sizeLine := line_le (by omega)
    -- kind 0
    refine tAnd_any (p := 0 < fs.length) any (fun R hT hF => ⟨_, rfl, _, _, rfl, .inl (SqL.of g4), _, _, rfl, rfl, _, rfl, dec_R (fun h => hT (by rw [List.length_map] at h; omega)) hF⟩) (fun pos => iteT ?_) (iteF ?_)
    · refine ⟨_, rfl, _, rfl, _, rfl, _, _, rfl, .inl (SqL.of g4), b, c, _, rfl, B4, by rw [List.length_map]; omega, log_ok (Nat.lt_of_le_of_lt (m := 1000001) (by rw [List.length_map]; omega) (by decide)), fun t H5 t0 t1 e5 B5 => ?_⟩
      rw [List.length_map] at t1
      have hti : t.toNat < fs.length := by omega
      refine ⟨_, _, _, _, rfl, rfl, SqL.of (e5 _ _ g4 (by simpa using nD g4)), at_int t0 (by rw [List.getElem?_map, List.getElem?_eq_getElem hti]; rfl), ?_⟩
      exact ⟨_, rfl, _, rfl, _, rfl, _, rfl, yz, _, _, rfl, rfl, len1 _ _ (lit3 (by decide)), _, rfl, _, rfl, _, rfl, _, rfl, yz, _, _, rfl, rfl, len2 _ _ (lit3 (by decide)), both _ _ _ (lit3 (by decide)) (e4.trans e5) B5⟩
    -- kind 1
    refine tAnd_any (p := 0 < fs.length) any (fun R hT hF => ⟨_, rfl, _, _, rfl, .inl (SqL.of g4), _, _, rfl, rfl, _, rfl, dec_R (fun h => hT (by rw [List.length_map] at h; omega)) hF⟩) (fun pos => iteT ?_) (iteF ?_)
    · refine ⟨_, rfl, _, rfl, _, rfl, _, _, rfl, .inl (SqL.of g4), b, c, _, rfl, B4, by rw [List.length_map]; omega, log_ok (Nat.lt_of_le_of_lt (m := 1000001) (by rw [List.length_map]; omega) (by decide)), fun t H5 t0 t1 e5 B5 => ?_⟩
      rw [List.length_map] at t1
      have hti : t.toNat < fs.length := by omega
      refine ⟨_, _, _, _, rfl, rfl, SqL.of (e5 _ _ g4 (by simpa using nD g4)), at_int t0 (by rw [List.getElem?_map, List.getElem?_eq_getElem hti]; rfl), ?_⟩
      exact ⟨_, _, rfl, rfl, _, rfl, _, rfl, _, rfl, _, rfl, yz, _, _, rfl, rfl, len1 _ _ (lit3 (by decide)), _, rfl, _, rfl, _, rfl, _, rfl, yz, _, _, rfl, rfl, len2 _ _ (lit3 (by decide)), both _ _ _ (lit3 (by decide)) (e4.trans e5) B5⟩
    -- kind 2
    refine tAnd_any (p := 0 < bs.length) any (fun R hT hF => ⟨_, rfl, _, _, rfl, .inl (SqL.of g5), _, _, rfl, rfl, _, rfl, dec_R (fun h => hT (by rw [List.length_map] at h; omega)) hF⟩) (fun pos => iteT ?_) (iteF ?_)
    · refine ⟨_, rfl, _, rfl, _, rfl, _, _, rfl, .inl (SqL.of g5), b, c, _, rfl, B4, by rw [List.length_map]; omega, log_ok (Nat.lt_of_le_of_lt (m := 1000001) (by rw [List.length_map]; omega) (by decide)), fun t H5 t0 t1 e5 B5 => ?_⟩
      rw [List.length_map] at t1
      have hti : t.toNat < bs.length := by omega
      refine ⟨_, _, _, _, rfl, rfl, SqL.of (e5 _ _ g5 (by simpa using nD g5)), at_int t0 (by rw [List.getElem?_map, List.getElem?_eq_getElem hti]; rfl), ?_⟩
      exact ⟨_, rfl, _, rfl, _, rfl, _, rfl, yz, _, _, rfl, rfl, len1 _ _ (lit3 (by decide)), _, rfl, _, rfl, _, rfl, _, rfl, yz, _, _, rfl, rfl, len2 _ _ (lit3 (by decide)), both _ _ _ (lit3 (by decide)) (e4.trans e5) B5⟩
    -- kind 3
    refine tAnd_any (p := 0 < fs.length) any (fun R hT hF => ⟨_, rfl, _, _, rfl, .inl (SqL.of g4), _, _, rfl, rfl, _, rfl, dec_R (fun h => hT (by rw [List.length_map] at h; omega)) hF⟩) (fun pos => iteT ?_) (iteF ?_)
    · refine ⟨_, rfl, _, rfl, _, rfl, _, _, rfl, .inl (SqL.of g4), b, c, _, rfl, B4, by rw [List.length_map]; omega, log_ok (Nat.lt_of_le_of_lt (m := 1000001) (by rw [List.length_map]; omega) (by decide)), fun t H5 t0 t1 e5 B5 => ?_⟩
      rw [List.length_map] at t1
      have hti : t.toNat < fs.length := by omega
      refine ⟨_, _, _, _, rfl, rfl, SqL.of (e5 _ _ g4 (by simpa using nD g4)), at_int t0 (by rw [List.getElem?_map, List.getElem?_eq_getElem hti]; rfl), ?_⟩
      refine ⟨_, rfl, _, rfl, _, rfl, _, rfl, yz, by show 4 ≤ sizeLine; decide, fun q hq => ?_⟩
      generalize hxs : [V.str _, V.str _, V.str _, V.str _] = xs
      have B6 := B5.new (o := .lst xs) hq
      have g6 : (upd H5 q (.lst xs)) q = some (.lst xs) := upd_same
      have e6 := (e4.trans e5).new (o := .lst xs) hq
      generalize upd H5 q (.lst xs) = H6 at B6 g6 e6 ⊢
      refine ⟨_, rfl, b, c, 4, rfl, B6, by decide, by decide, fun u H7 u0 u1 e7 B7 => ?_⟩
      have nq : q ≠ b := by
        obtain ⟨i, v, s, hb⟩ := B6.b
        refine ne_of g6 hb fun z => ?_
        have z2 := HO.lst.inj z
        rw [← hxs] at z2
        cases z2
      have pick : ∃ m, atI xs u = some (.str m) ∧ TxS 3 m := by
        have hu : u = 0 ∨ u = 1 ∨ u = 2 ∨ u = 3 := by omega
        rw [← hxs]
        rcases hu with rfl | rfl | rfl | rfl <;> exact ⟨_, rfl, lit3 (by decide)⟩
      obtain ⟨m, hm, h3⟩ := pick
      exact ⟨_, _, _, _, rfl, rfl, SqL.of (e7 _ _ g6 (by simpa using nq)), hm, _, _, rfl, rfl, len1 _ _ h3, _, rfl, _, rfl, _, rfl, _, rfl, yz, _, _, rfl, rfl, len2 _ _ h3, both _ _ _ h3 (e6.trans e7) B7⟩
    -- kinds 4, 5
    refine any _ fun c4 => bool_iff (fun _ => ?_) fun _ => any _ fun c5 => bool_iff (fun _ => ?_) fun _ => any _ fun c6 => bool_iff (fun _ => ?_) fun _ => any _ fun c7 => bool_iff (fun _ => ?_) fun _ => ?_
    · exact ⟨_, rfl, _, rfl, _, rfl, _, rfl, yz, _, _, rfl, rfl, len1 _ _ (lit3 (by decide)), _, rfl, _, rfl, _, rfl, _, rfl, yz, _, _, rfl, rfl, len2 _ _ (lit3 (by decide)), both _ _ _ (lit3 (by decide)) e4 B4⟩
    · exact ⟨_, rfl, _, rfl, _, rfl, _, rfl, yz, _, _, rfl, rfl, len1 _ _ (lit3 (by decide)), _, rfl, _, rfl, _, rfl, _, rfl, yz, _, _, rfl, rfl, len2 _ _ (lit3 (by decide)), both _ _ _ (lit3 (by decide)) e4 B4⟩
    · have h1 := (hy.cut none (some at_)).1
      have h2 := (hy.cut (some (at_ + 1)) none).1
      exact ⟨_, rfl, _, rfl, _, rfl, _, rfl, yz, _, rfl, _, rfl, _, _, rfl, rfl, _, rfl, _, rfl, yz, _, _, rfl, rfl, line_le (by omega), k _ H4 (((hy.cut none (some at_)).app (hy.cut (some (at_ + 1)) none)).more (by omega)) e4 B4⟩
    · exact ⟨_, rfl, _, rfl, _, rfl, _, rfl, yz, k _ H4 ((hy.cut none (some (-1))).more (by omega)) e4 B4⟩
    · refine ⟨_, rfl, by show 6 ≤ sizeLine; decide, fun q hq => ?_⟩
      generalize hxs : [V.str _, V.str _, V.str _, V.str _, V.str _, V.str _] = xs
      have B6 := B4.new (o := .lst xs) hq
      have g6 : (upd H4 q (.lst xs)) q = some (.lst xs) := upd_same
      have e6 := e4.new (o := .lst xs) hq
      generalize upd H4 q (.lst xs) = H6 at B6 g6 e6 ⊢
      refine ⟨_, rfl, b, c, 6, rfl, B6, by decide, by decide, fun u H7 u0 u1 e7 B7 => ?_⟩
      have nq : q ≠ b := by
        obtain ⟨i, v, s, hb⟩ := B6.b
        refine ne_of g6 hb fun z => ?_
        have z2 := HO.lst.inj z
        rw [← hxs] at z2
        cases z2
      have pick : ∃ m, atI xs u = some (.str m) ∧ TxS 3 m := by
        have hu : u = 0 ∨ u = 1 ∨ u = 2 ∨ u = 3 ∨ u = 4 ∨ u = 5 := by omega
        rw [← hxs]
        rcases hu with rfl | rfl | rfl | rfl | rfl | rfl <;> exact ⟨_, rfl, lit3 (by decide)⟩
      obtain ⟨m, hm, h3⟩ := pick
      have h2 := h3.1
      exact ⟨_, _, _, _, rfl, rfl, SqL.of (e7 _ _ g6 (by simpa using nq)), hm, _, _, rfl, rfl, line_le (by omega), k _ H7 ((hy.app h3).more (by omega)) (e6.trans e7) B7⟩
end
section
variable {P : Program} {w : World} {K : PySem.W.Frag} {mg : Str → Option Value} {base : Heap} {CB : Addr}
theorem ok_law_same {f : Addr} {fd : FuncData} (F : Fun K "_law_same" "_law_same" s_law_same f fd) (T : Blt mg) : FnG P w K mg base CX0 1 f fd ["left", "right"] (spSame K) := by
  refine F.okG sc_law_same (fun vs H Q E h => ?_) (fun cdv A outer s H vs Q E hr hgu h => ?_)
  · obtain ⟨a, b, d, rfl, _⟩ := h
    rfl
  · obtain ⟨a, b, d, rfl, h1, h2, h3, h4, h5, k⟩ := h
    have hu66 : (A.deeper (envOfC "_law_same" (defScope s_law_same) s.heap.objs.size f cdv)).units + 66 < cLine := by have := hr.un; omega
    refine ⟨_, (pss_one (ps_ret (pe_cmpR op_eq (pe_callB (cr_reprD hgu hu66) (by rfl) T.m_repr (by decide +kernel) (pa_cons (pv 0) pa_nil)) (pe_callB (cr_reprD hgu hu66) (by rfl) T.m_repr (by decide +kernel) (pa_cons (pv 1) pa_nil)) (nomark _)))), ?_⟩
    refine ⟨_, rfl, a, d, rfl, h1, h3, h4, h5, _, rfl, b, d, rfl, h2, h3, h4, h5, rfl, ?_⟩
    rw [decide_eq_true rfl]
    exact k
theorem ok_law_lines {f : Addr} {fd : FuncData} (F : Fun K "_law_lines" "_law_lines" s_law_lines f fd) (T : Blt mg) : FnOk P w K mg base CX0 1 f fd ["text"] (spLines K) := by
  refine F.ok sc_law_lines (fun vs H Q E h => ?_) (fun cdv A outer s H vs Q E hr h => ?_)
  · obtain ⟨l, rfl, _⟩ := h
    rfl
  · obtain ⟨l, rfl, hl, k⟩ := h
    refine ⟨_, (pss_cons (ps_set (i := 1) sc_law_lines.nd rfl (Or.inl rfl) (pe_lst pa_nil))
    (pss_cons (ps_set (i := 2) sc_law_lines.nd rfl (Or.inl rfl) (pe_lst pa_nil))
    (pss_cons (ps_set (i := 3) sc_law_lines.nd rfl (Or.inl rfl) pe_str)
    (pss_cons (ps_set (i := 4) sc_law_lines.nd rfl (Or.inl rfl) pe_bl)
    (pss_cons (ps_for PassesOwn.never rfl (pi_str (pv 0)) (pg_name (i := 5) sc_law_lines.nd rfl (Or.inl rfl))
      (pss_cons (ps_set (i := 4) sc_law_lines.nd rfl (Or.inl rfl) (pe_cmpR op_ne (pv 5) pe_str (nomark _)))
      (pss_one (ps_if (PW.pt (pw_or (pt_cmpR op_eq (pv 5) pe_str (nomark _)) (pw_or1 (pt_cmpR op_eq (pv 5) pe_str (nomark _)))))
        (pss_cons (ps_if (pt_cmpR op_eq (pv 3) pe_str (nomark _))
          (pss_one (ps_ret (pe_lst (pa_cons (pe_op op_add (pe_callB call_len_seq (by rfl) T.m_len (by decide +kernel) (pa_cons (pv 1) pa_nil)) pe_int) (pa_cons (pv 1) pa_nil)))))
          pss_nil)
        (pss_cons (ps_expr (pe_bm PySem.F.plainAttrs_list PySem.F.slot_list_append PySem.F.type_list_append mt_append (pv 2) (pa_cons (pv 3) pa_nil)))
        (pss_cons (ps_set (i := 3) sc_law_lines.nd rfl (Or.inl rfl) pe_str)
        (pss_one (ps_if (pt_cmpR op_eq (pv 5) pe_str (nomark _))
          (pss_cons (ps_expr (pe_bm PySem.F.plainAttrs_list PySem.F.slot_list_append PySem.F.type_list_append mt_append (pv 1) (pa_cons (pe_callTy call_list_of (by rfl) T.m_list (by decide +kernel) (pa_cons (pv 2) pa_nil)) pa_nil)))
          (pss_one (ps_set (i := 2) sc_law_lines.nd rfl (Or.inl rfl) (pe_lst pa_nil))))
          pss_nil)))))
        (pss_one (ps_if (pt_chain op_le_str op_le_str pe_str (pv 5) pe_str)
          (pss_one (ps_set (i := 3) sc_law_lines.nd rfl (Or.inl rfl) (pe_op op_add_str (pv 3) (pv 5))))
          (pss_one (ps_ret (pe_lst (pa_cons (pe_op op_add (pe_callB call_len_seq (by rfl) T.m_len (by decide +kernel) (pa_cons (pv 1) pa_nil)) pe_int) (pa_cons (pv 1) pa_nil)))))))))))
    (pss_cons (ps_if (pt_val (pv 4))
      (pss_one (ps_ret (pe_lst (pa_cons (pe_op op_add (pe_callB call_len_seq (by rfl) T.m_len (by decide +kernel) (pa_cons (pv 1) pa_nil)) pe_int) (pa_cons (pv 1) pa_nil)))))
      pss_nil)
    (pss_one (ps_ret (pe_lst (pa_cons pe_int (pa_cons (pv 1) pa_nil))))))))))), ?_⟩
    rw [← Lns.scan_prog] at k
    have l0 : Str.ofString "" = mk [] := ext_tl (by rw [tl_ofString]; rfl)
    have small : ∀ {n : Nat}, n ≤ 1000000 → n < sizeLine := fun h => Nat.lt_of_le_of_lt h (by decide)
    have fin : ∀ {pr : Addr} {rows : Lns.Rows} {n : Nat} {z : Addr → Prop} {H' : Hp} {q : Addr}, Lns.scan l [] [] [] false = (n, rows) → Fr [] H H' → RowsZ z H' pr rows → H' q = none → Q (.ref q) (upd H' q (.lst [vN n, .ref pr])) := fun {pr rows n z H' q} e1 e h hq =>
      k q pr _ (e.new hq) (by rw [e1]; exact upd_same) (by rw [e1]; exact (h.fr ((Fr.refl [] _).new hq)).at)
    refine ⟨by show 0 ≤ sizeLine; exact Nat.zero_le _, fun pr hpr => ⟨by show 0 ≤ sizeLine; exact Nat.zero_le _, fun pw hpw => ?_⟩⟩
    refine ⟨_, rfl, _, rfl, for_sgn (l := l) (fun i σ H' => ∃ (rows : Lns.Rows) (ws : List (List Nat)) (w : List Nat) (st : Bool) (pw : Addr) (o : Option V), Lns.scan l [] [] [] false = Lns.scan (l.drop i) rows ws w st ∧ rows.length ≤ i ∧ ws.length ≤ i ∧ w.length ≤ i ∧ Fr [] H H' ∧
        RowsZ (fun r => H r = none ∧ r ≠ pr ∧ r ≠ pw) H' pr rows ∧ H' pw = some (.lst (ws.map vS)) ∧ H pw = none ∧ pw ≠ pr ∧ σ = [some (vS l), some (.ref pr), some (.ref pw), some (vS w), some (.bl st), o]) ?_ ?_ ?_⟩
    · have nwr : pr ≠ pw := ne_of_none upd_same hpw
      have e1 := ((Fr.refl [] H).new (o := .lst []) hpr).new (o := .lst []) hpw
      refine ⟨[], [], [], false, pw, none, rfl, Nat.le_refl _, Nat.le_refl _, Nat.le_refl _, e1, ⟨[], by rw [upd_ne nwr]; exact upd_same, rfl, fun k r ws a => by simp at a, fun r hr => by simp at hr⟩, upd_same, ((Fr.refl [] H).new hpr).free hpw, nwr.symm, rfl⟩
    · rintro i c σ H1 hc ⟨rows, ws, w, st, pw, o, hsc, b1, b2, b3, e1, hR, hW, npw, nwr, rfl⟩
      have hil : i < l.length := (List.getElem?_eq_some_iff.mp hc).1
      have npr : H pr = none := hpr
      have hdr : l.drop i = c :: l.drop (i + 1) := by
        rw [List.drop_eq_getElem_cons hil]
        have := (List.getElem?_eq_some_iff.mp hc).2
        rw [this]
      rw [hdr, Lns.scan_cons] at hsc
      obtain ⟨rs, r1, r2, _⟩ := id hR
      have lr : (rs.map V.ref).length = rows.length := by rw [List.length_map, r2]
      refine ⟨_, rfl, rfl, ?_⟩
      rw [lit1_ne (b := 10) (by decide)]
      dsimp only [gName]
      refine tOr_p (p := c = 32) (q := c = 10) (fun R h => ⟨_, rfl, rfl, _, rfl, by rw [lit1_eq (b := 32) (by decide)]; exact h⟩) (fun R h => ⟨_, rfl, rfl, _, rfl, by rw [lit1_eq (b := 10) (by decide)]; exact h⟩) ?_
      refine dec_iff (fun hc2 => ?_) fun hc2 => ?_
      · rw [if_pos hc2] at hsc
        refine ⟨_, rfl, rfl, _, rfl, lit_if (b := []) (by decide) (fun ew => ?_) fun nw => ?_⟩
        · rw [if_pos ew] at hsc
          refine ⟨_, rfl, _, _, rfl, .inl (SqL.of r1), _, _, rfl, rfl, _, rfl, by show 2 ≤ sizeLine; decide, fun q hq => ?_⟩
          have := fin hsc e1 hR hq
          rw [lr]
          exact this
        · rw [if_neg nw] at hsc
          refine ⟨_, rfl, .inl ⟨rfl, _, SqL.of hW⟩, _, rfl, _, _, _, rfl, rfl, hW, small (by rw [List.length_map]; omega), ?_⟩
          have hW2 : (upd H1 pw (.lst (ws.map vS ++ [vS w]))) pw = some (.lst ((ws ++ [w]).map vS)) := by rw [upd_same, List.map_append]; rfl
          have e2 : Fr [] H (upd H1 pw (.lst (ws.map vS ++ [vS w]))) := e1.put (.inr npw)
          have hR2 := hR.put (q := pw) (o := .lst (ws.map vS ++ [vS w])) nwr (fun r h => h.2.2)
          generalize upd H1 pw (.lst (ws.map vS ++ [vS w])) = H2 at hW2 e2 hR2 ⊢
          refine ⟨_, rfl, rfl, _, rfl, lit_if (a := [c]) (b := [10]) (by decide) (fun ec => ?_) fun nc => ?_⟩
          · have ec : c = 10 := by simpa using ec
            rw [if_pos ec] at hsc
            obtain ⟨rs2, r3, r4, _⟩ := id hR2
            refine ⟨_, rfl, .inl ⟨rfl, _, SqL.of r3⟩, _, rfl, _, _, rfl, .inl (SqL.of hW2), fun q hq => ?_⟩
            have hq2 : (upd H2 q (.lst ((ws ++ [w]).map vS))) q = some (.lst ((ws ++ [w]).map vS)) := upd_same
            have e3 := e2.new (o := .lst ((ws ++ [w]).map vS)) hq
            have hR3 := (hR2.free hq).fr ((Fr.refl [] H2).new (o := .lst ((ws ++ [w]).map vS)) hq)
            have qpr : q ≠ pr := (ne_of_none r3 hq).symm
            have qpw : q ≠ pw := (ne_of_none hW2 hq).symm
            have nq : H q = none := e2.free hq
            have hW3 : (upd H2 q (.lst ((ws ++ [w]).map vS))) pw = some (.lst ((ws ++ [w]).map vS)) := by rw [upd_ne qpw.symm]; exact hW2
            generalize upd H2 q (.lst ((ws ++ [w]).map vS)) = H3 at hq2 e3 hR3 hW3 ⊢
            have hR3 := hR3.imp (z' := fun r => H r = none ∧ r ≠ pr ∧ r ≠ pw) fun r h => h.1
            obtain ⟨rs3, r5, r6, r7⟩ := hR3.snoc hq2 ⟨nq, qpr, qpw⟩ (fun z => z.2.1 rfl)
            refine ⟨_, _, _, rfl, rfl, r5, small (by rw [List.length_map, r6]; omega), ?_⟩
            have e4 : Fr [] H (upd H3 pr (.lst (rs3.map V.ref ++ [.ref q]))) := e3.put (.inr npr)
            refine ⟨by show 0 ≤ sizeLine; exact Nat.zero_le _, fun pw2 hpw2 => ?_⟩
            have n2 : pw2 ≠ pr := (ne_of_none upd_same hpw2).symm
            refine ⟨rows ++ [ws ++ [w]], [], [], false, pw2, some (vS [c]), hsc, by simp; omega, by simp, by simp, e4.new hpw2, ?_, upd_same, e4.free hpw2, n2, ?_⟩
            · exact ((r7.free hpw2).imp fun r h => ⟨h.1.1, h.1.2.1, h.2⟩).fr ((Fr.refl [] _).new hpw2)
            · rw [decide_eq_false (by simpa using ec), l0]
              rfl
          · have nc : c ≠ 10 := fun z => nc (by rw [z])
            rw [if_neg nc] at hsc
            exact ⟨rows, ws ++ [w], [], true, pw, some (vS [c]), hsc, by omega, by simp; omega, by simp, e2, hR2, hW2, npw, nwr, by rw [decide_eq_true nc, l0]; rfl⟩
      · rw [if_neg hc2] at hsc
        have nc : c ≠ 10 := fun z => hc2 (.inr z)
        refine sign_if (c := c) (fun R h => ⟨_, rfl, h⟩) ?_
        cases ho : Lns.okS c with
        | true =>
          rw [if_pos ho] at hsc
          refine ⟨_, rfl, _, rfl, _, _, rfl, rfl, line_le ?_, ?_⟩
          · rw [mk_len, mk_len]
            show w.length + 1 ≤ _
            omega
          · refine ⟨rows, ws, w ++ [c], true, pw, some (vS [c]), hsc, by omega, by omega, by simp; omega, e1, hR, hW, npw, nwr, ?_⟩
            rw [decide_eq_true nc]
            show [some (vS l), some (V.ref pr), some (V.ref pw), some (V.str (mk w ++ mk [c])), some (V.bl true), some (V.str (mk [c]))] = _
            rw [mk_app]
        | false =>
          rw [if_neg (by rw [ho]; decide)] at hsc
          refine ⟨_, rfl, _, _, rfl, .inl (SqL.of r1), _, _, rfl, rfl, _, rfl, by show 2 ≤ sizeLine; decide, fun q hq => ?_⟩
          have := fin hsc e1 hR hq
          rw [lr]
          exact this
    · rintro σ H1 ⟨rows, ws, w, st, pw, o, hsc, b1, b2, b3, e1, hR, hW, npw, nwr, rfl⟩
      rw [List.drop_length, Lns.scan_nil] at hsc
      obtain ⟨rs, r1, r2, _⟩ := id hR
      have lr : (rs.map V.ref).length = rows.length := by rw [List.length_map, r2]
      refine ⟨_, rfl, _, rfl, bool_iff (fun hst => ?_) fun hst => ?_⟩
      · rw [if_pos hst] at hsc
        refine ⟨_, rfl, _, _, rfl, .inl (SqL.of r1), _, _, rfl, rfl, _, rfl, by show 2 ≤ sizeLine; decide, fun q hq => ?_⟩
        have := fin hsc e1 hR hq
        rw [lr]
        exact this
      · rw [if_neg (by rw [hst]; decide)] at hsc
        refine ⟨_, rfl, by show 2 ≤ sizeLine; decide, fun q hq => ?_⟩
        exact fin hsc e1 hR hq
end
/-! _law_outcome(text): slots 0 text 1 told 2 e 3 shown 4 row -/
abbrev s_law_outcome : Stmt := top 16
abbrev n_law_outcome : List Str := ["text", "told", "e", "shown", "row"]
theorem sc_law_outcome : FnScope n_law_outcome ["text"] (defScope s_law_outcome) := ⟨rfl, rfl, rfl, by decide +kernel, rfl, by decide +kernel, by decide +kernel⟩
/-! law(script): slots 0 script 1 bag 2 size 3 text 4 k 5 step 6 texts 7 turn 8 changed 9 place 10 rows 11 due -/
abbrev s_law : Stmt := top 17
abbrev n_law : List Str := ["script", "bag", "size", "text", "k", "step", "texts", "turn", "changed", "place", "rows", "due"]
theorem sc_law : FnScope n_law ["script"] (defScope s_law) := ⟨rfl, rfl, rfl, by decide +kernel, rfl, by decide +kernel, by decide +kernel⟩
structure IsX1 (K : PySem.W.Frag) (C : Addr) : Prop where
  c : PySem.W.findIn K (.ref C) "__class__" = some (some (.builtin "object.__class__"))
  m : PySem.W.mroIn K C (.type "object") = some true
structure Txt2 (P : Program) (K : PySem.W.Frag) (mg : Str → Option Value) (CD CN CM CB : Addr) : Prop extends Txt1 P K mg CB where
  h1 : PySem.W.specialIn K (.builtin "object.__class__") "__get__" = some (some (.builtin "getset_descriptor.__get__"))
  h2 : PySem.W.takesIn K (.builtin "object.__class__") = some true
  g_DealError : mg "DealError" = some (.ref CD)
  g_BadNumber : mg "BadNumber" = some (.ref CN)
  g_BadName : mg "BadName" = some (.ref CM)
  iB : IsX1 K CB
  kBD : PySem.W.kitOne K (.ref CB) (.ref CD) = some true
  kBN : PySem.W.kitOne K (.ref CB) (.ref CN) = some false
  kBM : PySem.W.kitOne K (.ref CB) (.ref CM) = some false
/-- what the law is told of a text -/
def outV (n : Nat) (rows : Lns.Rows) : List V := if 0 < n then [.str (Str.ofString "bad"), vN n, .bl true, .bl false] else [.str (Str.ofString "told"), .str (dRows rows).shown]
def outD (n : Nat) (rows : Lns.Rows) : PyData := if 0 < n then .list [.str (Str.ofString "bad"), .int (n : Int), .bool true, .bool false] else .list [.str (Str.ofString "told"), .str (dRows rows).shown]
theorem dp_outV {K : PySem.W.Frag} {H : Hp} {p : Addr} {n : Nat} {rows : Lns.Rows} (h : H p = some (.lst (outV n rows))) : Dp K H (.ref p) (outD n rows) := by
  unfold outV at h
  unfold outD
  by_cases c : 0 < n
  · rw [if_pos c] at h ⊢
    exact .lst (SqL.of h) (.cons (.str _) (.cons (.int _) (.cons (.bl _) (.cons (.bl _) .nil))))
  · rw [if_neg c] at h ⊢
    exact .lst (SqL.of h) (.cons (.str _) (.cons (.str _) .nil))
theorem strOk_asc {x : Str} (h : Asc x) : PyData.strOk x = true := strOk_mk (l := tl x) h
theorem outD_shaped {n : Nat} {rows : Lns.Rows} (h : AscR rows) : SeqAt.shaped (outD n rows) = true := by
  have h1 : PyData.strOk (Str.ofString "bad") = true := by decide +kernel
  have h2 : PyData.strOk (Str.ofString "told") = true := by decide +kernel
  have h3 := strOk_asc (rows_asc h)
  unfold outD
  by_cases c : 0 < n
  · rw [if_pos c]
    exact shaped_of (by simp [PyData.canLay0, PyData.canLayAll0, h1]) (by simp [PyData.depth, PyData.depthAll])
  · rw [if_neg c]
    exact shaped_of (by simp [PyData.canLay0, PyData.canLayAll0, h2, h3]) (by simp [PyData.depth, PyData.depthAll])
theorem log_small {n : Nat} (h : n < 100000000) : ((n : Int)).natAbs.log2 < 1920 := by
  by_cases c : n = 0
  · rw [c]
    decide
  · have : ((n : Int)).natAbs = n := Int.natAbs_natCast n
    rw [this, Nat.log2_lt c]
    exact Nat.lt_of_lt_of_le h (Nat.le_trans (show 100000000 ≤ 2 ^ 27 by decide) (Nat.pow_le_pow_right (by decide) (by decide)))
theorem outD_showable {n : Nat} {rows : Lns.Rows} (h : n < 100000000) : (outD n rows).showable = true := by
  unfold outD
  by_cases c : 0 < n
  · rw [if_pos c]
    have := log_small h
    simp only [PyData.showable, PyData.showableAll, decide_eq_true this]
    rfl
  · rw [if_neg c]
    simp [PyData.showable, PyData.showableAll]
theorem num_shown {n : Nat} (h : n < 100000000) : (PyData.shown (.int (n : Int))).length ≤ 8 := by
  show (Str.ofString (toString ((n : Nat) : Int))).length ≤ 8
  rw [len_tl, tl_num]
  exact numL_len (by decide) h
theorem outD_shown {n : Nat} {rows : Lns.Rows} (h : n < 100000000) (ha : AscR rows) (hc : cost rows ≤ 100000) : (outD n rows).shown.length ≤ sizeLine := by
  unfold outD
  by_cases c : 0 < n
  · rw [if_pos c]
    have := PyData.shown_le 8 (Nat.le_refl _) (.list [.str (Str.ofString "bad"), .int (n : Int), .bool true, .bool false]) (by
      have h1 := num_shown h
      have h2 : ((Str.ofString "bad").cps.toList.all fun c => decide (c < 16 ^ 8)) = true := by decide +kernel
      simp only [PyData.leavesShort, PyData.leavesShortAll, decide_eq_true h1, h2]
      rfl)
    have hw : (PyData.list [.str (Str.ofString "bad"), .int (n : Int), .bool true, .bool false]).weight ≤ 200 := by
      simp only [PyData.weight, PyData.weightAll]
      have e : (Str.ofString "bad").cps.size = 3 := by decide +kernel
      have l := log_small h
      have l2 : ((n : Int)).natAbs.log2 ≤ 27 := by
        by_cases z : n = 0
        · rw [z]
          decide
        · have e2 : ((n : Int)).natAbs = n := Int.natAbs_natCast n
          rw [e2]
          have := (Nat.log2_lt z).mpr (Nat.lt_of_lt_of_le h (show 100000000 ≤ 2 ^ 27 by decide))
          omega
      rw [e]
      split <;> omega
    exact line_le (by omega)
  · rw [if_neg c]
    have hs := rows_shown ha
    have hr := StrLaws.reprText_len (dRows rows).shown (fun c hc => Nat.lt_of_lt_of_le (rows_asc ha c hc) (by decide))
    have ht := StrLaws.reprText_len (Str.ofString "told") (by decide +kernel)
    have e4 : (Str.ofString "told").length = 4 := by decide +kernel
    have hl := listText_len_le [reprText (Str.ofString "told"), reprText (dRows rows).shown]
    simp only [PyData.shown, PyData.shownAll]
    simp only [List.map_cons, List.map_nil, List.sum_cons, List.sum_nil, List.length_cons, List.length_nil] at hl
    exact line_le (by omega)
def spOutcome1 (K : PySem.W.Frag) : Sp := fun vs H Q _ => ∃ l : List Nat, vs = [vS l] ∧ l.length ≤ 50000 ∧ ∀ (p : Addr) (H' : Hp), Fr [] H H' → H' p = some (.lst (outV (Lns.prog l).1 (Lns.prog l).2)) → Q (.ref p) H'
def spLaw (K : PySem.W.Frag) : Sp := fun vs H Q _ => ∃ (a : Addr) (ns : List Int), vs = [.ref a] ∧ SqL K H a (ns.map V.int) ∧ ns.length ≤ 63 ∧ ∀ H', Q (.bl true) H'
theorem cost_prog (l : List Nat) : cost (Lns.prog l).2 ≤ 2 * l.length := Lns.prog_sum l
theorem row_le {rows : Lns.Rows} {ws : List (List Nat)} (h : ws ∈ rows) : ws.length ≤ cost rows := by
  have a : ∀ ws : List (List Nat), ws.length ≤ Lns.wsum ws := fun ws => by
    induction ws with
    | nil => exact Nat.le_refl _
    | cons w ws ih =>
      unfold Lns.wsum at ih ⊢
      simp only [List.map_cons, List.sum_cons, List.length_cons]
      omega
  have b : cost rows = Lns.rsum rows := rfl
  rw [b]
  induction rows with
  | nil => simp at h
  | cons v rows ih =>
    unfold Lns.rsum at ih ⊢
    simp only [List.map_cons, List.sum_cons]
    rcases List.mem_cons.mp h with z | z
    · rw [z]
      have := a v
      omega
    · have := ih z rfl
      omega
theorem rows_le (rows : Lns.Rows) : rows.length ≤ cost rows := by
  have b : cost rows = Lns.rsum rows := rfl
  rw [b]
  induction rows with
  | nil => exact Nat.le_refl _
  | cons v rows ih =>
    have := ih rfl
    unfold Lns.rsum at this ⊢
    simp only [List.map_cons, List.sum_cons, List.length_cons]
    omega
section
variable {P : Program} {w : World} {K : PySem.W.Frag} {mg : Str → Option Value} {base : Heap} {CD CN CM CB : Addr}
theorem ok_law_outcome {f : Addr} {fd : FuncData} (F : Fun K "_law_outcome" "_law_outcome" s_law_outcome f fd) (T : Txt2 P K mg CD CN CM CB) (F_read_lines : FnB P w K mg base (L2.CX P w) 3 "read_lines" ["text"] (spRead K CB)) :
    FnG P w K mg base CX0 4 f fd ["text"] (spOutcome1 K) := by
  refine F.okG sc_law_outcome (fun vs H Q E h => ?_) (fun cdv A outer s H vs Q E hr hgu h => ?_)
  · obtain ⟨l, rfl, _⟩ := h
    rfl
  · obtain ⟨l, rfl, hl, k⟩ := h
    obtain ⟨fB, TB⟩ := T.bad
    have TX1 := xfB_ok TB.xf
    have TN1 := TB.noF "place" (by simp)
    have hu66 : (A.deeper (envOfC "_law_outcome" (defScope s_law_outcome) s.heap.objs.size f cdv)).units + 66 < cLine := by have := hr.un; omega
    have asc : AscR (Lns.prog l).2 := Lns.prog_ok l
    have hcost := cost_prog l
    refine ⟨_, (Evl.pss_cut (ps_try_gen rfl rfl sc_law_outcome.nd takes0
      (fun W pn xe tk po => (pss_one (ps_set (i := 1) sc_law_outcome.nd rfl (Or.inl rfl) (pe_callFS F_read_lines (hr.mono (by decide)) rfl (fun σ => passAt tk σ) (pa_cons (pv 0) pa_nil)))))
      (HdsG.named (i := 2) ⟨rfl, by decide, .inl TB.gC⟩ rfl rfl (fun a oe cls d pn hz hf => (pss_one (ps_ret (pe_lst (pa_cons pe_str (pa_cons (pe_xf TX1 TN1 hz hf (pv 2)) (pa_cons (pe_callB (call_isX T.h1 T.h2 hz hf) (by rfl) T.m_isinstance (by decide +kernel) (pa_cons (pv 2) (pa_cons (pe_glob (v := .ref _) rfl T.g_DealError rfl) pa_nil))) (pa_cons (pe_or (pe_callB (call_isX T.h1 T.h2 hz hf) (by rfl) T.m_isinstance (by decide +kernel) (pa_cons (pv 2) (pa_cons (pe_glob (v := .ref _) rfl T.g_BadNumber rfl) pa_nil))) (pe_one (pe_callB (call_isX T.h1 T.h2 hz hf) (by rfl) T.m_isinstance (by decide +kernel) (pa_cons (pv 2) (pa_cons (pe_glob (v := .ref _) rfl T.g_BadName rfl) pa_nil))))) pa_nil)))))))) (HdsG.plain ⟨rfl, by decide, .inl T.g_DealError⟩ (fun a oe cls d pn hz hf => (pss_one (ps_ret (pe_lst (pa_cons pe_str pa_nil))))) HdsG.nil)))
    (pss_cons (ps_set (i := 3) sc_law_outcome.nd rfl (Or.inl rfl) (pe_lst (pa_cons pe_str (pa_cons (pe_callB (cr_reprD hgu hu66) (by rfl) T.m_repr (by decide +kernel) (pa_cons (pv 1) pa_nil)) pa_nil))))
    (Evl.pss_cut (ps_if (pt_val (pe_callB call_isi (by rfl) T.m_isinstance (by decide +kernel) (pa_cons (pv 1) (pa_cons (pe_bltn (v := .ty "list") (by rfl) T.m_list (by decide +kernel) rfl) pa_nil))))
      (pss_cons (ps_for PassesOwn.never rfl (pi_list (pe_callTy call_list_of (by rfl) T.m_list (by decide +kernel) (pa_cons (pv 1) pa_nil))) (pg_name (i := 4) sc_law_outcome.nd rfl (Or.inl rfl))
        (pss_one (ps_if (pt_val (pe_callB call_isi (by rfl) T.m_isinstance (by decide +kernel) (pa_cons (pv 4) (pa_cons (pe_bltn (v := .ty "list") (by rfl) T.m_list (by decide +kernel) rfl) pa_nil))))
          (pss_one (ps_expr (pe_bm PySem.F.plainAttrs_list PySem.F.slot_list_append PySem.F.type_list_append mt_append (pv 4) (pa_cons pe_str pa_nil))))
          pss_nil)))
      (pss_one (ps_expr (pe_bm PySem.F.plainAttrs_list PySem.F.slot_list_append PySem.F.type_list_append mt_append (pv 1) (pa_cons (pe_lst (pa_cons pe_str pa_nil)) pa_nil)))))
      pss_nil)
    (pss_one (ps_ret (pv 3)))))), ?_⟩
    refine ⟨fun σ' H' => (Lns.prog l).1 = 0 ∧ Fr [] H H' ∧ ∃ pr : Addr, H pr = none ∧ RowsZ (fun r => H r = none ∧ r ≠ pr) H' pr (Lns.prog l).2 ∧ σ' = [some (vS l), some (.ref pr), none, none, none], ?_, ?_⟩
    · refine ⟨_, rfl, l, rfl, by omega, fun h0 pr H1 npr e1 hR => ⟨h0, e1, pr, npr, hR, rfl⟩, fun hpos dd H1 e1 hx => ?_⟩
      refine ⟨true, TB.te, fun _ e0 he0 => ?_, fun z => by cases z⟩
      refine ⟨_, rfl, rfl, rfl, dd, _, _, rfl, hx, rfl, ?_⟩
      refine ⟨_, rfl, CB, dd, _, _, .ref CD, true, rfl, rfl, rfl, (fun u h => h), T.kBD, hx, ⟨T.iB.c, T.iB.m, TB.xf⟩, ?_⟩
      refine ⟨_, rfl, CB, dd, _, _, .ref CN, false, rfl, rfl, rfl, (fun u h => h), T.kBN, hx, ⟨T.iB.c, T.iB.m, TB.xf⟩, ?_⟩
      refine ⟨_, rfl, iteF ⟨_, rfl, CB, dd, _, _, .ref CM, false, rfl, rfl, rfl, (fun u h => h), T.kBM, hx, ⟨T.iB.c, T.iB.m, TB.xf⟩, ?_⟩⟩
      refine ⟨by show 4 ≤ sizeLine; decide, fun q hq => k q _ (e1.new hq) ?_⟩
      unfold outV
      rw [if_pos hpos]
      exact upd_same
    · rintro σ' H1 ⟨h0, e1, pr, npr, hR, rfl⟩
      refine ⟨_, rfl, pr, dRows (Lns.prog l).2, rfl, dp_rows hR.at, rows_shaped asc, rows_showable _, line_le (by have := rows_shown asc; omega), by show 2 ≤ sizeLine; decide, fun ps hps => ?_⟩
      have hout : outV (Lns.prog l).1 (Lns.prog l).2 = [.str (Str.ofString "told"), .str (dRows (Lns.prog l).2).shown] := by
        unfold outV
        rw [h0]
        rfl
      rw [← hout]
      have hR2 := (hR.free hps).fr ((Fr.refl [] H1).new (o := .lst (outV (Lns.prog l).1 (Lns.prog l).2)) hps)
      have hs2 : (upd H1 ps (.lst (outV (Lns.prog l).1 (Lns.prog l).2))) ps = some (.lst (outV (Lns.prog l).1 (Lns.prog l).2)) := upd_same
      have e2 := e1.new (o := .lst (outV (Lns.prog l).1 (Lns.prog l).2)) hps
      have nps : pr ≠ ps := by
        obtain ⟨rs, a, _⟩ := hR
        exact ne_of_none a hps
      generalize upd H1 ps (.lst (outV (Lns.prog l).1 (Lns.prog l).2)) = H2 at hR2 hs2 e2 ⊢
      obtain ⟨rs, r1, r2, r3, r4⟩ := hR2
      refine ⟨fun σ' H' => Fr [] H H' ∧ H' ps = some (.lst (outV (Lns.prog l).1 (Lns.prog l).2)) ∧ ∃ o1 o2 o4 : Option V, σ' = [some (vS l), o1, o2, some (.ref ps), o4], ?_, ?_⟩
      · refine ⟨_, rfl, _, _, _, _, true, rfl, .ty _, .base (.lst r1), kit_ty (by decide +kernel), _, rfl, iteT ?_⟩
        refine ⟨_, rfl, _, _, rfl, .inl (SqL.of r1), fun q hq => ?_⟩
        have hq2 : (upd H2 q (.lst (rs.map V.ref))) q = some (.lst (rs.map V.ref)) := upd_same
        have qps : q ≠ ps := (ne_of_none hs2 hq).symm
        have qpr : q ≠ pr := (ne_of_none r1 hq).symm
        have rl : ∀ r ∈ rs, ∃ ls, H2 r = some (.lst ls) ∧ ls.length ≤ 200000 := fun r hr => by
          obtain ⟨j, hj⟩ := List.mem_iff_getElem?.mp hr
          have hjl : j < (Lns.prog l).2.length := by rw [← r2]; exact (List.getElem?_eq_some_iff.mp hj).1
          have hg := List.getElem?_eq_getElem hjl
          refine ⟨_, r3 j r _ hj hg, ?_⟩
          rw [List.length_map]
          have := row_le (List.mem_of_getElem? hg)
          omega
        have e3 := e2.new (o := .lst (rs.map V.ref)) hq
        have hs3 : (upd H2 q (.lst (rs.map V.ref))) ps = some (.lst (outV (Lns.prog l).1 (Lns.prog l).2)) := by rw [upd_ne qps.symm]; exact hs2
        have r13 : (upd H2 q (.lst (rs.map V.ref))) pr = some (.lst (rs.map V.ref)) := by rw [upd_ne qpr.symm]; exact r1
        have rq : ∀ r ∈ rs, r ≠ q := fun r hr => by
          obtain ⟨ls, h, _⟩ := rl r hr
          exact ne_of_none h hq
        have rl3 : ∀ r ∈ rs, ∃ ls, (upd H2 q (.lst (rs.map V.ref))) r = some (.lst ls) ∧ ls.length ≤ 200000 := fun r hr => by
          obtain ⟨ls, h, h2⟩ := rl r hr
          exact ⟨ls, by rw [upd_ne (rq r hr)]; exact h, h2⟩
        generalize upd H2 q (.lst (rs.map V.ref)) = H3 at hq2 e3 hs3 r13 rl3 ⊢
        have rlen : rs.length ≤ 200000 := by
          rw [r2]
          have := rows_le (Lns.prog l).2
          omega
        refine ⟨q, rfl, ⟨_, SqL.of hq2⟩, for_list (K := K) (a := q) (xs := rs.map V.ref)
          (fun i σ H' => Fr [] H H' ∧ H' q = some (.lst (rs.map V.ref)) ∧ H' ps = some (.lst (outV (Lns.prog l).1 (Lns.prog l).2)) ∧ H' pr = some (.lst (rs.map V.ref)) ∧ (∀ r ∈ rs, ∃ ls, H' r = some (.lst ls) ∧ ls.length ≤ 200000 + i) ∧ ∃ o4 : Option V, σ = [some (vS l), some (.ref pr), none, some (.ref ps), o4])
          ⟨e3, hq2, hs3, r13, rl3, _, rfl⟩ (fun i σ H' _ h => SqL.of h.2.1) ?_ ?_⟩
        · rintro i y σ H' hy ⟨e4, g1, g2, g3, g4, o4, rfl⟩
          obtain ⟨r, hr, rfl⟩ := get_mapf hy
          have hrm := List.mem_of_getElem? hr
          obtain ⟨ls, hls, hll⟩ := g4 r hrm
          have hi : i < rs.length := (List.getElem?_eq_some_iff.mp hr).1
          refine ⟨_, rfl, _, _, _, _, true, rfl, .ty _, .base (.lst hls), kit_ty (by decide +kernel), _, rfl, iteT ?_⟩
          refine ⟨_, rfl, .inl ⟨rfl, _, SqL.of hls⟩, _, _, _, rfl, rfl, hls, Nat.lt_of_le_of_lt (show ls.length ≤ 1000000 by omega) (by decide), ?_⟩
          refine ⟨e4.put (.inr (r4 r hrm).1.1), by rw [upd_ne (rq r hrm).symm]; exact g1, by rw [upd_ne (Ne.symm (r4 r hrm).2)]; exact g2, by rw [upd_ne (Ne.symm (r4 r hrm).1.2)]; exact g3, fun r' hr' => ?_, _, rfl⟩
          by_cases c : r' = r
          · exact ⟨_, by rw [c]; exact upd_same, by rw [List.length_append, List.length_singleton]; omega⟩
          · obtain ⟨ls', h', hl'⟩ := g4 r' hr'
            exact ⟨ls', by rw [upd_ne c]; exact h', by omega⟩
        · rintro σ H' ⟨e4, g1, g2, g3, g4, o4, rfl⟩
          refine ⟨_, rfl, .inl ⟨rfl, _, SqL.of g3⟩, by show 1 ≤ sizeLine; decide, fun x hx => ?_⟩
          have nx : x ≠ pr := (ne_of_none g3 hx).symm
          refine ⟨_, _, _, rfl, rfl, by rw [upd_ne nx.symm]; exact g3, Nat.lt_of_le_of_lt (show (rs.map V.ref).length ≤ 1000000 by rw [List.length_map]; omega) (by decide), ?_⟩
          have xps : x ≠ ps := (ne_of_none g2 hx).symm
          exact ⟨(e4.new hx).put (.inr npr), by rw [upd_ne (Ne.symm nps), upd_ne xps.symm]; exact g2, _, _, _, rfl⟩
      · rintro σ' H' ⟨e3, hs3, o1, o2, o4, rfl⟩
        exact ⟨_, rfl, k ps H' e3 hs3⟩
end
section
variable {P : Program} {w : World} {K : PySem.W.Frag} {mg : Str → Option Value} {base : Heap} {CD CN CM CB : Addr}
def bnd : Nat → Nat
  | 0 => 3000
  | j + 1 => 2 * bnd j + 3
theorem bnd_le {j : Nat} (h : j ≤ 3) : bnd j ≤ 24021 := by
  have : j = 0 ∨ j = 1 ∨ j = 2 ∨ j = 3 := by omega
  rcases this with rfl | rfl | rfl | rfl <;> decide
theorem ok_law {f : Addr} {fd : FuncData} (F : Fun K "law" "law" s_law f fd) (T : Txt2 P K mg CD CN CM CB) (F_law_bag : FnB P w K mg base CX0 1 "_law_bag" ["script"] (spBag K)) (F_law_take : FnB P w K mg base CX0 1 "_law_take" ["bag", "many"] spTake)
    (F_law_word : FnB P w K mg base CX0 2 "_law_word" ["bag"] spWord) (F_law_spoilt : FnB P w K mg base CX0 2 "_law_spoilt" ["bag", "text"] spSpoilt) (F_law_lines : FnB P w K mg base CX0 1 "_law_lines" ["text"] (spLines K))
    (F_law_same : FnGB P w K mg base CX0 1 "_law_same" ["left", "right"] (spSame K)) (F_law_outcome : FnGB P w K mg base CX0 4 "_law_outcome" ["text"] (spOutcome1 K)) : FnG P w K mg base CX0 5 f fd ["script"] (spLaw K) := by
  refine F.okG sc_law (fun vs H Q E h => ?_) (fun cdv A outer s H vs Q E hr hgu h => ?_)
  · obtain ⟨a, ns, rfl, _⟩ := h
    rfl
  · obtain ⟨a, ns, rfl, hS, hlen, k⟩ := h
    have hu66 : (A.deeper (envOfC "law" (defScope s_law) s.heap.objs.size f cdv)).units + 66 < cLine := by have := hr.un; omega
    refine ⟨_, (pss_cons (ps_set (i := 1) sc_law.nd rfl (Or.inl rfl) (pe_callF F_law_bag (hr.mono (by decide)) rfl pass0 (pa_cons (pv 0) pa_nil)))
    (pss_cons (ps_set (i := 2) sc_law.nd rfl (Or.inl rfl) (pe_callF F_law_take (hr.mono (by decide)) rfl pass0 (pa_cons (pv 1) (pa_cons pe_int pa_nil))))
    (Evl.pss_cut (ps_if (pt_cmpR op_eq (pe_callF F_law_take (hr.mono (by decide)) rfl pass0 (pa_cons (pv 1) (pa_cons pe_int pa_nil))) pe_int (nomark _))
      (pss_one (ps_set (i := 2) sc_law.nd rfl (Or.inl rfl) (pe_callF F_law_take (hr.mono (by decide)) rfl pass0 (pa_cons (pv 1) (pa_cons pe_int pa_nil)))))
      pss_nil)
    (pss_cons (ps_set (i := 3) sc_law.nd rfl (Or.inl rfl) pe_str)
    (pss_cons (ps_for PassesOwn.never rfl (pi_range1 (by rfl) T.m_range (pa_cons (pv 2) pa_nil)) (pg_name (i := 4) sc_law.nd rfl (Or.inl rfl))
      (pss_cons (ps_set (i := 3) sc_law.nd rfl (Or.inl rfl) (pe_op op_add_str (pv 3) (pe_callF F_law_word (hr.mono (by decide)) rfl pass0 (pa_cons (pv 1) pa_nil))))
      (pss_cons (ps_for PassesOwn.never rfl (pi_range1 (by rfl) T.m_range (pa_cons (pe_callF F_law_take (hr.mono (by decide)) rfl pass0 (pa_cons (pv 1) (pa_cons pe_int pa_nil))) pa_nil)) (pg_name (i := 5) sc_law.nd rfl (Or.inl rfl))
        (pss_one (ps_set (i := 3) sc_law.nd rfl (Or.inl rfl) (pe_op op_add_str (pe_op op_add_str (pv 3) pe_str) (pe_callF F_law_word (hr.mono (by decide)) rfl pass0 (pa_cons (pv 1) pa_nil))))))
      (pss_one (ps_set (i := 3) sc_law.nd rfl (Or.inl rfl) (pe_op op_add_str (pv 3) pe_str))))))
    (pss_cons (ps_set (i := 6) sc_law.nd rfl (Or.inl rfl) (pe_lst (pa_cons (pv 3) (pa_cons pe_str (pa_cons pe_str (pa_cons (pe_callF F_law_word (hr.mono (by decide)) rfl pass0 (pa_cons (pv 1) pa_nil)) pa_nil))))))
    (pss_cons (ps_for PassesOwn.never rfl (pi_range1 (by rfl) T.m_range (pa_cons pe_int pa_nil)) (pg_name (i := 7) sc_law.nd rfl (Or.inl rfl))
      (pss_cons (ps_set (i := 8) sc_law.nd rfl (Or.inl rfl) (pv 3))
      (pss_cons (ps_for PassesOwn.never rfl (pi_range1 (by rfl) T.m_range (pa_cons (pe_op op_add pe_int (pe_callF F_law_take (hr.mono (by decide)) rfl pass0 (pa_cons (pv 1) (pa_cons pe_int pa_nil)))) pa_nil)) (pg_name (i := 5) sc_law.nd rfl (Or.inl rfl))
        (pss_one (ps_set (i := 8) sc_law.nd rfl (Or.inl rfl) (pe_callF F_law_spoilt (hr.mono (by decide)) rfl pass0 (pa_cons (pv 1) (pa_cons (pv 8) pa_nil))))))
      (pss_one (ps_expr (pe_bm PySem.F.plainAttrs_list PySem.F.slot_list_append PySem.F.type_list_append mt_append (pv 6) (pa_cons (pv 8) pa_nil)))))))
    (pss_cons (ps_for PassesOwn.never rfl (pi_list (pv 6)) (pg_name (i := 3) sc_law.nd rfl (Or.inl rfl))
      (pss_cons (ps_asg (pe_callF F_law_lines (hr.mono (by decide)) rfl pass0 (pa_cons (pv 3) pa_nil)) (pg_unl rfl (pgs_cons (pg_name (i := 9) sc_law.nd rfl (Or.inl rfl)) (pgs_cons (pg_name (i := 10) sc_law.nd rfl (Or.inl rfl)) pgs_nil))))
      (pss_cons (ps_set (i := 11) sc_law.nd rfl (Or.inl rfl) (pe_lst (pa_cons pe_str (pa_cons (pe_callB (cr_reprD hgu hu66) (by rfl) T.m_repr (by decide +kernel) (pa_cons (pv 10) pa_nil)) pa_nil))))
      (Evl.pss_cut (ps_if (pt_cmpR op_gt (pv 9) pe_int (nomark _))
        (pss_one (ps_set (i := 11) sc_law.nd rfl (Or.inl rfl) (pe_lst (pa_cons pe_str (pa_cons (pv 9) (pa_cons pe_bl (pa_cons pe_bl pa_nil)))))))
        pss_nil)
      (pss_one (ps_for PassesOwn.never rfl (pi_range1 (by rfl) T.m_range (pa_cons pe_int pa_nil)) (pg_name (i := 7) sc_law.nd rfl (Or.inl rfl))
        (pss_one (ps_if (pt_not (pt_val (pe_callG F_law_same (hr.mono (by decide)) hgu rfl pass0 (pa_cons (pe_callG F_law_outcome (hr.mono (by decide)) hgu rfl pass0 (pa_cons (pv 3) pa_nil)) (pa_cons (pv 11) pa_nil)))))
          (pss_one (ps_ret pe_bl))
          pss_nil))))))))
    (pss_one (ps_ret pe_bl)))))))))), ?_⟩
    refine ⟨_, rfl, a, ns, rfl, hS, by omega, fun b c H1 hb hc e1 B1 => ?_⟩
    refine ⟨_, rfl, b, c, 13, rfl, B1, by decide, by decide, fun t H2 t0 t1 e2 B2 => ?_⟩
    obtain ⟨tn, rfl⟩ : ∃ q : Nat, t = (q : Int) := ⟨t.toNat, by omega⟩
    refine ⟨fun σ' H' => ∃ sz : Nat, sz ≤ 60 ∧ BagC H' b c ∧ σ' = [some (.ref a), some (.ref b), some (.int (sz : Int)), none, none, none, none, none, none, none, none, none], ?_, ?_⟩
    · refine ⟨_, rfl, b, c, 10, rfl, B2, by decide, by decide, fun z H3 z0 z1 e3 B3 => ⟨rfl, _, rfl, eq_if (fun _ => ?_) fun _ => ⟨tn, by omega, B3, rfl⟩⟩⟩
      refine ⟨_, rfl, b, c, 61, rfl, B3, by decide, by decide, fun z2 H4 z3 z4 e4 B4 => ?_⟩
      obtain ⟨zn, rfl⟩ : ∃ q : Nat, z2 = (q : Int) := ⟨z2.toNat, by omega⟩
      exact ⟨zn, by omega, B4, rfl⟩
    clear B1 B2 e1 e2 hb hc t0 t1
    rintro σ' H3 ⟨sz, hsz, B3, rfl⟩
    have t0 : TxS 0 (Str.ofString "") := .lit (by decide) (by decide)
    have t1 : TxS 1 (Str.ofString "\n") := .lit (by decide) (by decide)
    have t2 : TxS 1 (Str.ofString " ") := .lit (by decide) (by decide)
    refine ⟨_, rfl, _, rfl, (rg_ok (by omega)).1, (rg_ok (by omega)).2, for_rng (n := sz)
      (fun i σ H' => BagC H' b c ∧ ∃ (y : Str) (o4 o5 : Option V), TxS (50 * i) y ∧ σ = [some (.ref a), some (.ref b), some (.int (sz : Int)), some (.str y), o4, o5, none, none, none, none, none, none])
      ⟨B3, _, none, none, t0, rfl⟩ ?_ ?_⟩
    · rintro i σ H4 hi ⟨B4, y, o4, o5, hy, rfl⟩
      have yl := hy.1
      refine ⟨_, rfl, _, rfl, b, c, rfl, B4, fun v H5 hv e5 B5 => ?_⟩
      have vl := hv.1
      refine ⟨_, _, rfl, rfl, line_le (by omega), ?_⟩
      have hyv := hy.app hv
      refine ⟨_, rfl, b, c, 5, rfl, B5, by decide, by decide, fun t H6 u0 u1 e6 B6 => ?_⟩
      obtain ⟨tm, rfl⟩ : ∃ q : Nat, t = (q : Int) := ⟨t.toNat, by omega⟩
      refine ⟨_, rfl, (rg_ok (by omega)).1, (rg_ok (by omega)).2, for_rng (n := tm)
        (fun j σ H' => BagC H' b c ∧ ∃ (y : Str) (o5 : Option V), TxS (50 * i + 6 + 7 * j) y ∧ σ = [some (.ref a), some (.ref b), some (.int (sz : Int)), some (.str y), some (.int (i : Int)), o5, none, none, none, none, none, none])
        ⟨B6, _, _, hyv, rfl⟩ ?_ ?_⟩
      · rintro j σ H7 hj ⟨B7, z, o5, hz, rfl⟩
        have zl := hz.1
        have s1 : (Str.ofString " ").length ≤ 1 := t2.1
        refine ⟨_, rfl, _, _, rfl, rfl, line_le (by omega), _, rfl, b, c, rfl, B7, fun v H8 hv e8 B8 => ?_⟩
        have vl := hv.1
        refine ⟨_, _, rfl, rfl, line_le (by rw [str_app_len]; omega), ?_⟩
        exact ⟨B8, _, _, ((hz.app t2).app hv).more (by omega), rfl⟩
      · rintro σ H7 ⟨B7, z, o5, hz, rfl⟩
        have zl := hz.1
        have s1 : (Str.ofString "\n").length ≤ 1 := t1.1
        refine ⟨_, rfl, _, _, rfl, rfl, line_le (by omega), ?_⟩
        exact ⟨B7, _, _, _, (hz.app t1).more (by omega), rfl⟩
    · rintro σ H4 ⟨B4, y, o4, o5, hy, rfl⟩
      have hy : TxS 3000 y := hy.more (by omega)
      -- texts
      refine ⟨_, rfl, _, rfl, b, c, rfl, B4, fun v H5 hv e5 B5 => ?_⟩
      refine ⟨by show 4 ≤ sizeLine; decide, fun pt hpt => ?_⟩
      have B6 := B5.new (o := .lst ([y, Str.ofString "", Str.ofString "\n", v].map V.str)) hpt
      have ptb := B5.neb hpt
      have ptc := B5.nec hpt
      refine ⟨_, rfl, by decide, by decide, for_rng (n := 5)
        (fun i σ H' => BagC H' b c ∧ ∃ (ys : List Str) (o5 o7 o8 : Option V), ys.length ≤ 4 + i ∧ (∀ z ∈ ys, TxS 25000 z) ∧ H' pt = some (.lst (ys.map V.str)) ∧ σ = [some (.ref a), some (.ref b), some (.int (sz : Int)), some (.str y), o4, o5, some (.ref pt), o7, o8, none, none, none])
        ⟨B6, [y, Str.ofString "", Str.ofString "\n", v], _, none, none, by simp, fun z hz => ?_, upd_same, rfl⟩ ?_ ?_⟩
      · simp only [List.mem_cons, List.not_mem_nil, or_false] at hz
        rcases hz with rfl | rfl | rfl | rfl
        · exact hy.more (by omega)
        · exact t0.more (by omega)
        · exact t1.more (by omega)
        · exact hv.more (by omega)
      · rintro i σ H7 hi ⟨B7, ys, o5, o7, o8, hl, hall, hp, rfl⟩
        have npb : ∀ {H : Hp} {l : List Str}, BagC H b c → H pt = some (.lst (l.map V.str)) → pt ≠ b := fun {H l} hB h => ptb
        refine ⟨_, rfl, ?_⟩
        refine ⟨_, rfl, b, c, 3, rfl, B7, by decide, by decide, fun t H8 u0 u1 e8 B8 => ⟨_, _, rfl, rfl, ?_⟩⟩
        obtain ⟨tm, rfl⟩ : ∃ q : Nat, t = (q : Int) := ⟨t.toNat, by omega⟩
        have hp8 := e8 _ _ hp (by simpa using ptb)
        refine ⟨_, rfl, (rg_ok (n := 1 + tm) (by omega)).1, (rg_ok (n := 1 + tm) (by omega)).2, for_rng (n := 1 + tm)
          (fun j σ H' => BagC H' b c ∧ H' pt = some (.lst (ys.map V.str)) ∧ ∃ (x : Str) (o5 : Option V), TxS (bnd j) x ∧ σ = [some (.ref a), some (.ref b), some (.int (sz : Int)), some (.str y), o4, o5, some (.ref pt), some (.int (i : Int)), some (.str x), none, none, none])
          ⟨B8, hp8, _, _, hy, rfl⟩ ?_ ?_⟩
        · rintro j σ H9 hj ⟨B9, hp9, x, o5, hx, rfl⟩
          have hb := bnd_le (j := j) (by omega)
          refine ⟨_, rfl, _, rfl, b, c, bnd j, x, rfl, B9, hx, by omega, fun z H10 hz e10 B10 => ?_⟩
          exact ⟨B10, e10 _ _ hp9 (by simpa using ptb), _, _, hz, rfl⟩
        · rintro σ H9 ⟨B9, hp9, x, o5, hx, rfl⟩
          have hb := bnd_le (j := 1 + tm) (by omega)
          refine ⟨_, rfl, .inl ⟨rfl, _, SqL.of hp9⟩, _, rfl, _, _, _, rfl, rfl, hp9, Nat.lt_of_le_of_lt (show (ys.map V.str).length ≤ 100 by rw [List.length_map]; omega) (by decide), ?_⟩
          refine ⟨B9.put ptb ptc, ys ++ [x], _, _, _, by simp; omega, fun z hz => ?_, by rw [upd_same, List.map_append]; rfl, rfl⟩
          rcases List.mem_append.mp hz with q | q
          · exact hall z q
          · have : z = x := by simpa using q
            rw [this]
            exact hx.more (by omega)
      · rintro σ H7 ⟨B7, ys, o5, o7, o8, hl, hall, hp, rfl⟩
        refine ⟨_, rfl, pt, rfl, ⟨_, SqL.of hp⟩, for_list (K := K) (a := pt) (xs := ys.map V.str)
          (fun i σ H' => H' pt = some (.lst (ys.map V.str)) ∧ ∃ (o3 o7 o9 o10 o11 : Option V), σ = [some (.ref a), some (.ref b), some (.int (sz : Int)), o3, o4, o5, some (.ref pt), o7, o8, o9, o10, o11])
          ⟨hp, _, _, _, _, _, rfl⟩ (fun i σ H' _ h => SqL.of h.1) ?_ ?_⟩
        · rintro i x σ H8 hx ⟨hp8, o3, o7, o9, o10, o11, rfl⟩
          obtain ⟨z, hz, rfl⟩ := get_mapf hx
          have hzt := hall z (List.mem_of_getElem? hz)
          have zl : (tl z).length ≤ 25000 := by rw [← len_tl]; exact hzt.1
          refine ⟨_, rfl, tl z, rfl, by omega, fun p pr H9 e9 h9 hR => ?_⟩
          have asc : AscR (Lns.prog (tl z)).2 := Lns.prog_ok (tl z)
          have hcost := cost_prog (tl z)
          have h0 : (Lns.prog (tl z)).1 ≤ 50001 := by
            have := Lns.prog_le (tl z)
            omega
          generalize hpg : Lns.prog (tl z) = pg at h9 hR asc hcost h0
          have hp9 := e9 _ _ hp8 (by simp)
          refine ⟨p, _, rfl, SqL.of h9, rfl, _, _, rfl, _, _, rfl, rfl, ?_⟩
          refine ⟨_, rfl, pr, dRows pg.2, rfl, dp_rows hR, rows_shaped asc, rows_showable _, line_le (by have := rows_shown asc; omega), by show 2 ≤ sizeLine; decide, fun pd hpd => ?_⟩
          refine ⟨fun σ' H' => ∃ pd : Addr, H' pt = some (.lst (ys.map V.str)) ∧ H' pd = some (.lst (outV pg.1 pg.2)) ∧ σ' = [some (.ref a), some (.ref b), some (.int (sz : Int)), some (.str z), o4, o5, some (.ref pt), o7, o8, some (vN pg.1), some (.ref pr), some (.ref pd)], ?_, ?_⟩
          · have hp10 : (upd H9 pd (.lst [.str (Str.ofString "told"), .str (dRows pg.2).shown])) pt = some (.lst (ys.map V.str)) := by rw [upd_ne (ne_of_none hp9 hpd)]; exact hp9
            refine ⟨_, rfl, _, _, rfl, rfl, _, rfl, dec_iff (fun hpos => ?_) fun hneg => ?_⟩
            · refine ⟨_, rfl, by show 4 ≤ sizeLine; decide, fun pd2 hpd2 => ⟨pd2, by rw [upd_ne (ne_of_none hp10 hpd2)]; exact hp10, ?_, rfl⟩⟩
              rw [upd_same]
              unfold outV
              rw [if_pos (by omega)]
            · refine ⟨pd, hp10, ?_, rfl⟩
              rw [upd_same]
              unfold outV
              rw [if_neg (by omega)]
          clear hpd h9 hR hp9
          rintro σ' H10 ⟨pd, hp10, hd10, rfl⟩
          refine ⟨_, rfl, by decide, by decide, for_rng (n := 2)
            (fun i σ H' => H' pt = some (.lst (ys.map V.str)) ∧ H' pd = some (.lst (outV pg.1 pg.2)) ∧ ∃ o7 : Option V, σ = [some (.ref a), some (.ref b), some (.int (sz : Int)), some (.str z), o4, o5, some (.ref pt), o7, o8, some (vN pg.1), some (.ref pr), some (.ref pd)])
            ⟨hp10, hd10, _, rfl⟩ ?_ ?_⟩
          · rintro j σ H11 hj ⟨hp11, hd11, o7, rfl⟩
            refine ⟨_, rfl, tl z, rfl, by omega, fun q H12 e12 hq => ?_⟩
            rw [hpg] at hq
            refine ⟨_, rfl, q, pd, outD pg.1 pg.2, rfl, dp_outV hq, dp_outV (e12 _ _ hd11 (by simp)), outD_shaped asc, outD_showable (by omega), outD_shown (by omega) asc (by omega), _, rfl, ?_⟩
            exact ⟨e12 _ _ hp11 (by simp), e12 _ _ hd11 (by simp), _, rfl⟩
          · rintro σ H11 ⟨hp11, hd11, o7, rfl⟩
            exact ⟨hp11, _, _, _, _, _, rfl⟩
        · rintro σ H8 ⟨hp8, o3, o7, o9, o10, o11, rfl⟩
          exact k _
end

/-! ### what the top has written, and the law -/
theorem all_mk {P : Program} {w : World} {K : PySem.W.Frag} {h : Heap} {mg : Str → Option Value} {fa CB CD CN CM f1 f2 f3 f4 f5 f6 f7 f8 f9 f10 f11 : Addr} (X : K.In h) (G : h.Ns mainGlobals mg) (hfa : mg "law" = some (.ref fa))
    {od1 an1 : Option Addr} {sl1 : Array (Option Value)} {oc1 kV1 dc1 pm1 cd1 ct1 : Value}
    {od2 an2 : Option Addr} {sl2 : Array (Option Value)} {oc2 kV2 dc2 pm2 cd2 ct2 : Value}
    {od3 an3 : Option Addr} {sl3 : Array (Option Value)} {oc3 kV3 dc3 pm3 cd3 ct3 : Value}
    {od4 an4 : Option Addr} {sl4 : Array (Option Value)} {oc4 kV4 dc4 pm4 cd4 ct4 : Value}
    {od5 an5 : Option Addr} {sl5 : Array (Option Value)} {oc5 kV5 dc5 pm5 cd5 ct5 : Value}
    {od6 an6 : Option Addr} {sl6 : Array (Option Value)} {oc6 kV6 dc6 pm6 cd6 ct6 : Value}
    {od7 an7 : Option Addr} {sl7 : Array (Option Value)} {oc7 kV7 dc7 pm7 cd7 ct7 : Value}
    {od8 an8 : Option Addr} {sl8 : Array (Option Value)} {oc8 kV8 dc8 pm8 cd8 ct8 : Value}
    {od9 an9 : Option Addr} {sl9 : Array (Option Value)} {oc9 kV9 dc9 pm9 cd9 ct9 : Value}
    {od10 an10 : Option Addr} {sl10 : Array (Option Value)} {oc10 kV10 dc10 pm10 cd10 ct10 : Value}
    {od11 an11 : Option Addr} {sl11 : Array (Option Value)} {oc11 kV11 dc11 pm11 cd11 ct11 : Value}
    (gB : PySem.W.nsIn K mainGlobals "BadText" = some (some (.ref CB)))
    (TB : ∃ fI, XS.ErrTxt P K mg "BadText" "BadText.__init__" s_iB ["place"] CB fI)
    (a1 : PySem.W.nsIn K mainGlobals "_words" = some (some (.ref f1)))
    (l1 : K.lookup f1 = some ⟨oc1, od1, .func (PySem.W.fnOf "_words" "_words" (defArgs s_words) (defBody s_words) (defScope s_words) .none kV1 dc1 pm1 an1 cd1 ct1), sl1⟩)
    (c1 : PySem.W.codeIn K cd1 "_words" = true) (k1 : PySem.W.keepIn K (.ref f1) = true)
    (a2 : PySem.W.nsIn K mainGlobals "good_lines" = some (some (.ref f2)))
    (l2 : K.lookup f2 = some ⟨oc2, od2, .func (PySem.W.fnOf "good_lines" "good_lines" (defArgs s_good_lines) (defBody s_good_lines) (defScope s_good_lines) .none kV2 dc2 pm2 an2 cd2 ct2), sl2⟩)
    (c2 : PySem.W.codeIn K cd2 "good_lines" = true) (k2 : PySem.W.keepIn K (.ref f2) = true)
    (a3 : PySem.W.nsIn K mainGlobals "read_lines" = some (some (.ref f3)))
    (l3 : K.lookup f3 = some ⟨oc3, od3, .func (PySem.W.fnOf "read_lines" "read_lines" (defArgs s_read_lines) (defBody s_read_lines) (defScope s_read_lines) .none kV3 dc3 pm3 an3 cd3 ct3), sl3⟩)
    (c3 : PySem.W.codeIn K cd3 "read_lines" = true) (k3 : PySem.W.keepIn K (.ref f3) = true)
    (a4 : PySem.W.nsIn K mainGlobals "_law_bag" = some (some (.ref f4)))
    (l4 : K.lookup f4 = some ⟨oc4, od4, .func (PySem.W.fnOf "_law_bag" "_law_bag" (defArgs s_law_bag) (defBody s_law_bag) (defScope s_law_bag) .none kV4 dc4 pm4 an4 cd4 ct4), sl4⟩)
    (c4 : PySem.W.codeIn K cd4 "_law_bag" = true) (k4 : PySem.W.keepIn K (.ref f4) = true)
    (a5 : PySem.W.nsIn K mainGlobals "_law_take" = some (some (.ref f5)))
    (l5 : K.lookup f5 = some ⟨oc5, od5, .func (PySem.W.fnOf "_law_take" "_law_take" (defArgs s_law_take) (defBody s_law_take) (defScope s_law_take) .none kV5 dc5 pm5 an5 cd5 ct5), sl5⟩)
    (c5 : PySem.W.codeIn K cd5 "_law_take" = true) (k5 : PySem.W.keepIn K (.ref f5) = true)
    (a6 : PySem.W.nsIn K mainGlobals "_law_word" = some (some (.ref f6)))
    (l6 : K.lookup f6 = some ⟨oc6, od6, .func (PySem.W.fnOf "_law_word" "_law_word" (defArgs s_law_word) (defBody s_law_word) (defScope s_law_word) .none kV6 dc6 pm6 an6 cd6 ct6), sl6⟩)
    (c6 : PySem.W.codeIn K cd6 "_law_word" = true) (k6 : PySem.W.keepIn K (.ref f6) = true)
    (a7 : PySem.W.nsIn K mainGlobals "_law_spoilt" = some (some (.ref f7)))
    (l7 : K.lookup f7 = some ⟨oc7, od7, .func (PySem.W.fnOf "_law_spoilt" "_law_spoilt" (defArgs s_law_spoilt) (defBody s_law_spoilt) (defScope s_law_spoilt) .none kV7 dc7 pm7 an7 cd7 ct7), sl7⟩)
    (c7 : PySem.W.codeIn K cd7 "_law_spoilt" = true) (k7 : PySem.W.keepIn K (.ref f7) = true)
    (a8 : PySem.W.nsIn K mainGlobals "_law_lines" = some (some (.ref f8)))
    (l8 : K.lookup f8 = some ⟨oc8, od8, .func (PySem.W.fnOf "_law_lines" "_law_lines" (defArgs s_law_lines) (defBody s_law_lines) (defScope s_law_lines) .none kV8 dc8 pm8 an8 cd8 ct8), sl8⟩)
    (c8 : PySem.W.codeIn K cd8 "_law_lines" = true) (k8 : PySem.W.keepIn K (.ref f8) = true)
    (a9 : PySem.W.nsIn K mainGlobals "_law_same" = some (some (.ref f9)))
    (l9 : K.lookup f9 = some ⟨oc9, od9, .func (PySem.W.fnOf "_law_same" "_law_same" (defArgs s_law_same) (defBody s_law_same) (defScope s_law_same) .none kV9 dc9 pm9 an9 cd9 ct9), sl9⟩)
    (c9 : PySem.W.codeIn K cd9 "_law_same" = true) (k9 : PySem.W.keepIn K (.ref f9) = true)
    (a10 : PySem.W.nsIn K mainGlobals "_law_outcome" = some (some (.ref f10)))
    (l10 : K.lookup f10 = some ⟨oc10, od10, .func (PySem.W.fnOf "_law_outcome" "_law_outcome" (defArgs s_law_outcome) (defBody s_law_outcome) (defScope s_law_outcome) .none kV10 dc10 pm10 an10 cd10 ct10), sl10⟩)
    (c10 : PySem.W.codeIn K cd10 "_law_outcome" = true) (k10 : PySem.W.keepIn K (.ref f10) = true)
    (a11 : PySem.W.nsIn K mainGlobals "law" = some (some (.ref f11)))
    (l11 : K.lookup f11 = some ⟨oc11, od11, .func (PySem.W.fnOf "law" "law" (defArgs s_law) (defBody s_law) (defScope s_law) .none kV11 dc11 pm11 an11 cd11 ct11), sl11⟩)
    (c11 : PySem.W.codeIn K cd11 "law" = true) (k11 : PySem.W.keepIn K (.ref f11) = true)
    (z_len : PySem.W.nsIn K mainGlobals "len" = some none)
    (z_int : PySem.W.nsIn K mainGlobals "int" = some none)
    (z_range : PySem.W.nsIn K mainGlobals "range" = some none)
    (z_list : PySem.W.nsIn K mainGlobals "list" = some none)
    (z_min : PySem.W.nsIn K mainGlobals "min" = some none)
    (z_max : PySem.W.nsIn K mainGlobals "max" = some none)
    (z_abs : PySem.W.nsIn K mainGlobals "abs" = some none)
    (z_isinstance : PySem.W.nsIn K mainGlobals "isinstance" = some none)
    (z_bool : PySem.W.nsIn K mainGlobals "bool" = some none)
    (z_str : PySem.W.nsIn K mainGlobals "str" = some none)
    (z_tuple : PySem.W.nsIn K mainGlobals "tuple" = some none)
    (z_dict : PySem.W.nsIn K mainGlobals "dict" = some none)
    (z_sorted : PySem.W.nsIn K mainGlobals "sorted" = some none)
    (z_sum : PySem.W.nsIn K mainGlobals "sum" = some none)
    (z_repr : PySem.W.nsIn K mainGlobals "repr" = some none)
    (z_zip : PySem.W.nsIn K mainGlobals "zip" = some none)
    (z_enumerate : PySem.W.nsIn K mainGlobals "enumerate" = some none)
    (z_reversed : PySem.W.nsIn K mainGlobals "reversed" = some none)
    (gD : PySem.W.nsIn K mainGlobals "DealError" = some (some (.ref CD)))
    (gN : PySem.W.nsIn K mainGlobals "BadNumber" = some (some (.ref CN)))
    (gM : PySem.W.nsIn K mainGlobals "BadName" = some (some (.ref CM)))
    (h1 : PySem.W.specialIn K (.builtin "object.__class__") "__get__" = some (some (.builtin "getset_descriptor.__get__")))
    (h2 : PySem.W.takesIn K (.builtin "object.__class__") = some true)
    (iBc : PySem.W.findIn K (.ref CB) "__class__" = some (some (.builtin "object.__class__")))
    (iBm : PySem.W.mroIn K CB (.type "object") = some true)
    (kBD : PySem.W.kitOne K (.ref CB) (.ref CD) = some true)
    (kBN : PySem.W.kitOne K (.ref CB) (.ref CN) = some false)
    (kBM : PySem.W.kitOne K (.ref CB) (.ref CM) = some false)
    : ∃ fd : FuncData, (∀ (s : Shared) (v : Value), BindsTo s fd ⟨[v], []⟩ [("script", v)]) ∧ ∀ base : Heap, K.In base → base.Ns mainGlobals mg → FnG P w K mg base CX0 5 fa fd ["script"] (spLaw K) := by
  have e := hfa.symm.trans (PySem.W.mg_of X G a11)
  cases e
  have B : Blt mg := { m_len := PySem.W.mg_none_of X G z_len, m_int := PySem.W.mg_none_of X G z_int, m_range := PySem.W.mg_none_of X G z_range, m_list := PySem.W.mg_none_of X G z_list, m_min := PySem.W.mg_none_of X G z_min, m_max := PySem.W.mg_none_of X G z_max, m_abs := PySem.W.mg_none_of X G z_abs, m_isinstance := PySem.W.mg_none_of X G z_isinstance, m_bool := PySem.W.mg_none_of X G z_bool, m_str := PySem.W.mg_none_of X G z_str, m_tuple := PySem.W.mg_none_of X G z_tuple, m_dict := PySem.W.mg_none_of X G z_dict, m_sorted := PySem.W.mg_none_of X G z_sorted, m_sum := PySem.W.mg_none_of X G z_sum, m_repr := PySem.W.mg_none_of X G z_repr, m_zip := PySem.W.mg_none_of X G z_zip, m_enumerate := PySem.W.mg_none_of X G z_enumerate, m_reversed := PySem.W.mg_none_of X G z_reversed }
  have T0 : Txt1 P K mg CB := { B with bad := TB }
  have T : Txt2 P K mg CD CN CM CB := { T0 with h1 := h1, h2 := h2, g_DealError := PySem.W.mg_of X G gD, g_BadNumber := PySem.W.mg_of X G gN, g_BadName := PySem.W.mg_of X G gM, iB := ⟨iBc, iBm⟩, kBD := kBD, kBN := kBN, kBM := kBM }
  have F1 := fun_mk (st := s_words) l1 c1 k1
  have b1 := F1.binds (ps := ["line"]) fun _ _ _ _ _ _ us hl => match us, hl with | [_], _ => rfl
  have F2 := fun_mk (st := s_good_lines) l2 c2 k2
  have b2 := F2.binds (ps := ["text"]) fun _ _ _ _ _ _ us hl => match us, hl with | [_], _ => rfl
  have F3 := fun_mk (st := s_read_lines) l3 c3 k3
  have b3 := F3.binds (ps := ["text"]) fun _ _ _ _ _ _ us hl => match us, hl with | [_], _ => rfl
  have F4 := fun_mk (st := s_law_bag) l4 c4 k4
  have b4 := F4.binds (ps := ["script"]) fun _ _ _ _ _ _ us hl => match us, hl with | [_], _ => rfl
  have F5 := fun_mk (st := s_law_take) l5 c5 k5
  have b5 := F5.binds (ps := ["bag", "many"]) fun _ _ _ _ _ _ us hl => match us, hl with | [_, _], _ => rfl
  have F6 := fun_mk (st := s_law_word) l6 c6 k6
  have b6 := F6.binds (ps := ["bag"]) fun _ _ _ _ _ _ us hl => match us, hl with | [_], _ => rfl
  have F7 := fun_mk (st := s_law_spoilt) l7 c7 k7
  have b7 := F7.binds (ps := ["bag", "text"]) fun _ _ _ _ _ _ us hl => match us, hl with | [_, _], _ => rfl
  have F8 := fun_mk (st := s_law_lines) l8 c8 k8
  have b8 := F8.binds (ps := ["text"]) fun _ _ _ _ _ _ us hl => match us, hl with | [_], _ => rfl
  have F9 := fun_mk (st := s_law_same) l9 c9 k9
  have b9 := F9.binds (ps := ["left", "right"]) fun _ _ _ _ _ _ us hl => match us, hl with | [_, _], _ => rfl
  have F10 := fun_mk (st := s_law_outcome) l10 c10 k10
  have b10 := F10.binds (ps := ["text"]) fun _ _ _ _ _ _ us hl => match us, hl with | [_], _ => rfl
  have F11 := fun_mk (st := s_law) l11 c11 k11
  have b11 := F11.binds (ps := ["script"]) fun _ _ _ _ _ _ us hl => match us, hl with | [_], _ => rfl
  refine ⟨PySem.W.fnOf "law" "law" (defArgs s_law) (defBody s_law) (defScope s_law) .none kV11 dc11 pm11 an11 cd11 ct11, fun s v => .of_eq rfl, fun base _ _ => ?_⟩
  have G_words : FnB P w K mg base CX0 1 "_words" ["line"] (spWords K) := ⟨f1, _, ok_words F1 B, PySem.W.mg_of X G a1, k1, b1⟩
  have G_good_lines : FnB P w K mg base CX0 2 "good_lines" ["text"] (spGood K) := ⟨f2, _, ok_good_lines F2 B G_words, PySem.W.mg_of X G a2, k2, b2⟩
  have G_read_lines : FnB P w K mg base (L2.CX P w) 3 "read_lines" ["text"] (spRead K CB) := ⟨f3, _, ok_read_lines F3 T0 G_good_lines, PySem.W.mg_of X G a3, k3, b3⟩
  have G_law_bag : FnB P w K mg base CX0 1 "_law_bag" ["script"] (spBag K) := ⟨f4, _, ok_law_bag F4 B, PySem.W.mg_of X G a4, k4, b4⟩
  have G_law_take : FnB P w K mg base CX0 1 "_law_take" ["bag", "many"] (spTake) := ⟨f5, _, ok_law_take F5 B, PySem.W.mg_of X G a5, k5, b5⟩
  have G_law_word : FnB P w K mg base CX0 2 "_law_word" ["bag"] (spWord) := ⟨f6, _, ok_law_word F6 B G_law_take, PySem.W.mg_of X G a6, k6, b6⟩
  have G_law_spoilt : FnB P w K mg base CX0 2 "_law_spoilt" ["bag", "text"] (spSpoilt) := ⟨f7, _, ok_law_spoilt F7 B G_law_take, PySem.W.mg_of X G a7, k7, b7⟩
  have G_law_lines : FnB P w K mg base CX0 1 "_law_lines" ["text"] (spLines K) := ⟨f8, _, ok_law_lines F8 B, PySem.W.mg_of X G a8, k8, b8⟩
  have G_law_same : FnGB P w K mg base CX0 1 "_law_same" ["left", "right"] (spSame K) := ⟨f9, _, ok_law_same F9 B, PySem.W.mg_of X G a9, k9, b9⟩
  have G_law_outcome : FnGB P w K mg base CX0 4 "_law_outcome" ["text"] (spOutcome1 K) := ⟨f10, _, ok_law_outcome F10 T G_read_lines, PySem.W.mg_of X G a10, k10, b10⟩
  exact ok_law F11 T G_law_bag G_law_take G_law_word G_law_spoilt G_law_lines G_law_same G_law_outcome
theorem walk {l : PySem.W.OpenLaw} {q : Program} {loose : List Str} {XP : (Str → Option Value) → Heap → Prop} {YP : World → Heap → Prop} {d : DefRec} {K : Params → PySem.W.Frag} (hn : l.most = some 63) (hdf : d.params.defaults = [])
    (hY : ∀ (w : World) (h : Heap), YP w h → (K w.params).In h)
    (F : ∀ (w : World) (mg : Str → Option Value) (fa : Addr) (h : Heap), (K w.params).In h → h.Ns mainGlobals mg → mg d.name = some (.ref fa) →
      ∃ fd : FuncData, (∀ (s : Shared) (u : Value), BindsTo s fd ⟨[u], []⟩ [("script", u)]) ∧ ∀ base : Heap, (K w.params).In base → base.Ns mainGlobals mg → FnG l.prog w (K w.params) mg base CX0 5 fa fd ["script"] (spLaw (K w.params))) :
    PySem.W.WalkO q loose XP YP l.row.toRowW d [] (fun f vs => PySem.call f vs) :=
  L2.walk_ofG (n := 63) (k := 5) (x := "script") (sp := spLaw) hn (by decide) hdf ⟨rfl, by decide, by decide⟩ hY F fun _ _ a ns hl hS => ⟨a, ns, rfl, hS, hl, fun _ => rfl⟩
end K21
open PySem PySem.W PyProof.Rows
set_option maxRecDepth 100000 in
set_option maxHeartbeats 0 in
theorem PySem.Challenge.cw_eachfloweachlink_k21_first_wrong_line_holds : PySem.Challenge.rw_eachfloweachlink_k21_first_wrong_line.Holds := by
  w_on; o_law; k_head; (case hw => w_witness2)
  k_fill
  refine K21.walk (l := PySem.Challenge.rw_eachfloweachlink_k21_first_wrong_line) rfl rfl (fun w h Y => PySem.W.kIn_of Y) ?F
  case F =>
    intro w mg fa h KX G hmg
    refine' K21.all_mk KX G hmg ?gB ?TB ?a1 ?l1 ?c1 ?k1 ?a2 ?l2 ?c2 ?k2 ?a3 ?l3 ?c3 ?k3 ?a4 ?l4 ?c4 ?k4 ?a5 ?l5 ?c5 ?k5 ?a6 ?l6 ?c6 ?k6 ?a7 ?l7 ?c7 ?k7 ?a8 ?l8 ?c8 ?k8 ?a9 ?l9 ?c9 ?k9 ?a10 ?l10 ?c10 ?k10 ?a11 ?l11 ?c11 ?k11 ?z_len ?z_int ?z_range ?z_list ?z_min ?z_max ?z_abs ?z_isinstance ?z_bool ?z_str ?z_tuple ?z_dict ?z_sorted ?z_sum ?z_repr ?z_zip ?z_enumerate ?z_reversed ?gD ?gN ?gM ?h1 ?h2 ?iBc ?iBm ?kBD ?kBN ?kBM
    (case gB => k_is)
    case TB =>
      refine' ⟨_, PySem.XS.errTxt_mk KX G ?gC ?xL ?hbm ?sup ?stc ?sa ?ga ?gg ?eC ?hC ?noF ?iC ?tI ?kC ?mC ?vC ?tC ?isC ?sC ?mgS ?l ?c ?lc ?ld ?hv ?hf ?top⟩
      (case gC => k_is)
      (case xL => k_is)
      (case hbm => decide +kernel)
      (case sup => ks_is)
      (case stc => k_is)
      (case sa => k_is)
      (case ga => k_is)
      (case gg => k_is)
      (case eC => k_is)
      (case hC => k_is)
      (case noF => (intro f hf; cases List.mem_singleton.mp hf; k_is))
      (case iC => k_is)
      (case tI => k_is)
      (case kC => k_is)
      (case mC => k_is)
      (case vC => k_is)
      (case tC => k_is)
      (case isC => k_is)
      (case sC => first | rfl | k_is)
      (case mgS => k_is)
      (case l => k_is)
      (case c => k_is)
      (case lc => k_is)
      (case ld => k_is)
      (case hv => rfl)
      (case hf => decide +kernel)
      (case top => decide +kernel)
    (case a1 => k_is)
    (case l1 => k_is)
    (case c1 => k_is)
    (case k1 => k_is)
    (case a2 => k_is)
    (case l2 => k_is)
    (case c2 => k_is)
    (case k2 => k_is)
    (case a3 => k_is)
    (case l3 => k_is)
    (case c3 => k_is)
    (case k3 => k_is)
    (case a4 => k_is)
    (case l4 => k_is)
    (case c4 => k_is)
    (case k4 => k_is)
    (case a5 => k_is)
    (case l5 => k_is)
    (case c5 => k_is)
    (case k5 => k_is)
    (case a6 => k_is)
    (case l6 => k_is)
    (case c6 => k_is)
    (case k6 => k_is)
    (case a7 => k_is)
    (case l7 => k_is)
    (case c7 => k_is)
    (case k7 => k_is)
    (case a8 => k_is)
    (case l8 => k_is)
    (case c8 => k_is)
    (case k8 => k_is)
    (case a9 => k_is)
    (case l9 => k_is)
    (case c9 => k_is)
    (case k9 => k_is)
    (case a10 => k_is)
    (case l10 => k_is)
    (case c10 => k_is)
    (case k10 => k_is)
    (case a11 => k_is)
    (case l11 => k_is)
    (case c11 => k_is)
    (case k11 => k_is)
    (case z_len => k_is)
    (case z_int => k_is)
    (case z_range => k_is)
    (case z_list => k_is)
    (case z_min => k_is)
    (case z_max => k_is)
    (case z_abs => k_is)
    (case z_isinstance => k_is)
    (case z_bool => k_is)
    (case z_str => k_is)
    (case z_tuple => k_is)
    (case z_dict => k_is)
    (case z_sorted => k_is)
    (case z_sum => k_is)
    (case z_repr => k_is)
    (case z_zip => k_is)
    (case z_enumerate => k_is)
    (case z_reversed => k_is)
    (case gD => k_is)
    (case gN => k_is)
    (case gM => k_is)
    (case h1 => k_is)
    (case h2 => k_is)
    (case iBc => k_is)
    (case iBm => k_is)
    (case kBD => kit_is)
    (case kBN => kit_is)
    (case kBM => kit_is)
