import PyProof.Rows.All
import Wide.All
import OpenK.AllK
import Wide.FinOn
import PyProof.EqAt
import PyProof.EqKinds
import PyProof.TupleCall
import PyProof.ReprRoads
import PyProof.ReprLen
import KE.KExcSuper
import KE.KExcIs
import KE.DatumOrd
import KE.IntTextLaws
import KE.RegKSuper
import KE.RegKIsAll
import KE.RegKTryMore
import PySem.Challenge.RW_eachfloweachlink_k01_circulation_or_cut
import HandS.ForMost
import HandS.Exc
import HandS.ExcInit
import HandS.ExcOwn
import HandS.ExcField
import HandS.TryMany
import HandS.WordsExc
import HandS.Wide
import HandS.Deep
import HandS.Conv
import HandS.IsInst
import HandS.NoneIn
import HandS.Evl
import HandS.Base
import HandS.Call
import HandS.List
import HandS.Ends
import HandS.Words
import HandS.Text
import HandS.Walk
import HandS.Gcd
import HandS.More
import HandS.Style
import HandS.ForDict
set_option Elab.async false
set_option linter.all false
set_option maxRecDepth 100000
set_option maxHeartbeats 4000000
/-! # Own errors over ValueError whose __init__ says super().__init__(text) and then stores its arguments -/
namespace PySem
namespace XS
open PySem.W PySem.Calls PyProof.Rows PySem.HandSPX

/-- the text of such an __init__: the scope, the arguments, the first statement, a store -/
def supS (msg : Str) (p0 p1 p2 p3 p4 p5 : Pos) (j : Nat) : Stmt :=
  .Expr (.Call (.Attribute (.Call (.Name "super" p0) [] [] p1) "__init__" p2) [.Constant (.str msg) j p3] [] p4) p5
def stoS (f : Str) (a1 a2 a3 a4 : Pos) : Stmt := .Assign [.Attribute (.Name "self" a1) f a2] (.Name f a3) a4

/-- what the written part says of the class at C, its __init__ at fI -/
structure ErrTxt (prog : Program) (K : Frag) (mg : Str → Option Value) (x qual : Str) (st : Stmt) (fs : List Str) (C fI : Addr) : Prop where
  gC : mg x = some (.ref C)
  cls : ∃ nm q N bs bm sn sub ab col dd k0 k1 k2 k3 k5,
    K.lookup C = some (excClassObj nm q C N bs bm true sn sub ab col dd k0 k1 k2 k3 k5 "ValueError.__new__") ∧ refsVE bm = true
  sup : ks_superIn K C C "__init__" = some (some (.builtin "ValueError.__init__"))
  stc : nsIn K cStatics "thirdparty.any" = some none
  sa : findIn K (.ref C) "__setattr__" = some (some (.builtin "object.__setattr__"))
  xf : L2.xfB K C = true
  noF : ∀ f ∈ fs, findIn K (.ref C) f = some none
  iC : findIn K (.ref C) "__init__" = some (some (.ref fI))
  tI : typeIn K (.ref fI) = some (.type "function")
  kC : keepIn K (.ref C) = true
  mC : mroIn K C (.ref C) = some true
  vC : subIn K (.ref C) (.type "ValueError") = some true
  tC : typeIn K (.ref C) = some (.type "type")
  te : exmOne K (.ref C) (.ref C) = some true
  mgS : mg "super" = none
  fn : ∃ (oc : Value) (od : Option Addr) (kV doc pm : Value) (an : Option Addr) (ct : Value) (osl : Array (Option Value)) (cda cc : Addr),
    K.lookup fI = some ⟨oc, od, .func (ksFn "__init__" qual (L2.defArgs st) (L2.defBody st) (L2.defScope st) .none kV doc pm an (.ref cda) ct cc), osl⟩ ∧
    codeIn K (.ref cda) qual = true ∧
    (∃ cl cld csl, K.lookup cc = some ⟨cl, cld, .cell (some (.ref C)), csl⟩) ∧
    (∃ ccl cdd vs ccs file tf, K.lookup cda = some ⟨ccl, cdd, .fields vs, ccs⟩ ∧ vs[2]? = some (.str file tf) ∧ ((prog.main.file : Str) == file) = true)
  top : (prog.main.scope.names.lookup ("super" : Str)).isSome = false

section
variable {prog : Program} {w : World} {A : Around} {E : Value → Shared → Prop} {s : Shared} {K : Frag} {mg mb : Str → Option Value}
  {x qual : Str} {st : Stmt} {fs : List Str} {C fI : Addr}

theorem ErrTxt.cl (T : ErrTxt prog K mg x qual st fs C fI) : ∃ cd, clsIn K C = some cd ∧ refsVE cd.mro = true ∧ cd.hasDict = true := by
  obtain ⟨nm, q, N, bs, bm, sn, sub, ab, col, dd, k0, k1, k2, k3, k5, hC, hbm⟩ := T.cls
  refine ⟨{ name := nm, bases := bs, mro := .ref C :: bm, ns := N, qualname := q, hasDict := true, slotNames := sn, subclasses := sub, abstract := ab, collection := col, hasDel := false }, ?_, hbm, rfl⟩
  unfold clsIn
  rw [hC] <;> rfl

/-- the wrapper that super() hands out is called: the args are laid anew -/
theorem call_mw (T : ErrTxt prog K mg x qual st fs C fI) {u e t0 : Addr} {rest : List Value} {Q : Value → Shared → Prop} (X : K.In s.heap)
    (hu : s.heap.get? u = some (kxs_mw "ValueError.__init__" e)) (he : s.heap.get? e = some (excO C t0)) (hz : rest.length ≤ sizeLine)
    (hq : ∀ h' t1, (∀ b o, b ≠ e → s.heap.get? b = some o → h'.get? b = some o) → h'.get? e = some (excO C t1) → Q .none { s with heap := h' }) :
    wpAny (model prog w) A (call (.ref u) rest) Q E s := by
  obtain ⟨nm, q, N, bs, bm, sn, sub, ab, col, dd, k0, k1, k2, k3, k5, hC, hbm⟩ := T.cls
  have hC' := X _ _ hC
  obtain ⟨h, g, d, t, os⟩ := s
  refine wpAny_call (codeAny_of_tree ?_)
  show wpAny _ A.in1 (callAny (Value.ref u) ⟨rest, []⟩) _ _ ⟨h, g, d, t, os⟩
  simp only [callAny]
  refine wpAny_bind (wpAny_load (a := u) hu ?_)
  have z : (Value.type "method-wrapper" == Value.type "method" || Value.type "method-wrapper" == Value.type "builtin_function_or_method" || Value.type "method-wrapper" == Value.type "method-wrapper") = true := by decide
  simp only [kxs_mw, z, if_true]
  refine KFB.if_so (by decide) (wpAny_bind ?_)
  refine check_bound_init F.excBase_ValueError.toExcCallFacts hC' he rfl ?_
  refine wpAny_bind (wpAny_pure (wpAny_pure ⟨plainId_quiet F.excBase_ValueError.init.plain _, codeAny_builtin F.excBase_ValueError.initEntry ?_⟩))
  exact exc_init_tree (cls := .ref C) (t0 := t0) (dv := none) (c2 := .none) (c3 := .none) (b4 := .bool false) he hz fun h' k e' _ => hq h' _ k e'

/-- a method's call on one line: what it evaluates to, its places symbolic -/
theorem super_eval {p0 p1 p2 p4 : Pos} {es : List Expr} {env : Env} (hpos : (p2.endLine == p4.line) = true) (hform : methodCallForm es.length (backTo p4 (starEach es env)) [] = true) :
    eval (.Call (.Attribute (.Call (.Name "super" p0) [] [] p1) "__init__" p2) es [] p4) env = (do
      let ov ← attributeBase (.Call (.Name "super" p0) [] [] p1) "__init__" env (eval (.Call (.Name "super" p0) [] [] p1) env)
      standAt p2.atName
      let (f, first) ← holding [ov] (getMethod ov "__init__" (do return (← importBound (.Call (.Name "super" p0) [] [] p1) env).getD true))
      callWith p4 f first (backTo p4 (starEach es env)) []) := by
  have e1 : methodCallPos true (.Call (.Name "super" p0) [] [] p1) env p2 p4 = pure p4 := by
    unfold methodCallPos
    rw [if_pos (by rw [hpos]; rfl)]
  rw [arm_eval_Call]
  have e2 : ∀ ov : Value, methodCall (.Call (.Name "super" p0) [] [] p1) "__init__" p2 p4 env ov (es.length + 0) (backTo p4 (starEach es env)) [] = (do
      let (f, first) ← holding [ov] (getMethod ov "__init__" (do return (← importBound (.Call (.Name "super" p0) [] [] p1) env).getD true))
      callWith p4 f first (backTo p4 (starEach es env)) []) := fun ov => by
    unfold methodCall calleeOf
    rw [Nat.add_zero, hform, e1]
    rfl
  show (do
      let ov ← attributeBase (.Call (.Name "super" p0) [] [] p1) "__init__" env (eval (.Call (.Name "super" p0) [] [] p1) env)
      standAt p2.atName
      methodCall (.Call (.Name "super" p0) [] [] p1) "__init__" p2 p4 env ov (es.length + 0) (backTo p4 (starEach es env)) []) = _
  simp only [e2]
/-- the first statement of such an __init__ -/
theorem sup_stmt (T : ErrTxt prog K mg x qual st fs C fI) {qn : Str} {scope : Scope} {L f cda cc : Addr} {fd : FuncData} {o : Addr} {t0 : Addr} {m : Str → Option Value} {body : List Stmt} {ar : Arg}
    {msg : Str} {p0 p1 p2 p3 p4 p5 : Pos} {j : Nat} {Q : Flow → Shared → Prop} {oc : Value} {od : Option Addr} {osl : Array (Option Value)}
    (X : K.In s.heap) (hg : s.heap.Ns mainGlobals mg) (hb : s.heap.Ns builtinsNs mb) (hmb : mb "super" = some (.type "super"))
    (hm : s.heap.Ns L m) (hself : m ar.arg = some (.ref o)) (ho : s.heap.get? o = some (excO C t0)) (hoC : o ≠ C)
    (hf : K.lookup f = some ⟨oc, od, .func fd, osl⟩) (hp : (fd.params.posonlyargs ++ fd.params.args).head? = some ar)
    (hcell : ∃ cl cld csl, K.lookup cc = some ⟨cl, cld, .cell (some (.ref C)), csl⟩)
    (hcode : ∃ ccl cdd vs ccs file tf, K.lookup cda = some ⟨ccl, cdd, .fields vs, ccs⟩ ∧ vs[2]? = some (.str file tf) ∧ ((prog.main.file : Str) == file) = true)
    (hk : scope.kind = .function) (hks : scope.names.lookup ("super" : Str) = some .globalImplicit) (hkc : scope.names.lookup ("__class__" : Str) = some .free) (hka : scope.names.lookup ar.arg = some .local)
    (hq : ∀ h' tk t1, (∀ b u, b ≠ o → s.heap.get? b = some u → h'.get? b = some u) → h'.get? o = some (excO C t1) → Q .next { s with heap := h', toks := tk })
    (hpos : (p2.endLine == p4.line) = true) (hi : interactive (ksEnv qn scope L f (.ref cda) cc) = false := by rfl) :
    PySem.wpAt (model prog w) A (.func body (ksEnv qn scope L f (.ref cda) cc)) (exec (supS msg p0 p1 p2 p3 p4 p5 j) (ksEnv qn scope L f (.ref cda) cc)) Q E s := by
  obtain ⟨cl, cld, csl, hcell⟩ := hcell
  obtain ⟨ccl, cdd, vs, ccs, file, tf, hcode, hvs, hfile⟩ := hcode
  obtain ⟨nm, q, N, bs, bm, sn, sub, ab, col, dd, k0, k1, k2, k3, k5, hC, hbm⟩ := id T.cls
  have hcl : clsIn K C = some { name := nm, bases := bs, mro := .ref C :: bm, ns := N, qualname := q, hasDict := true, slotNames := sn, subclasses := sub, abstract := ab, collection := col, hasDel := false } := by
    unfold clsIn
    rw [hC] <;> rfl
  have hsup := T.sup
  unfold ks_superIn at hsup
  rw [hcl, Option.bind_some] at hsup
  obtain ⟨hh, g, d, t, os⟩ := s
  unfold supS
  refine ks_wpAt_Expr_any (ks_wpAt_MethodCall ?_ (super_eval hpos (by rfl))) hi (by rfl)
  refine ks_wpAt_super_base (env := ksEnv qn scope L f (.ref cda) cc) hks hkc (by decide) rfl (X _ _ hf) rfl hp rfl (X _ _ hcode) rfl hvs hfile T.top ?_
  refine ks_loadName_global hk hks (loadGlobal_builtin (env := ksEnv qn scope L f (.ref cda) cc) hg T.mgS hb hmb ⟨rfl, ?_⟩)
  refine wpAny_loadName_free hk hkc rfl ⟨_, X _ _ hcell, rfl⟩ ?_
  refine wpAny_loadName_local hk hka hm hself ?_
  refine ks_wpAny_isType_cls (X _ _ hC) rfl ⟨rfl, ?_⟩
  refine ks_wpAny_call_super (X _ _ hC) rfl ho rfl (fun c z => by cases z) (looks_mroIn X T.mC) fun h1 e1 kp1 => ?_
  have X1 : K.In h1 := X.keeps kp1
  have ho1 := kp1 _ _ ho
  have I1 : InstAt h1 o (excO C t0) C none := ⟨ho1, rfl, rfl, trivial⟩
  refine kxs_getMethod kxs_ValueError e1 (looks_opaque X1 T.stc) (l₀ := .ref C :: bm) ?_ rfl X1 hsup (I1.type.andThen (looks_subIn X1 T.vC)) hoC (by decide) ?_
  · exact (looks_clsIn X1 hcl).andThen .now
  have kp2 : ∀ b u, h1.get? b = some u → (h1.push (kxs_mw "ValueError.__init__" o)).get? b = some u := fun b u e => Heap.get?_push_of_some _ e
  show wpAny _ _ (callWith p4 (Value.ref h1.objs.size) [] ((false, eval (.Constant (.str msg) j p3) (ksEnv qn scope L f (.ref cda) cc)) :: []) []) _ _ _
  refine kxs_callWith (i := "ValueError.__init__") (x := o) (u := h1.objs.size) rfl (evalArgs_plain (Calls.spliced_cons (wpAny_Constant_str (Calls.spliced_nil ⟨?_, ?_⟩))))
  · show KxsAt _ _ _ (h1.push (kxs_mw "ValueError.__init__" o))
    exact Heap.get?_push_at rfl rfl
  · refine call_mw T (X1.keeps kp2) (e := o) (t0 := t0) (Heap.get?_push_at rfl rfl) (kp2 _ _ ho1) (by show 1 ≤ sizeLine; decide) fun h3 t1 k3 e3 => ?_
    exact hq h3 _ t1 (fun b u hb z => k3 b u hb (kp2 b u (kp1 b u z))) e3

/-- the stores that follow -/
inductive Stos : List Stmt → List Str → Prop
  | nil : Stos [] []
  | cons {f : Str} {a1 a2 a3 a4 : Pos} {r : List Stmt} {gs : List Str} (h : Stos r gs) : Stos (stoS f a1 a2 a3 a4 :: r) (f :: gs)
def mpOf : List (Str × Value) → Str → Option Value
  | [], _ => none
  | (f, v) :: r, y => if y = f then some v else mpOf r y
theorem mpOf_cons (f : Str) (v : Value) (r : List (Str × Value)) : mpOf ((f, v) :: r) = fun y => if y = f then some v else mpOf r y := rfl
theorem mpOf_within : ∀ l : List (Str × Value), Within (mpOf l) (l.map (·.1))
  | [] => Within.nil
  | (f, v) :: r => Within.cons f v (mpOf_within r)
/-- at o: an exception of the class at C whose own dict at dx holds l -/
structure ErrAt (h : Heap) (o C dx : Addr) (l : List (Str × Value)) : Prop where
  obj : ∃ t1 : Addr, h.get? o = some { cls := .ref C, dict := some dx, data := .fields #[.ref t1, .none, .none, .none, .bool false, .none] }
  ns : h.Ns1 dx (mpOf l)

theorem lkL {M : Model} {env : Env} {m : Str → Option Value} {y : Str} {pos : Pos} {v : Value} {Q : Value → Shared → Prop} (hn : s.heap.Ns env.locals m) (hv : m y = some v) (h : Q v s)
    (hk : env.scope.kind = .function) (hl : env.kindOf y = some .local) (hd : (y == ("__debug__" : Str)) = false) :
    wpAny M A (eval (.Name y pos) env) Q E s :=
  wpAny_Name (wpAny_loadName_local hk hl hn hv h) hd

/-- a further store -/
theorem sto_old (T : ErrTxt prog K mg x qual st fs C fI) {env : Env} {o dx : Addr} {f : Str} {a1 a2 a3 a4 : Pos} {v : Value} {m : Str → Option Value} {l : List (Str × Value)} {Q : Flow → Shared → Prop}
    (X : K.In s.heap) (hm : s.heap.Ns env.locals m) (hself : m "self" = some (.ref o)) (hv : m f = some v) (hE : ErrAt s.heap o C dx l) (hl : l.length ≤ 900) (hfs : f ∈ fs)
    (hk : env.scope.kind = .function) (h1 : env.kindOf "self" = some .local) (h2 : env.kindOf f = some .local) (hd : (f == ("__debug__" : Str)) = false)
    (hq : ∀ h' tk, (∀ b u, b ≠ dx → s.heap.get? b = some u → h'.get? b = some u) → h'.Ns1 dx (mpOf ((f, v) :: l)) → Q .next { s with heap := h', toks := tk }) :
    wpAny (model prog w) A (exec (stoS f a1 a2 a3 a4) env) Q E s := by
  obtain ⟨cd, hcd, hmro, hdict⟩ := T.cl
  obtain ⟨⟨t1, hobj⟩, hns⟩ := hE
  obtain ⟨oD, _, _, hoD, _, _⟩ := hns.count (mpOf_within l)
  obtain ⟨hh, g, d, t, os⟩ := s
  unfold stoS
  refine plainObj_wpAny_Assign_Attribute (lkL (v := v) hm hv (lkL (v := .ref o) hm hself ?_ hk h1 (by decide)) hk h2 hd)
  refine set_plain X (ox := { cls := .ref C, dict := some dx, data := .fields #[.ref t1, .none, .none, .none, .bool false, .none] }) (od := some oD) ⟨hobj, rfl, rfl, hoD⟩ T.sa ?_
  exact PySem.OEX.osa_old X hobj hns (mpOf_within l) (by rw [List.length_map]; omega) hcd hmro hdict (T.noF f hfs) fun h' tk' k hn => hq h' tk' k hn
/-- the first store: the own dict is laid -/
theorem sto_new (T : ErrTxt prog K mg x qual st fs C fI) {env : Env} {o t1 : Addr} {f : Str} {a1 a2 a3 a4 : Pos} {v : Value} {m : Str → Option Value} {Q : Flow → Shared → Prop}
    (X : K.In s.heap) (hm : s.heap.Ns env.locals m) (hself : m "self" = some (.ref o)) (hv : m f = some v) (hobj : s.heap.get? o = some (excO C t1)) (hfs : f ∈ fs)
    (hk : env.scope.kind = .function) (h1 : env.kindOf "self" = some .local) (h2 : env.kindOf f = some .local) (hd : (f == ("__debug__" : Str)) = false)
    (hq : ∀ h' tk dx, (∀ b u, b ≠ o → s.heap.get? b = some u → h'.get? b = some u) → s.heap.objs.size ≤ dx → dx ≠ o → ErrAt h' o C dx [(f, v)] → Q .next { s with heap := h', toks := tk }) :
    wpAny (model prog w) A (exec (stoS f a1 a2 a3 a4) env) Q E s := by
  obtain ⟨cd, hcd, hmro, hdict⟩ := T.cl
  obtain ⟨hh, g, d, t, os⟩ := s
  unfold stoS
  refine plainObj_wpAny_Assign_Attribute (lkL (v := v) hm hv (lkL (v := .ref o) hm hself ?_ hk h1 (by decide)) hk h2 hd)
  refine set_plain X (ox := excO C t1) (od := none) ⟨hobj, rfl, rfl, trivial⟩ T.sa ?_
  exact exc_osa X hobj hcd hmro hdict (T.noF f hfs) fun h' tk' dx k dn dne hx hn => hq h' tk' dx k dn dne ⟨⟨t1, hx⟩, hn⟩

theorem sto_run (T : ErrTxt prog K mg x qual st fs C fI) {env : Env} {o dx : Addr} {m : Str → Option Value} {Q : Flow → Shared → Prop}
    (hk : env.scope.kind = .function) (h1 : env.kindOf "self" = some .local) (hself : m "self" = some (.ref o)) (hLo : env.locals ≠ dx) (hodx : dx ≠ o) :
    ∀ {body : List Stmt} {gs : List Str}, Stos body gs → ∀ (ps : List (Str × Value)) (l : List (Str × Value)) (s : Shared), ps.map (·.1) = gs → (∀ p ∈ ps, m p.1 = some p.2 ∧ p.1 ∈ fs ∧ env.kindOf p.1 = some .local ∧ (p.1 == ("__debug__" : Str)) = false) →
      l.length + ps.length ≤ 900 → K.In s.heap → K.lookup dx = none → s.heap.Ns env.locals m → ErrAt s.heap o C dx l →
      (∀ h' tk, (∀ b u, b ≠ dx → s.heap.get? b = some u → h'.get? b = some u) → h'.Ns1 dx (mpOf (ps.reverse ++ l)) → Q .next { s with heap := h', toks := tk }) →
      wpAny (model prog w) A (execs body env) Q E s := by
  intro body gs hst
  induction hst with
  | nil =>
    intro ps l s e hp hl X hdx hm hE hq
    cases ps with
    | cons _ _ => cases e
    | nil =>
      refine wpAny_execs_nil ?_
      exact hq s.heap s.toks (fun _ _ _ z => z) hE.ns
  | @cons f a1 a2 a3 a4 r gs hst ih =>
    intro ps l s e hp hl X hdx hm hE hq
    cases ps with
    | nil => cases e
    | cons p ps =>
      obtain ⟨pf, v⟩ := p
      have e1 : pf = f := (List.cons.inj e).1
      subst e1
      obtain ⟨hv, hfs, hkf, hdf⟩ := hp (pf, v) List.mem_cons_self
      refine wpAny_execs_cons (sto_old T X hm hself hv hE (by simp only [List.length_cons] at hl; omega) hfs hk h1 hkf hdf fun h' tk k hn => ?_)
      obtain ⟨oL, es, ep, hL, hr⟩ := hm
      have kK : K.In h' := fun a u z => k a u (fun y => by rw [y, hdx] at z; cases z) (X a u z)
      refine ih ps ((pf, v) :: l) { s with heap := h', toks := tk } (List.cons.inj e).2 (fun q hq => hp q (List.mem_cons_of_mem _ hq)) (by simp only [List.length_cons] at hl ⊢; omega) kK hdx ⟨oL, es, ep, k _ _ hLo hL, hr⟩ ⟨?_, hn⟩ fun h2 tk2 k2 hn2 => ?_
      · obtain ⟨t1, z⟩ := hE.obj
        exact ⟨t1, k _ _ (Ne.symm hodx) z⟩
      · refine hq h2 tk2 (fun b u hb z => k2 b u hb (k b u hb z)) ?_
        rw [List.reverse_cons, List.append_assoc]
        exact hn2

/-- what the text of the __init__ must be (each by rfl or decide at a written text) -/
structure ErrSyn (qual : Str) (st : Stmt) (f0 : Str) (gs : List Str) : Prop where
  body : ∃ (msg : Str) (p0 p1 p2 p3 p4 p5 : Pos) (j : Nat) (a1 a2 a3 a4 : Pos) (r : List Stmt), L2.defBody st = supS msg p0 p1 p2 p3 p4 p5 j :: stoS f0 a1 a2 a3 a4 :: r ∧ Stos r gs ∧ (p2.endLine == p4.line) = true
  ar : ∃ ar : Arg, ((L2.defArgs st).posonlyargs ++ (L2.defArgs st).args).head? = some ar ∧ ar.arg = "self"
  kind : (L2.defScope st).kind = .function
  sup : (L2.defScope st).names.lookup ("super" : Str) = some .globalImplicit
  cls : (L2.defScope st).names.lookup ("__class__" : Str) = some .free
  self : (L2.defScope st).names.lookup ("self" : Str) = some .local
  loc : ∀ f ∈ f0 :: gs, (L2.defScope st).names.lookup f = some .local ∧ (f == ("__debug__" : Str)) = false
  cell : ∀ y ∈ (L2.defScope st).names, y.2 ≠ .cell
  co : (L2.defScope st).isCoroutine = false
  gen : (L2.defScope st).isGenerator = false
  nd : ((("self" : Str) :: f0 :: gs) : List Str).Nodup
  short : gs.length ≤ 100
  bind : ∀ (kV doc pm : Value) (an : Option Addr) (cdv ct : Value) (cc : Addr) (us : List Value), us.length = ((("self" : Str) :: f0 :: gs) : List Str).length →
    ∀ s : Shared, BindsTo s (ksFn "__init__" qual (L2.defArgs st) (L2.defBody st) (L2.defScope st) .none kV doc pm an cdv ct cc) ⟨us, []⟩ (((("self" : Str) :: f0 :: gs) : List Str).zip us)

theorem lookup_rev {n : Str} {v : Value} : ∀ {l : List (Str × Value)}, (l.map (·.1)).Nodup → (n, v) ∈ l → l.reverse.lookup n = some v := by
  intro l
  induction l with
  | nil => intro _ h; cases h
  | cons p l ih =>
    intro nd h
    obtain ⟨f, u⟩ := p
    rw [List.map_cons, List.nodup_cons] at nd
    rw [List.reverse_cons, List.lookup_append]
    rcases List.mem_cons.mp h with e | h
    · cases e
      have z : l.reverse.lookup n = none := by
        rw [List.lookup_eq_none_iff]
        intro q hq
        have : q.1 ∈ l.map (·.1) := List.mem_map_of_mem (List.mem_reverse.mp hq)
        have ne : ¬ n = q.1 := fun e => nd.1 (by rw [e]; exact this)
        simp [ne]
      rw [z]
      simp [List.lookup]
    · rw [ih nd.2 h]
      rfl

theorem zip_map1 : ∀ (ns : List Str) (us : List Value), us.length = ns.length → (ns.zip us).map (·.1) = ns
  | [], _, _ => rfl
  | n :: ns, [], h => by cases h
  | n :: ns, u :: us, h => by
    show n :: (ns.zip us).map (·.1) = n :: ns
    rw [zip_map1 ns us (Nat.succ.inj h)]

theorem errs_init (T : ErrTxt prog K mg x qual st fs C fI) {f0 : Str} {gs : List Str} (S : ErrSyn qual st f0 gs) (hfs : fs = f0 :: gs) {R : Result → Shared → Prop} {o t0 : Addr} {v0 : Value} {vs : List Value}
    (X : K.In s.heap) (hlim : s.heap.NoLimit) (hg : s.heap.Ns mainGlobals mg) (hb : s.heap.Ns builtinsNs mb) (hmb : mb "super" = some (.type "super"))
    (ho : s.heap.get? o = some (excO C t0)) (hno : K.lookup o = none) (hroom : A.depth < recursionLimit) (hlen : vs.length = gs.length)
    (hq : ∀ h' tk dx, (∀ b u, b ≠ o → s.heap.get? b = some u → h'.get? b = some u) → s.heap.objs.size ≤ dx → dx ≠ o → ErrAt h' o C dx (((f0, v0) :: gs.zip vs).reverse) → R (.ok (.ret .none)) { s with heap := h', toks := tk }) :
    codeAny (model prog w) A (.call (.ref fI) ⟨.ref o :: v0 :: vs, []⟩) R s := by
  obtain ⟨oc, od, kV, doc, pm, an, ct, osl, cda, cc, lk, hcd, hcell, hcode⟩ := T.fn
  obtain ⟨msg, p0, p1, p2, p3, p4, p5, j, a1, a2, a3, a4, r, hbody, hst, hpos⟩ := S.body
  obtain ⟨ar, har, hself⟩ := S.ar
  have hCo : o ≠ C := by
    rintro rfl
    obtain ⟨nm, q, N, bs, bm, sn, sub, ab, col, dd, k0, k1, k2, k3, k5, hC, hbm⟩ := T.cls
    rw [hno] at hC
    cases hC
  have hlt : o < s.heap.objs.size := Heap.lt_size ho
  have hulen : (Value.ref o :: v0 :: vs).length = ((("self" : Str) :: f0 :: gs) : List Str).length := by simp [hlen]
  have nd : ((((("self" : Str) :: f0 :: gs) : List Str).zip (Value.ref o :: v0 :: vs)).map (·.1)).Nodup := by
    rw [zip_map1 _ _ hulen]
    exact S.nd
  refine ks_codeAny_call_defAt (fd := ksFn "__init__" qual (L2.defArgs st) (L2.defBody st) (L2.defScope st) .none kV doc pm an (.ref cda) ct cc) (body := L2.defBody st) (binds := ((("self" : Str) :: f0 :: gs) : List Str).zip (Value.ref o :: v0 :: vs))
    hroom (X _ _ lk) rfl hlim (codeRec_of X hcd) rfl (S.bind _ _ _ _ _ _ _ _ hulen s) S.cell (fun y hy => ?_) (fun h0 hns hk0 => ?_) S.co S.gen S.kind
  · have : y.1 ∈ ((("self" : Str) :: f0 :: gs) : List Str) := (List.of_mem_zip hy).1
    rcases List.mem_cons.mp this with e | e
    · rw [e]; exact S.self
    · exact (S.loc _ e).1
  show PySem.wpAt _ (A.deeper (ksEnv qual (L2.defScope st) s.heap.objs.size fI (.ref cda) cc)) (.func (L2.defBody st) (ksEnv qual (L2.defScope st) s.heap.objs.size fI (.ref cda) cc)) (execs (L2.defBody st) (ksEnv qual (L2.defScope st) s.heap.objs.size fI (.ref cda) cc)) _ _ _
  have hb2 : execs (L2.defBody st) (ksEnv qual (L2.defScope st) s.heap.objs.size fI (.ref cda) cc) = execs (supS msg p0 p1 p2 p3 p4 p5 j :: stoS f0 a1 a2 a3 a4 :: r) (ksEnv qual (L2.defScope st) s.heap.objs.size fI (.ref cda) cc) := by rw [hbody]
  rw [hb2]
  have X0 : K.In h0 := X.keeps hk0
  have m_self : (((("self" : Str) :: f0 :: gs) : List Str).zip (Value.ref o :: v0 :: vs)).reverse.lookup ("self" : Str) = some (.ref o) := lookup_rev nd List.mem_cons_self
  have m_f0 : (((("self" : Str) :: f0 :: gs) : List Str).zip (Value.ref o :: v0 :: vs)).reverse.lookup f0 = some v0 := lookup_rev nd (List.mem_cons_of_mem _ List.mem_cons_self)
  have hLo : s.heap.objs.size ≠ o := Nat.ne_of_gt hlt
  refine ks_wpAt_execs_cons (sup_stmt T (fd := ksFn "__init__" qual (L2.defArgs st) (L2.defBody st) (L2.defScope st) .none kV doc pm an (.ref cda) ct cc) (ar := ar) (o := o) (t0 := t0) (m := fun y => (((("self" : Str) :: f0 :: gs) : List Str).zip (Value.ref o :: v0 :: vs)).reverse.lookup y)
    X0 (hg.keeps hk0) (hb.keeps hk0) hmb hns (by rw [hself]; exact m_self) (hk0 _ _ ho) hCo lk har hcell hcode S.kind S.sup S.cls (by rw [hself]; exact S.self) (fun h1 tk1 t1 k1 e1 => ?_) hpos (by unfold interactive; simp [S.kind]))
  show PySem.wpAt _ _ _ (execs _ _) _ _ _
  refine wpAt_of_wpAny ?_
  have hns0 := hns
  obtain ⟨oL, es, ep, hL, hr⟩ := hns
  have hns1 : h1.Ns s.heap.objs.size (fun y => (((("self" : Str) :: f0 :: gs) : List Str).zip (Value.ref o :: v0 :: vs)).reverse.lookup y) := ⟨oL, es, ep, k1 _ _ hLo hL, hr⟩
  have X1 : K.In h1 := fun a u z => k1 a u (fun y => by rw [y, hno] at z; cases z) (X0 a u z)
  refine wpAny_execs_cons (sto_new T (m := fun y => (((("self" : Str) :: f0 :: gs) : List Str).zip (Value.ref o :: v0 :: vs)).reverse.lookup y) X1 hns1 m_self m_f0 e1 (by rw [hfs]; exact List.mem_cons_self) S.kind S.self (S.loc f0 List.mem_cons_self).1 (S.loc f0 List.mem_cons_self).2
    fun h2 tk2 dx k2 dn dne hE => ?_)
  have hL1 : s.heap.objs.size < h1.objs.size := hns1.lt
  have hLdx : s.heap.objs.size ≠ dx := Nat.ne_of_lt (Nat.lt_of_lt_of_le hL1 dn)
  have hKdx : K.lookup dx = none := by
    cases z : K.lookup dx with
    | none => rfl
    | some u => exact absurd (Nat.lt_of_lt_of_le (Heap.lt_size (X1 _ _ z)) dn) (Nat.lt_irrefl _)
  have X2 : K.In h2 := fun a u z => k2 a u (fun y => by rw [y, hno] at z; cases z) (X1 a u z)
  show wpAny _ _ (execs r _) _ _ _
  refine sto_run T (env := ksEnv qual (L2.defScope st) s.heap.objs.size fI (.ref cda) cc) (dx := dx) (o := o) (m := fun y => (((("self" : Str) :: f0 :: gs) : List Str).zip (Value.ref o :: v0 :: vs)).reverse.lookup y) S.kind S.self m_self hLdx dne hst (gs.zip vs) [(f0, v0)] _ (zip_map1 gs vs hlen) (fun p hp => ?_) ?_ X2 hKdx ?_ hE fun h3 tk3 k3 hn3 => ?_
  · have pg : p.1 ∈ gs := (List.of_mem_zip hp).1
    exact ⟨lookup_rev nd (List.mem_cons_of_mem _ (List.mem_cons_of_mem _ hp)), by rw [hfs]; exact List.mem_cons_of_mem _ pg, (S.loc _ (List.mem_cons_of_mem _ pg)).1, (S.loc _ (List.mem_cons_of_mem _ pg)).2⟩
  · rw [List.length_zip]
    have := S.short
    simp only [List.length_cons, List.length_nil]
    omega
  · exact ⟨oL, es, ep, k2 _ _ hLo (k1 _ _ hLo hL), hr⟩
  · refine hq h3 _ dx (fun b u hb z => ?_) (Nat.le_of_lt (Nat.lt_of_lt_of_le hL1 dn)) dne ?_
    · have z0 := hk0 b u z
      have z1 := k1 b u hb z0
      have z2 := k2 b u hb z1
      exact k3 b u (Nat.ne_of_lt (Nat.lt_trans (Heap.lt_size z) (Nat.lt_of_lt_of_le hL1 dn))) z2
    · obtain ⟨t2, z⟩ := hE.obj
      refine ⟨⟨t2, k3 _ _ (Ne.symm dne) z⟩, ?_⟩
      rw [List.reverse_cons]
      exact hn3

/-- a made error: at e, its own dict at d -/
structure Made (h h' : Heap) (e C d : Addr) (l : List (Str × Value)) : Prop where
  keep : ∀ b o, h.get? b = some o → h'.get? b = some o
  new : h.objs.size ≤ e
  dbig : h.objs.size ≤ d
  dne : d ≠ e
  er : ErrAt h' e C d l

theorem errs_made (T : ErrTxt prog K mg x qual st fs C fI) {f0 : Str} {gs : List Str} (S : ErrSyn qual st f0 gs) (hfs : fs = f0 :: gs) {R : Result → Shared → Prop} {v0 : Value} {vs : List Value}
    (X : K.In s.heap) (hlim : s.heap.NoLimit) (hg : s.heap.Ns mainGlobals mg) (hb : s.heap.Ns builtinsNs mb) (hmb : mb "super" = some (.type "super"))
    (hroom : A.depth + 1 < recursionLimit) (hlen : vs.length = gs.length)
    (hq : ∀ h' tk e d, Made s.heap h' e C d (((f0, v0) :: gs.zip vs).reverse) → R (.ok (.ret (.ref e))) { s with heap := h', toks := tk }) :
    codeAny (model prog w) A (.call (.ref C) ⟨v0 :: vs, []⟩) R s := by
  obtain ⟨nm, q, N, bs, bm, sn, sub, ab, col, dd, k0, k1, k2, k3, k5, hC, hbm⟩ := id T.cls
  obtain ⟨hp, g, dr, tk, os⟩ := s
  have k : ∀ b o, hp.get? b = some o → ((hp.push (kdv_tup (v0 :: vs))).push (excO C hp.objs.size)).get? b = some o := fun b o e => Heap.get?_push_of_some _ (Heap.get?_push_of_some _ e)
  have hget : ((hp.push (kdv_tup (v0 :: vs))).push (excO C hp.objs.size)).get? (hp.objs.size + 1) = some (excO C hp.objs.size) := by heap_get
  have hnx : K.lookup (hp.objs.size + 1) = none := by
    cases e : K.lookup (hp.objs.size + 1) with
    | none => rfl
    | some o =>
      have z : hp.get? (hp.objs.size + 1) = some o := X _ _ e
      exact absurd (Nat.lt_of_succ_lt (Heap.lt_size z)) (Nat.lt_irrefl _)
  have hsz : (v0 :: vs).length ≤ sizeLine := by
    have := S.short
    have z : 101 ≤ sizeLine := by decide
    simp only [List.length_cons, hlen]
    omega
  refine call_own F.excBase_ValueError (fun X => refsVE_contains X bm hbm) (X _ _ hC) (looks_findIn X T.iC) (fun self => bind_fn X self T.tI) hsz ?_
  refine errs_init (s := ⟨(hp.push (kdv_tup (v0 :: vs))).push (excO C hp.objs.size), g, dr, tk, os⟩) T S hfs (X.keeps k) (hlim.keeps k) (hg.keeps k) (hb.keeps k) hmb hget hnx ?_ hlen fun h' tk' dx k' dn dne hE => ?_
  · show A.depth + 1 < recursionLimit
    exact hroom
  · have old : ∀ b o, hp.get? b = some o → h'.get? b = some o := fun b o e => k' b o (Nat.ne_of_lt (Nat.lt_succ_of_lt (Heap.lt_size e))) (k b o e)
    have z : hp.objs.size + 1 + 1 ≤ dx := by
      first
        | (simpa only [Heap.size_push] using dn)
        | exact dn
        | (have q := dn; rw [Heap.size_push, Heap.size_push] at q; exact q)
    exact ⟨rfl, hq h' tk' (hp.objs.size + 1) dx ⟨old, Nat.le_succ _, Nat.le_trans (Nat.le_trans (Nat.le_succ _) (Nat.le_succ _)) z, dne, hE⟩⟩
end
end XS
end PySem

namespace PySem
namespace XS
open PySem.W PySem.Calls PyProof.Rows PySem.HandSPX
/-! ### what the top must have written, fact by fact -/
theorem exm_of {K : Frag} {D S : Addr} {b : Bool} (h1 : subIn K (.ref S) (.type "BaseException") = some true) (h2 : isClsIn K S = true) (h3 : typeIn K (.ref S) = some (.type "type")) (h4 : subIn K (.ref D) (.ref S) = some b) :
    exmOne K (.ref D) (.ref S) = some b := by
  have e1 : (subIn K (.ref S) (.type "BaseException") == some true) = true := by rw [h1] <;> rfl
  have e2 : ((clsIn K S).isSome && typeIn K (.ref S) == some (.type "type")) = true := by
    have h2' : (clsIn K S).isSome = true := h2
    rw [h2', h3] <;> rfl
  show (if (subIn K (.ref S) (.type "BaseException") == some true) = true then (if ((clsIn K S).isSome && typeIn K (.ref S) == some (.type "type")) = true then subIn K (.ref D) (.ref S) else none) else none) = some b
  rw [if_pos e1, if_pos e2]
  exact h4
theorem xf_of {K : Frag} {C : Addr} (ga : findIn K (.ref C) "__getattribute__" = some (some (.builtin "BaseException.__getattribute__"))) (gg : findIn K (.ref C) "__getattr__" = some none)
    (eC : subIn K (.ref C) (.type "BaseException") = some true) (hC : hasDictIn K C = true) : L2.xfB K C = true := by
  unfold L2.xfB
  rw [decide_eq_true ga, decide_eq_true gg, decide_eq_true eC, hC]
  rfl
theorem errTxt_mk {prog : Program} {K : Frag} {h : Heap} {mg : Str → Option Value} {x qual : Str} {st : Stmt} {fs : List Str} {C fI : Addr} (X : K.In h) (G : h.Ns mainGlobals mg)
    {nm q : Str} {N : Addr} {bs bm : List Value} {sn : List Str} {sub : List Value} {ab : Bool} {col : Option Bool} {dd : Option Addr} {m0 m1 m2 m3 m5 : Option Value}
    {oc kV doc pm ct : Value} {od an : Option Addr} {osl : Array (Option Value)} {cda cc : Addr} {cl : Value} {cld : Option Addr} {csl : Array (Option Value)} {ccl : Value} {cdd : Option Addr} {vs : Array Value} {ccs : Array (Option Value)} {file : Str} {tf : Tok}
    (gC : nsIn K mainGlobals x = some (some (.ref C)))
    (xL : K.lookup C = some (excClassObj nm q C N bs bm true sn sub ab col dd m0 m1 m2 m3 m5 "ValueError.__new__")) (hbm : refsVE bm = true)
    (sup : ks_superIn K C C "__init__" = some (some (.builtin "ValueError.__init__"))) (stc : nsIn K cStatics "thirdparty.any" = some none)
    (sa : findIn K (.ref C) "__setattr__" = some (some (.builtin "object.__setattr__")))
    (ga : findIn K (.ref C) "__getattribute__" = some (some (.builtin "BaseException.__getattribute__"))) (gg : findIn K (.ref C) "__getattr__" = some none)
    (eC : subIn K (.ref C) (.type "BaseException") = some true) (hC : hasDictIn K C = true) (noF : ∀ f ∈ fs, findIn K (.ref C) f = some none)
    (iC : findIn K (.ref C) "__init__" = some (some (.ref fI))) (tI : typeIn K (.ref fI) = some (.type "function")) (kC : keepIn K (.ref C) = true)
    (mC : mroIn K C (.ref C) = some true) (vC : subIn K (.ref C) (.type "ValueError") = some true) (tC : typeIn K (.ref C) = some (.type "type"))
    (isC : isClsIn K C = true) (sC : subIn K (.ref C) (.ref C) = some true) (mgS : nsIn K mainGlobals "super" = some none)
    (l : K.lookup fI = some ⟨oc, od, .func (ksFn "__init__" qual (L2.defArgs st) (L2.defBody st) (L2.defScope st) .none kV doc pm an (.ref cda) ct cc), osl⟩) (c : codeIn K (.ref cda) qual = true)
    (lc : K.lookup cc = some ⟨cl, cld, .cell (some (.ref C)), csl⟩) (ld : K.lookup cda = some ⟨ccl, cdd, .fields vs, ccs⟩) (hv : vs[2]? = some (.str file tf)) (hf : ((prog.main.file : Str) == file) = true)
    (top : (prog.main.scope.names.lookup ("super" : Str)).isSome = false) : ErrTxt prog K mg x qual st fs C fI :=
  { gC := mg_of X G gC, cls := ⟨nm, q, N, bs, bm, sn, sub, ab, col, dd, m0, m1, m2, m3, m5, xL, hbm⟩, sup := sup, stc := stc, sa := sa, xf := xf_of ga gg eC hC, noF := noF, iC := iC, tI := tI, kC := kC, mC := mC, vC := vC, tC := tC,
    te := exm_of eC isC tC sC, mgS := mg_none_of X G mgS, fn := ⟨oc, od, kV, doc, pm, an, ct, osl, cda, cc, l, c, ⟨cl, cld, csl, lc⟩, ⟨ccl, cdd, vs, ccs, file, tf, ld, hv, hf⟩⟩, top := top }
end XS
end PySem

namespace L2
open PySem PySem.Spec PyProof.Rows

theorem pair_app {α β : Type} {F : α → β → Prop} {l1 : List α} {u1 : List β} (h : Paired F l1 u1) : ∀ {l2 : List α} {u2 : List β}, Paired F l2 u2 → Paired F (l1 ++ l2) (u1 ++ u2) := by
  induction h with
  | nil => intro l2 u2 g; exact g
  | cons r _ ih => intro l2 u2 g; exact .cons r (ih g)
theorem pair_rev {α β : Type} {F : α → β → Prop} {l : List α} {u : List β} (h : Paired F l u) : Paired F l.reverse u.reverse := by
  induction h with
  | nil => exact .nil
  | cons r _ ih =>
    rw [List.reverse_cons, List.reverse_cons]
    exact pair_app ih (.cons r .nil)
abbrev FV : (Str × V) → (Str × Value) → Prop := fun p q => p.1 = q.1 ∧ RelV p.2 q.2
theorem pair_zip : ∀ {ns : List Str} {vs : List V} {us : List Value}, Vals vs us → Paired FV (ns.zip vs) (ns.zip us)
  | [], _, _, _ => .nil
  | _ :: _, _, _, .nil => .nil
  | n :: ns, _, _, .cons r t => .cons ⟨rfl, r⟩ (pair_zip (ns := ns) t)
theorem relO_mp {l : List (Str × V)} {u : List (Str × Value)} (h : Paired FV l u) (g : Str) : RelO (l.lookup g) (XS.mpOf u g) := by
  induction h with
  | nil => exact True.intro
  | @cons p q l u r _ ih =>
    obtain ⟨f, v⟩ := p
    obtain ⟨f', w⟩ := q
    obtain ⟨e, rv⟩ := r
    dsimp only at e rv
    subst e
    rw [lookup_put, XS.mpOf_cons]
    dsimp only
    by_cases hw : g = f
    · rw [if_pos hw, if_pos hw]
      exact rv
    · rw [if_neg hw, if_neg hw]
      exact ih

/-- C(e, ..) of such an error: its own dict, new, holds the fields (the last one first) -/
def tMkE (C : Addr) (ns : List Str) (ta : TA) : St → Hp → XK → Prop := fun σ H Q => ta σ H fun vs H1 => vs.length = ns.length ∧ ∀ d, H1 d = none → Q (.ref C) (some d) (upd H1 d (.xd (ns.zip vs).reverse))
def tRaiseE (C : Addr) (ns : List Str) (W : WX) (ta : TA) : TS := fun _ σ H => tMkE C ns ta σ H fun cls d H' => W cls d σ H'

section
variable {X : Cx} {C fI : Addr} {x qual : Str} {st : Stmt} {f0 : Str} {gs : List Str}
theorem pmk_err {e : Expr} {es : List Expr} {ta : TA} {p pos : Pos} {k : Nat} (T : XS.ErrTxt X.prog X.K X.mg x qual st (f0 :: gs) C fI) (S : XS.ErrSyn qual st f0 gs) (hr : Room k X.A) (ha : PA X (e :: es) ta) (hg : Gl X x := by rfl)
    (hdb : (x == ("__debug__" : Str)) = false := by decide) (he : starEach (e :: es) X.env = (false, eval e X.env) :: starEach es X.env := by rfl) (hpl : (backTo pos (starEach es X.env)).any (·.1) = false := by rfl) :
    PMk X (.Call (.Name x p) (e :: es) [] pos) (tMkE C (f0 :: gs) ta) := by
  intro pins s σ H Q I h
  obtain ⟨mb, hb1, hb2⟩ := I.mod.blt
  refine wpAny_Call_Name_kw (ld_glob I hg T.gC ?_ hdb)
  refine PySem.W.callWith_K (h₀ := X.base) I.ok.mod.kin T.kC (thn (ha.run pos pins s σ H _ I h) fun us s1 hh => ?_) he hpl
  obtain ⟨vs, H1, I1, r1, hlen, q1⟩ := hh
  refine ⟨I1.kIn, ?_⟩
  cases r1 with
  | nil => cases hlen
  | @cons v u vr ur rv rr =>
    show wpAny _ _ (call (.ref C) (u :: ur)) _ _ _
    have hlim := I1.nolimit
    have hul : ur.length = gs.length := by
      rw [← Vals.length rr]
      exact Nat.succ.inj hlen
    have KI := I1.kIn
    have hglob := I1.mod.glob.keeps I1.bk
    have hblt := hb1.keeps I1.bk
    obtain ⟨hp, g, dr, tk, os⟩ := s1
    refine wpAny_call (XS.errs_made T S rfl KI hlim hglob hblt ((hb2 "super" (by decide)).trans PyProof.Rows.Boot.«super») (by have := hr.dp; omega) hul fun h' tk' ex d M => ?_)
    show MkP X pins σ Q (.ref ex) ⟨h', g, dr, tk', os⟩
    obtain ⟨t1, hoe⟩ := M.er.obj
    have hns := M.er.ns
    obtain ⟨G', g1, g2⟩ := restrict h' fun b => decide (b ≠ ex)
    have gk : ∀ b, b ≠ ex → G'.get? b = h'.get? b := fun b hb => g1 b (decide_eq_true hb)
    have ge : G'.get? ex = none := g2 ex (by simp)
    have old : ∀ b o, hp.get? b = some o → G'.get? b = some o := fun b o q => (gk b (Nat.ne_of_lt (Nat.lt_of_lt_of_le (Heap.lt_size q) M.new))).trans (M.keep b o q)
    have ob : ObjOk X.prog X.w (upd H1 d (.xd ((f0 :: gs).zip (v :: vr)).reverse)) G' d (.xd ((f0 :: gs).zip (v :: vr)).reverse) :=
      ⟨_, hns.at (fun o q => (gk d M.dne).trans q), fun f => relO_mp (pair_rev (.cons ⟨rfl, rv⟩ (pair_zip rr))) f⟩
    have J : Inv X pins σ (upd H1 d (.xd ((f0 :: gs).zip (v :: vr)).reverse)) ⟨G', g, dr, tk', os⟩ := I1.laid (t' := tk') old M.dbig ob
    refine ⟨ex, _, _, ⟨G', g, dr, tk', os⟩, _, .ref C, some d, rfl, J, fun b o q => ?_, ge, hoe, ⟨rfl, rfl⟩, rfl, rfl, ?_, rfl, I1.bare, raises_own (xfB_ok T.xf).exC T.tC, q1 d (I1.hok.fresh M.dbig)⟩
    · by_cases hb : b = ex
      · have q' : G'.get? b = some o := q
        rw [hb, ge] at q'; cases q'
      · exact (gk b hb).symm.trans q
    · rw [upd_ne (Ne.symm M.dne)]
      exact I1.hok.fresh M.new
theorem ps_raiseErr {e : Expr} {es : List Expr} {ta : TA} {W : WX} {p pos pos2 : Pos} {k : Nat} (hc : X.calm = true) (T : XS.ErrTxt X.prog X.K X.mg x qual st (f0 :: gs) C fI) (S : XS.ErrSyn qual st f0 gs) (hr : Room k X.A) (tk : Takes X W) (ha : PA X (e :: es) ta)
    (hg : Gl X x := by rfl) (hdb : (x == ("__debug__" : Str)) = false := by decide) (he : starEach (e :: es) X.env = (false, eval e X.env) :: starEach es X.env := by rfl) (hpl : (backTo pos (starEach es X.env)).any (·.1) = false := by rfl) :
    PS X (.Raise (some (.Call (.Name x p) (e :: es) [] pos)) none pos2) (tRaiseE C (f0 :: gs) W ta) := ps_raise hc tk (pmk_err T S hr ha hg hdb he hpl)
end

/-! ### isinstance(e, c), e the error that the suite holds, whatever its own dict -/
def rIsX (K : PySem.W.Frag) (a : Addr) (cls : Value) (d : Option Addr) : List V → Hp → VK → Prop := fun xs H Q =>
  ∃ (D dd : Addr) (fs : List (Str × V)) (c : V) (cv : Value) (b : Bool), cls = .ref D ∧ d = some dd ∧ xs = [.ref a, c] ∧ (∀ u, RelV c u → u = cv) ∧ PySem.W.kitOne K (.ref D) cv = some b ∧ H dd = some (.xd fs) ∧
    (PySem.W.findIn K (.ref D) "__class__" = some (some (.builtin "object.__class__")) ∧ PySem.W.mroIn K D (.type "object") = some true ∧ xfB K D = true) ∧ Q (.bl b) H
theorem call_isX {X : Cx} {a : Addr} {oe : Obj} {cls : Value} {d : Option Addr} {pn : List (Addr × Obj)} (hn : PySem.W.specialIn X.K (.builtin "object.__class__") "__get__" = some (some (.builtin "getset_descriptor.__get__")))
    (ht : PySem.W.takesIn X.K (.builtin "object.__class__") = some true) (hz : Zc cls d oe) (hf : ∃ vs, oe.data = .fields vs) : CallR (X.suite a ((a, oe) :: pn)) (.builtin "isinstance") (rIsX X.K a cls d) := by
  intro pins s σ H xs us Q I r h
  obtain ⟨D, dd, fs, c, cv, b, rfl, rfl, rfl, hcv, e, hdd, ⟨ha, hm, hx⟩, q⟩ := h
  obtain ⟨ga, gg, exC, hdC⟩ := xfB_ok hx
  cases r with
  | cons rx rr =>
    cases rr with
    | cons rt rr =>
      cases rr
      cases rx
      have ec := hcv _ rt
      subst ec
      obtain ⟨hget, _⟩ := I.pin (a, oe) (List.mem_append.mpr (.inl List.mem_cons_self))
      obtain ⟨vs, hv⟩ := hf
      have hxd : ObjOk X.prog X.w H s.heap dd (.xd fs) := I.hok dd _ hdd
      obtain ⟨mA, hns, _⟩ := hxd
      obtain ⟨od, ho, _⟩ := lookIn_ns hns
      have J : PySem.W.InstAt s.heap a oe D (some od) := ⟨hget, hz.1, by unfold PySem.W.notCls; rw [hv] <;> rfl, by rw [hz.2]; exact ho⟩
      obtain ⟨cd, hc, _⟩ := PySem.W.any_some hdC
      exact PySem.W.kia_one (PySem.W.kitx_exc (by rw [hc]; rfl) ga gg exC ha hn ht hm) I.kIn J e (fun z => nomatch z) fun tk => ⟨.bl b, H, I.kept (t' := tk) fun _ _ z => z, rfl, q⟩
end L2

/-! ### try with several clauses, with a name or without -/
namespace L2
open PySem PySem.Spec PyProof.Rows
abbrev Clause := Value × Option Nat × (Addr → Value → Option Addr → TS)
def endN : Option Nat → Ends → Ends
  | none, D => D
  | some i, D => { nx := fun σ' H' => D.nx (σ'.set i none) H', rt := D.rt, bk := fun σ' H' => D.bk (σ'.set i none) H', ct := fun σ' H' => D.ct (σ'.set i none) H' }
def inN : Option Nat → Addr → St → St
  | none, _, σ => σ
  | some i, a, σ => σ.set i (some (.ref a))
/-- what the clauses wish of an exception of the body, one after the other -/
def wGen (K : PySem.W.Frag) (Wout : WX) (D : Ends) : List Clause → WX
  | [] => Wout
  | (c, io, ts) :: r => fun cls d σ H => ∃ b, PySem.W.exmOne K cls c = some b ∧ (b = true → ∀ a, H a = none → ts a cls d (endN io D) (inN io a σ) H) ∧ (b = false → wGen K Wout D r cls d σ H)
inductive HdsG (X : Cx) : List ExceptHandler → List Clause → Prop
  | nil : HdsG X [] []
  | plain {x : Str} {c : Value} {ts : Addr → Value → Option Addr → TS} {b₀ : Stmt} {suite : List Stmt} {np pq : Pos} {hds : List ExceptHandler} {l : List Clause} (hc : Names X x c)
      (hsu : ∀ (a : Addr) (oe : Obj) (cls : Value) (d : Option Addr) (pn : List (Addr × Obj)), Zc cls d oe → (∃ vs, oe.data = .fields vs) → PSs (X.suite a ((a, oe) :: pn)) (b₀ :: suite) (ts a cls d)) (r : HdsG X hds l) :
      HdsG X (.ExceptHandler (some (.Name x np)) none (b₀ :: suite) pq :: hds) ((c, none, ts) :: l)
  | named {x n : Str} {c : Value} {i : Nat} {ts : Addr → Value → Option Addr → TS} {b₀ : Stmt} {suite : List Stmt} {np pq : Pos} {hds : List ExceptHandler} {l : List Clause} (hc : Names X x c)
      (hi : X.N[i]? = some n) (hln : X.env.kindOf n = some .local)
      (hsu : ∀ (a : Addr) (oe : Obj) (cls : Value) (d : Option Addr) (pn : List (Addr × Obj)), Zc cls d oe → (∃ vs, oe.data = .fields vs) → PSs (X.suite a ((a, oe) :: pn)) (b₀ :: suite) (ts a cls d)) (r : HdsG X hds l) :
      HdsG X (.ExceptHandler (some (.Name x np)) (some n) (b₀ :: suite) pq :: hds) ((c, some i, ts) :: l)
section
variable {X : Cx} {body : List Stmt} {hd0 : ExceptHandler} {hds : List ExceptHandler} {l : List Clause} {pos : Pos} {tb : WX → TS} {Wout : WX}
theorem ps_try_gen (hs : X.stack = X.env :: X.outer) (hf : X.env.frame = some X.env.locals) (hN : X.N.Nodup) (tk : Takes X Wout)
    (hb : ∀ (W : WX) (pn : List (Addr × Obj)) (xe : Value → Shared → Prop), Takes (X.tr pn xe) W → PassesOwn (model X.prog X.w) X.A X.env xe → PSs (X.tr pn xe) body (tb W))
    (hh : HdsG X (hd0 :: hds) l) : PS X (.Try body (hd0 :: hds) [] [] pos) (fun D σ H => tb (wGen X.K Wout D l) D σ H) := by
  refine ⟨fun pins s σ H D I h => ?_⟩
  have ok := I.ok
  have frm : X.A.frames = some (X.env :: X.outer) := by rw [ok.frames, hs]
  refine wpAny_Try_except ?_
  refine wpAny_mono ((hb (wGen X.K Wout D l) (X.pn ++ pins)
    (fun ev z1 => wpAny (model X.prog X.w) X.A (noteFrame ev X.env) (fun _ z2 => wpAny (model X.prog X.w) X.A (setFlight ev none) (fun _ z3 => wpAny (model X.prog X.w) X.A (handleBy ev X.env (hd0 :: hds)) (SP X pins D) X.xe z3) X.xe z2) X.xe z1)
    (fun u s' xx => ?_) PassesOwn.looking).run [] s σ H D (I.toTry _) h) (fun fl s1 hsp => ?_) (fun ev s1 he => he)
  · obtain ⟨ea, B, sI, pp, σq, Hq, cls, d, rfl, Jt, nb, up, sky, na, os, ag, wish⟩ := xx
    have J : Inv X pins σq Hq sI := Jt.ofTry ok
    have sky2 : Sky B (X.env :: X.outer) ea (Zc cls d) X.env.locals s'.heap := by rw [← hs]; exact sky
    show wpAny (model X.prog X.w) X.A (noteFrame (Value.ref ea) X.env) _ _ _
    refine Sky.land Zc.steady frm hf sky2 fun g3 fly3 upg3 => ?_
    have K3 : Inv X pins σq Hq { s' with heap := g3 } := J.landed nb fly3.1 (up.trans upg3) os ag
    obtain ⟨ob3, fv3, hg3, zc3, dt3⟩ := fly3.there
    have noframe : ∀ {hh : Heap} {o : Obj} {vs : Array Value}, hh.FunFrames B (X.env :: X.outer) → hh.get? ea = some o → o.data = .fields vs → ea ∉ frs (X.env :: X.outer) := fun {hh o vs} ff e1 dd1 hm1 => by
      obtain ⟨_, o2, e2, hnf⟩ := ff.mem hm1
      rw [e1] at e2
      cases e2
      exact hnf _ dd1
    have nofr := noframe fly3.2.2.1 hg3 dt3
    have neL : ea ≠ X.env.locals := fun z => nofr (List.mem_filterMap.mpr ⟨X.env, List.mem_cons_self, by rw [hf, z]⟩)
    have neF : ea ∉ X.fs := fun hm1 => by
      obtain ⟨e1, he1, q1⟩ := List.mem_filterMap.mp hm1
      exact nofr (List.mem_filterMap.mpr ⟨e1, List.mem_cons_of_mem _ he1, q1⟩)
    have Q3 := K3.suite hg3 dt3 na neL neF
    have LT : PySem.W.Looks (model X.prog X.w) g3 (typeOf (.ref ea)) cls := fun A1 Q1 E1 z1 k1 q1 => wpAny_typeOf_ref (k1 _ _ hg3) (by rw [zc3.1]; exact q1)
    have named : ∀ {x : Str} {c : Value} {np : Pos} {Q1 : Value → Shared → Prop} {E1 : Value → Shared → Prop}, Names X x c → Q1 c { s' with heap := g3 } → wpAny (model X.prog X.w) (X.A.mark (some (.ref ea))) (eval (.Name x np) X.env) Q1 E1 { s' with heap := g3 } := fun {x c np Q1 E1} hc q1 => by
      obtain ⟨hg, hdbg, hm | ⟨hm, hv, hnn⟩⟩ := hc
      · exact ld_glob (X := X.suite ea ((ea, ob3) :: (X.pn ++ pins))) Q3 hg hm q1 hdbg
      · exact ld_blt (X := X.suite ea ((ea, ob3) :: (X.pn ++ pins))) Q3 hg hm hv q1 hnn hdbg
    have run : ∀ {hs2 : List ExceptHandler} {l2 : List Clause}, HdsG X hs2 l2 → wGen X.K Wout D l2 cls d σq Hq → wpAny (model X.prog X.w) X.A (handleBy (.ref ea) X.env hs2) (SP X pins D) X.xe { s' with heap := g3 } := by
      intro hs2 l2 hk
      induction hk with
      | nil =>
        intro w1
        refine wpAny_handleBy_nil ?_
        obtain ⟨_, _, _, o1, vs1, T1, oT1, tt1, he1, hz1, hd1, hw1, hr1⟩ := id fly3
        unfold PySem.passOn
        refine wpAny_bind (wpAny_field he1 hd1 hw1 ?_)
        rw [if_neg (show ¬ ((Value.ref T1 == Value.none) = true) from by simp)]
        have last : wpAny (model X.prog X.w) X.A (setFlight (.ref ea) X.env.frame) (fun _ z4 => wpAny (model X.prog X.w) X.A (throw (.ref ea) : Sem Flow) (SP X pins D) X.xe z4) X.xe { s' with heap := g3 } := by
          rw [hf]
          refine HandSPX.setFlight_upZ fly3 fun g4 fly4 upg4 => wpAny_throw (tk _ _ ?_)
          exact ⟨ea, B, sI, pins, σq, Hq, cls, d, rfl, J, nb, (up.trans upg3).trans upg4, .inr (.inr (by rw [hs]; exact fly4)), na, os, ag, w1⟩
        first
          | exact wpAny_bind (wpAny_pure (wpAny_bind last))
          | exact wpAny_bind last
      | @plain x c ts b₀ suite np pq hs3 l3 hc hsu r ih =>
        intro w1
        obtain ⟨b, hb1, hyes, hno⟩ := w1
        refine wpAny_handleBy_cons (codeAny_handlers_test ?_) (by intro q; cases q)
        refine named hc ((PySem.W.exm_one (M := model X.prog X.w) K3.kIn LT hb1).here ?_)
        cases b with
        | true =>
          refine codeAny_handlers_suite (HandSPX.lands_againZ fly3 fun g4 fly4 upg4 => ?_)
          have K4 : Inv X pins σq Hq { s' with heap := g4 } := J.landed nb fly4.1 ((up.trans upg3).trans upg4) os ag
          obtain ⟨ob4, fv4, hg4, zc4, dt4⟩ := fly4.there
          have Q4 := K4.suite hg4 dt4 na neL neF
          refine wpAny_mono ((hsu ea ob4 cls d (X.pn ++ pins) zc4 ⟨_, dt4⟩).run [] _ _ Hq _ Q4 (hyes rfl ea na)) (fun f1 s6 hsp => ?_) (fun _ _ z => False.elim z)
          cases f1 with
          | ret u6 =>
            obtain ⟨v6, σ6, H6, S6, r6, q6⟩ := hsp
            exact ⟨_, _, _, S6.unsuite ok, r6, q6⟩
          | next | brk | cont =>
            obtain ⟨σ6, H6, S6, q6⟩ := hsp
            exact ⟨_, _, S6.unsuite ok, q6⟩
        | false =>
          show wpAny _ X.A (handleBy (.ref ea) X.env hs3) _ _ _
          exact ih (hno rfl)
      | @named x n c i ts b₀ suite np pq hs3 l3 hc hi hln hsu r ih =>
        intro w1
        obtain ⟨b, hb1, hyes, hno⟩ := w1
        refine wpAny_handleBy_cons (codeAny_handlers_test ?_) (by intro q; cases q)
        refine named hc ((PySem.W.exm_one (M := model X.prog X.w) K3.kIn LT hb1).here ?_)
        cases b with
        | true =>
          refine codeAny_handlers_suite_as (HandSPX.lands_againZ fly3 fun g4 fly4 upg4 => ?_)
          have K4 : Inv X pins σq Hq { s' with heap := g4 } := J.landed nb fly4.1 ((up.trans upg3).trans upg4) os ag
          obtain ⟨ob4, fv4, hg4, zc4, dt4⟩ := fly4.there
          have Q4 := K4.suite hg4 dt4 na neL neF
          refine store_ok (X := X.suite ea ((ea, ob4) :: (X.pn ++ pins))) (v := .ref ea) Q4 hN hi (.inl hln) rfl (fun s5 S5 => ?_) (.inr hln)
          refine wpAny_mono ((hsu ea ob4 cls d (X.pn ++ pins) zc4 ⟨_, dt4⟩).run [] s5 _ Hq _ S5 (hyes rfl ea na)) (fun f1 s6 hsp => ?_) (fun _ _ z => False.elim z)
          have away : ∀ {σ6 : St} {H6 : Hp} {Q6 : Shared → Prop}, Inv (X.suite ea ((ea, ob4) :: (X.pn ++ pins))) [] σ6 H6 s6 → (∀ s7, Inv X pins (σ6.set i none) H6 s7 → Q6 s7) →
              wpAny (model X.prog X.w) X.A (do bindName X.env n .none; unbindBehindTheSuite X.env n pq) (fun _ s7 => Q6 s7) X.xe s6 := fun S6 hq => gone_ok (S6.unsuite ok) hN hi hln hq
          cases f1 with
          | ret u6 =>
            obtain ⟨v6, σ6, H6, S6, r6, q6⟩ := hsp
            exact away S6 fun s7 J7 => ⟨_, _, _, J7, r6, q6⟩
          | next | brk | cont =>
            obtain ⟨σ6, H6, S6, q6⟩ := hsp
            exact away S6 fun s7 J7 => ⟨_, _, J7, q6⟩
        | false =>
          show wpAny _ X.A (handleBy (.ref ea) X.env hs3) _ _ _
          exact ih (hno rfl)
    exact run hh wish
  · cases fl with
    | next =>
      obtain ⟨σq, Hq, Jt, q1⟩ := hsp
      exact wpAny_execs_nil ⟨σq, Hq, Jt.ofTry ok, q1⟩
    | brk | cont =>
      obtain ⟨σq, Hq, Jt, q1⟩ := hsp
      exact ⟨σq, Hq, Jt.ofTry ok, q1⟩
    | ret u =>
      obtain ⟨v, σq, Hq, Jt, r1, q1⟩ := hsp
      exact ⟨v, σq, Hq, Jt.ofTry ok, r1, q1⟩
end
end L2

/-! # Own layer: defs bundled by name, list items read for a store, frames, reading steps -/
namespace L2
open PySem PySem.Spec PyProof.Rows

/-- the def of this name keeps the promise -/
def FnB (P : Program) (w : World) (K : PySem.W.Frag) (mg : Str → Option Value) (base : Heap) (CX : CXT) (k : Nat) (x : Str) (ps : List Str) (sp : Sp) : Prop :=
  ∃ (f : Addr) (fd : FuncData), FnOk P w K mg base CX k f fd ps sp ∧ mg x = some (.ref f) ∧ PySem.W.keepIn K (.ref f) = true ∧ Binds K fd ps []

section
variable {X : Cx} {CX : CXT} {k : Nat} {ps : List Str} {sp : Sp} {E : XK} {x : Str} {p pos : Pos} {e : Expr} {es : List Expr} {t : TA}
theorem pe_callF (F : FnB X.prog X.w X.K X.mg X.base CX k x ps sp) (hr : Room k X.A) (hg : Gl X x) (hx : Passes CX X E)
    (ha : PA X (e :: es) t) (hdb : (x == ("__debug__" : Str)) = false := by decide) (he : starEach (e :: es) X.env = (false, eval e X.env) :: starEach es X.env := by rfl) (hpl : (backTo pos (starEach es X.env)).any (·.1) = false := by rfl) :
    PE X (.Call (.Name x p) (e :: es) [] pos) (tCall sp [] E t) := by
  obtain ⟨f, fd, F1, g, kp, b⟩ := F
  exact pe_call F1 hr hg g kp b .nil hx ha hdb he hpl
theorem pe_callFS {ES : St → XK} (F : FnB X.prog X.w X.K X.mg X.base CX k x ps sp) (hr : Room k X.A) (hg : Gl X x) (hx : ∀ σ, PassesAt CX X σ (ES σ))
    (ha : PA X (e :: es) t) (hdb : (x == ("__debug__" : Str)) = false := by decide) (he : starEach (e :: es) X.env = (false, eval e X.env) :: starEach es X.env := by rfl) (hpl : (backTo pos (starEach es X.env)).any (·.1) = false := by rfl) :
    PE X (.Call (.Name x p) (e :: es) [] pos) (tCallS sp ES t) := by
  obtain ⟨f, fd, F1, g, kp, b⟩ := F
  exact pe_callS F1 hr hg g kp b hx ha hdb he hpl
theorem pget_list : PGet X (rIxL X.K) := by
  intro pins s σ H o i ov iv Q I ro ri h
  obtain ⟨p, xs, j, z, rfl, rfl, hq, he, q⟩ := h
  cases ro
  obtain ⟨t, rfl⟩ := ri
  obtain ⟨its, r, pl, hz⟩ := I.list hq
  obtain ⟨n, h1, h2, h3, h4, h5⟩ := atI_get he
  obtain ⟨w, ew, rw'⟩ := r.get h2
  have hl := r.length
  have hn := line63
  have fin : EP X pins σ Q w s := ⟨z, H, I, rw', q⟩
  by_cases h0 : 0 ≤ j
  · have hj : j.toNat = n := by
      rw [seqIndex_of h0 h5] at h1
      exact Option.some.inj h1
    exact wpAny_getItem_list pl.isList h0 (by omega) (by rw [hj]; simpa using ew) fin
  · have hj : (j + (its.toArray.size : Int)).toNat = n := by
      rw [seqIndex_neg (by omega) h4] at h1
      rw [List.size_toArray, ← hl]
      exact Option.some.inj h1
    exact wpAny_getItem_list_neg (Q := fun v s' => EP X pins σ Q v s') pl.isList (by omega) (by rw [List.size_toArray] <;> omega) (by omega) (by rw [hj]; simpa using ew) fin
end

theorem passN {X : Cx} : Passes (L2.CX X.prog X.w) X E0 := fun _ _ _ _ _ _ _ h => by
  obtain ⟨_, _, _, _, _, _, _, _, _, _, _, _, z⟩ := h
  exact z.elim
/-! ### frames: what is tracked stays, but for the addresses of S -/
def Fr (S : List Addr) (H H' : Hp) : Prop := ∀ a o, H a = some o → a ∉ S → H' a = some o
theorem Fr.refl (S : List Addr) (H : Hp) : Fr S H H := fun _ _ h _ => h
theorem Fr.trans {S : List Addr} {H H1 H2 : Hp} (a : Fr S H H1) (b : Fr S H1 H2) : Fr S H H2 := fun c o h n => b c o (a c o h n) n
theorem Fr.new {S : List Addr} {H H' : Hp} {p : Addr} {o : HO} (e : Fr S H H') (h : H' p = none) : Fr S H (upd H' p o) := fun a u ha n => by
  have z := e a u ha n
  rw [upd_ne (ne_of_none z h)]
  exact z
/-- a store at an address of S, or at one that H does not know -/
theorem Fr.put {S : List Addr} {H H' : Hp} {p : Addr} {o : HO} (e : Fr S H H') (h : p ∈ S ∨ H p = none) : Fr S H (upd H' p o) := fun a u ha n => by
  have ne : a ≠ p := by
    rintro rfl
    rcases h with h | h
    · exact n h
    · rw [ha] at h
      cases h
  rw [upd_ne ne]
  exact e a u ha n
theorem Fr.sub {S S' : List Addr} {H H' : Hp} (e : Fr S H H') (h : ∀ a, a ∈ S → a ∈ S') : Fr S' H H' := fun a o ha n => e a o ha fun z => n (h a z)
theorem Fr.nil {S : List Addr} {H H' : Hp} (e : Fr [] H H') : Fr S H H' := fun a o ha _ => e a o ha (by simp)
theorem Fr.free {H H' : Hp} {p : Addr} (e : Fr [] H H') (h : H' p = none) : H p = none := by
  cases q : H p with
  | none => rfl
  | some o =>
    rw [e p o q (by simp)] at h
    cases h
theorem Fr.free1 {H H' : Hp} {p b : Addr} {o : HO} (e : Fr [b] H H') (hb : H' b = some o) (h : H' p = none) : H p = none := by
  cases q : H p with
  | none => rfl
  | some u =>
    by_cases z : p = b
    · rw [z, hb] at h
      cases h
    · rw [e p u q (by simpa using z)] at h
      cases h
theorem Fr.l {K : PySem.W.Frag} {H H' : Hp} {a : Addr} {xs : List V} (e : Fr [] H H') (h : SqL K H a xs) : SqL K H' a xs := by
  rcases h with (h | ⟨o, h⟩) | h
  · exact .inl (.inl (e _ _ h (by simp)))
  · exact .inl (.inr ⟨o, e _ _ h (by simp)⟩)
  · exact .inr h
theorem Fr.t {K : PySem.W.Frag} {H H' : Hp} {a : Addr} {xs : List V} (e : Fr [] H H') (h : SqT K H a xs) : SqT K H' a xs := by
  rcases h with (h | ⟨o, h⟩) | h
  · exact .inl (.inl (e _ _ h (by simp)))
  · exact .inl (.inr ⟨o, e _ _ h (by simp)⟩)
  · exact .inr h

/-! ### places of lists -/
theorem at_map {α : Type} {f : α → V} {xs : List α} {j : Nat} {v : α} (h : xs[j]? = some v) : atI (xs.map f) (j : Int) = some (f v) := atI_nat (by rw [List.getElem?_map, h]; rfl)
theorem ix_nat {n j : Nat} (h : j < n) : ixN n (j : Int) = some j := by
  unfold ixN
  rw [if_pos (Int.natCast_nonneg j), if_pos (by exact_mod_cast h)]
  rfl
theorem at_int {α : Type} {xs : List α} {i : Int} {v : α} (h0 : 0 ≤ i) (h : xs[i.toNat]? = some v) : atI xs i = some v := by
  have e : ((i.toNat : Nat) : Int) = i := Int.toNat_of_nonneg h0
  rw [← e]
  exact atI_nat h
theorem ix_int {n : Nat} {i : Int} (h0 : 0 ≤ i) (h : i < n) : ixN n i = some i.toNat := by
  unfold ixN
  rw [if_pos h0, if_pos h]
end L2

namespace L2
open PySem PySem.Spec PyProof.Rows
/-- the built-in names that no module of the row binds -/
structure Blt (mg : Str → Option Value) : Prop where
  m_len : mg "len" = none
  m_int : mg "int" = none
  m_range : mg "range" = none
  m_list : mg "list" = none
  m_min : mg "min" = none
  m_max : mg "max" = none
  m_abs : mg "abs" = none
  m_isinstance : mg "isinstance" = none
  m_bool : mg "bool" = none
  m_str : mg "str" = none
  m_tuple : mg "tuple" = none
  m_dict : mg "dict" = none
  m_sorted : mg "sorted" = none
  m_sum : mg "sum" = none
  m_repr : mg "repr" = none
  m_zip : mg "zip" = none
  m_enumerate : mg "enumerate" = none
  m_reversed : mg "reversed" = none

theorem dec_iff {p : Prop} [Decidable p] {A B : Prop} (h1 : p → A) (h2 : ¬ p → B) : if decide p = true then A else B := by
  by_cases h : p
  · rw [decide_eq_true h]
    exact iteT (h1 h)
  · rw [decide_eq_false h]
    exact iteF (h2 h)
theorem iteY {c : Bool} {A B : Prop} (hc : c = true) (h : A) : if c = true then A else B := by rw [if_pos hc]; exact h
theorem iteN {c : Bool} {A B : Prop} (hc : c = false) (h : B) : if c = true then A else B := by rw [hc, if_neg Bool.false_ne_true]; exact h
/-- b || c by its ways -/
theorem bool_iff {c : Bool} {A B : Prop} (h1 : c = true → A) (h2 : c = false → B) : if c = true then A else B := by
  cases c with
  | true => exact iteT (h1 rfl)
  | false => exact iteF (h2 rfl)

/-! ### the bag of a law: what is left of the script, and the numbers drawn from it -/
def BagAt (H : Hp) (b c : Addr) (ns : List Int) (i v s : Int) : Prop :=
  H b = some (.lst [.ref c, .int i, .int v, .int s]) ∧ H c = some (.lst (ns.map V.int)) ∧ 0 ≤ i ∧ 0 ≤ v ∧ 0 ≤ s
def Bag (H : Hp) (b : Addr) : Prop := ∃ c ns i v s, BagAt H b c ns i v s
theorem BagAt.ne {H : Hp} {b c : Addr} {ns : List Int} {i v s : Int} (h : BagAt H b c ns i v s) : c ≠ b := by
  rintro rfl
  have e := h.1.symm.trans h.2.1
  cases ns with
  | nil => cases e
  | cons n r =>
    have e2 := HO.lst.inj (Option.some.inj e)
    cases e2
theorem BagAt.put {H : Hp} {b c : Addr} {ns : List Int} {i v s i' v' s' : Int} (h : BagAt H b c ns i v s) (hi : 0 ≤ i') (hv : 0 ≤ v') (hs : 0 ≤ s') : BagAt (upd H b (.lst [.ref c, .int i', .int v', .int s'])) b c ns i' v' s' :=
  ⟨upd_same, by rw [upd_ne h.ne]; exact h.2.1, hi, hv, hs⟩
theorem BagAt.fr {S : List Addr} {H H' : Hp} {b c : Addr} {ns : List Int} {i v s : Int} (h : BagAt H b c ns i v s) (e : Fr S H H') (hb : b ∉ S) (hc : c ∉ S) : BagAt H' b c ns i v s :=
  ⟨e _ _ h.1 hb, e _ _ h.2.1 hc, h.2.2⟩
theorem Bag.fr {H H' : Hp} {b : Addr} (h : Bag H b) (e : Fr [] H H') : Bag H' b := by
  obtain ⟨c, ns, i, v, s, h⟩ := h
  exact ⟨c, ns, i, v, s, h.fr e (by simp) (by simp)⟩
theorem Bag.new {H : Hp} {b p : Addr} {o : HO} (h : Bag H b) (hp : H p = none) : Bag (upd H p o) b := h.fr ((Fr.refl [] H).new hp)
theorem Bag.some {H : Hp} {b : Addr} (h : Bag H b) : ∃ o, H b = Option.some o := by
  obtain ⟨c, ns, i, v, s, h⟩ := h
  exact ⟨_, h.1⟩
/-- the bag at b whose numbers stand at c -/
def BagC (H : Hp) (b c : Addr) : Prop := ∃ ns i v s, BagAt H b c ns i v s
theorem BagC.ne {H : Hp} {b c : Addr} (h : BagC H b c) : c ≠ b := by
  obtain ⟨ns, i, v, s, h⟩ := h
  exact h.ne
theorem BagC.fr {S : List Addr} {H H' : Hp} {b c : Addr} (h : BagC H b c) (e : Fr S H H') (hb : b ∉ S) (hc : c ∉ S) : BagC H' b c := by
  obtain ⟨ns, i, v, s, h⟩ := h
  exact ⟨ns, i, v, s, h.fr e hb hc⟩
theorem BagC.put {H : Hp} {b c p : Addr} {o : HO} (h : BagC H b c) (hb : p ≠ b) (hc : p ≠ c) : BagC (upd H p o) b c :=
  h.fr (S := [p]) ((Fr.refl _ H).put (.inl (by simp))) (by simpa using hb.symm) (by simpa using hc.symm)
theorem BagC.new {H : Hp} {b c p : Addr} {o : HO} (h : BagC H b c) (hp : H p = none) : BagC (upd H p o) b c := by
  obtain ⟨ns, i, v, s, h⟩ := h
  exact ⟨ns, i, v, s, h.fr ((Fr.refl [] H).new hp) (by simp) (by simp)⟩
theorem BagC.b {H : Hp} {b c : Addr} (h : BagC H b c) : ∃ i v s, H b = some (.lst [.ref c, .int i, .int v, .int s]) := by
  obtain ⟨ns, i, v, s, h⟩ := h
  exact ⟨_, _, _, h.1⟩
theorem BagC.neb {H : Hp} {b c p : Addr} (h : BagC H b c) (hp : H p = none) : p ≠ b := by
  obtain ⟨i, v, s, h⟩ := h.b
  exact (ne_of_none h hp).symm
theorem BagC.nec {H : Hp} {b c p : Addr} (h : BagC H b c) (hp : H p = none) : p ≠ c := by
  obtain ⟨ns, i, v, s, h⟩ := h
  exact (ne_of_none h.2.1 hp).symm
/-- _law_take(bag, many): some number below many; all but the bag stays -/
def spTake : Sp := fun vs H Q _ => ∃ (b c : Addr) (many : Int), vs = [.ref b, .int many] ∧ BagC H b c ∧ 0 < many ∧ many.natAbs.log2 < 9000 ∧
  ∀ (t : Int) (H' : Hp), 0 ≤ t → t < many → Fr [b] H H' → BagC H' b c → Q (.int t) H'
/-- _law_bag(script): a new bag -/
def spBag (K : PySem.W.Frag) : Sp := fun vs H Q _ => ∃ (a : Addr) (ns : List Int), vs = [.ref a] ∧ SqL K H a (ns.map V.int) ∧ ns.length ≤ 1000 ∧
  ∀ (b c : Addr) (H' : Hp), H b = none → H c = none → Fr [] H H' → BagC H' b c → Q (.ref b) H'
theorem log_ok {z : Int} (h : z.natAbs < 2 ^ 250) : z.natAbs.log2 < 9000 := by
  by_cases c : z.natAbs = 0
  · rw [c]
    decide
  · rw [Nat.log2_lt c]
    exact Nat.lt_of_lt_of_le h (Nat.pow_le_pow_right (by decide) (by decide))
end L2

namespace L2
open PySem PySem.Spec PyProof.Rows
theorem get_map_int {ns : List Int} {i : Nat} {y : V} (h : (ns.map V.int)[i]? = some y) : ∃ z, ns[i]? = some z ∧ y = V.int z := by
  rw [List.getElem?_map] at h
  cases e : ns[i]? with
  | none => rw [e] at h; cases h
  | some z => rw [e] at h; exact ⟨z, rfl, (Option.some.inj h).symm⟩
theorem get_mapf {α : Type} {f : α → V} {ns : List α} {i : Nat} {y : V} (h : (ns.map f)[i]? = some y) : ∃ z, ns[i]? = some z ∧ y = f z := by
  rw [List.getElem?_map] at h
  cases e : ns[i]? with
  | none => rw [e] at h; cases h
  | some z => rw [e] at h; exact ⟨z, rfl, (Option.some.inj h).symm⟩
theorem take_succ {α : Type} {ns : List α} {i : Nat} {z : α} (h : ns[i]? = some z) : ns.take (i + 1) = ns.take i ++ [z] := by
  rw [List.take_add_one, h]
  rfl
end L2

namespace L2
open PySem PySem.Spec PyProof.Rows
theorem for_rng {n : Nat} {g : TG} {tb : TS} {D : Ends} {σ : St} {H : Hp} (Pv : Nat → St → Hp → Prop) (h0 : Pv 0 σ H)
    (hs : ∀ i σ H, i < n → Pv i σ H → g (.int (i : Int)) σ H fun σ2 H2 => tb { D with nx := Pv (i + 1), ct := Pv (i + 1), bk := D.nx } σ2 H2) (hd : ∀ σ H, Pv n σ H → D.nx σ H) :
    ∃ W : Nat → Nat → St → Hp → Prop, (∃ m, W 0 m σ H) ∧ ∀ i m σ H, W i m σ H →
      ((Itr 0 n).stop i H ∧ D.nx σ H) ∨ ((Itr 0 n).go i H ∧ ∃ N : St → Hp → Prop, (∀ σ' H', N σ' H' → ∃ m', m' < m ∧ W (i + 1) m' σ' H') ∧ ∀ x H', (Itr 0 n).yld i H x H' → g x σ H' fun σ2 H2 => tb { D with nx := N, ct := N, bk := D.nx } σ2 H2) :=
  for_range Pv h0 (fun i σ H hi p => by rw [Int.zero_add]; exact hs i σ H hi p) hd
theorem lc_rng {n : Nat} {g : TG} {tt : TT} {te : TE} {vs : List Nat} {σ : St} {H1 : Hp} {D : Addr} {Qd : Hp → Prop} (Pv : Nat → Hp → Prop) (h0 : Pv 0 (upd H1 D (.lst [])))
    (hs : ∀ i H, i < n → Pv i H → g (.int (i : Int)) (wipe σ vs) H fun σ2 H2 => wipe σ2 vs = wipe σ vs ∧ tt σ2 H2 fun b H3 =>
      if b = true then te σ2 H3 fun y H4 => ∃ acc, H4 D = some (.lst acc) ∧ acc.length < sizeLine ∧ Pv (i + 1) (upd H4 D (.lst (acc ++ [y]))) else Pv (i + 1) H3) (hd : ∀ H, Pv n H → Qd H) :
    ∃ W : Nat → Nat → Hp → Prop, (∃ m, W 0 m (upd H1 D (.lst []))) ∧ ∀ i m H, W i m H →
      ((Itr 0 n).stop i H ∧ Qd H) ∨ ((Itr 0 n).go i H ∧ ∃ Nx : Hp → Prop, (∀ H', Nx H' → ∃ m', m' < m ∧ W (i + 1) m' H') ∧ ∀ x H', (Itr 0 n).yld i H x H' → g x (wipe σ vs) H' fun σ2 H2 => wipe σ2 vs = wipe σ vs ∧ tt σ2 H2 fun b H3 =>
        if b = true then te σ2 H3 fun y H4 => ∃ acc, H4 D = some (.lst acc) ∧ acc.length < sizeLine ∧ Nx (upd H4 D (.lst (acc ++ [y]))) else Nx H3) :=
  lc_range Pv h0 (fun i H hi p => by rw [Int.zero_add]; exact hs i H hi p) hd
/-- numbers that a range takes -/
theorem rg_ok {n : Nat} (h : n ≤ 100000000) : -(2 ^ 62) ≤ (n : Int) ∧ (n : Int) < 2 ^ 62 := by omega
theorem len_line {n : Nat} (h : n ≤ 100000) : n ≤ sizeLine := Nat.le_trans h (by decide)
theorem len_lt {n : Nat} (h : n < 100000) : n < sizeLine := Nat.lt_of_lt_of_le h (by decide)
/-- ends that nobody asks for -/
def noEnds : Ends := { nx := fun _ _ => False, rt := fun _ _ => False }
theorem rep_one {n : Nat} {v : V} : (List.replicate n [v]).flatten = List.replicate n v := by
  induction n with
  | zero => rfl
  | succ m ih =>
    rw [List.replicate_succ, List.flatten_cons, ih, List.replicate_succ]
    rfl
end L2

namespace L2
open PySem PySem.Spec PyProof.Rows
theorem while_m {c : TT} {tb : TS} {D : Ends} {σ : St} {H : Hp} (W : Nat → St → Hp → Prop) (m0 : Nat) (h0 : W m0 σ H)
    (hs : ∀ m σ H, W m σ H → c σ H fun b H1 => if b = true then tb { D with nx := fun σ' H' => ∃ m', m' < m ∧ W m' σ' H', ct := fun σ' H' => ∃ m', m' < m ∧ W m' σ' H', bk := D.nx } σ H1 else D.nx σ H1)
    (mono : ∀ σ H Q Q', (∀ b H1, Q b H1 → Q' b H1) → c σ H Q → c σ H Q') : tWhile c tb D σ H := by
  refine ⟨W, ⟨m0, h0⟩, fun m σ H p => mono σ H _ _ (fun b H1 q => ?_) (hs m σ H p)⟩
  cases b with
  | true => exact ⟨_, fun σ' H' h => h, q⟩
  | false => exact q
/-- while True -/
theorem while_true {tb : TS} {D : Ends} {σ : St} {H : Hp} (W : Nat → St → Hp → Prop) (m0 : Nat) (h0 : W m0 σ H)
    (hs : ∀ m σ H, W m σ H → tb { D with nx := fun σ' H' => ∃ m', m' < m ∧ W m' σ' H', ct := fun σ' H' => ∃ m', m' < m ∧ W m' σ' H', bk := D.nx } σ H) : tWhile (tB (tC (.bl true))) tb D σ H :=
  while_m W m0 h0 (fun m σ H p => ⟨true, rfl, iteT (hs m σ H p)⟩) fun σ H Q Q' h ⟨c, e, q⟩ => ⟨c, e, h _ _ q⟩
/-- the places of a list of numbers, as a dict -/
def kvsOf : List Int → Nat → List (Key × V)
  | [], _ => []
  | v :: r, i => (Sum.inl v, V.int (i : Int)) :: kvsOf r (i + 1)
theorem kvsOf_len : ∀ (l : List Int) (i : Nat), (kvsOf l i).length = l.length
  | [], _ => rfl
  | v :: r, i => by
    show (kvsOf r (i + 1)).length + 1 = r.length + 1
    rw [kvsOf_len r]
theorem kvsOf_snoc (v : Int) : ∀ (l : List Int) (i : Nat), kvsOf (l ++ [v]) i = kvsOf l i ++ [(Sum.inl v, V.int ((i + l.length : Nat) : Int))]
  | [], i => rfl
  | u :: r, i => by
    show (_ :: kvsOf (r ++ [v]) (i + 1)) = _ :: (kvsOf r (i + 1) ++ _)
    rw [kvsOf_snoc v r (i + 1)]
    have e : i + 1 + r.length = i + (u :: r).length := by
      rw [List.length_cons]
      omega
    rw [e]
theorem kvsOf_val (v : Int) : ∀ (l : List Int) (i : Nat), valV (kvsOf l i) (Sum.inl v : Key) = if v ∈ l then some (V.int ((i + l.idxOf v : Nat) : Int)) else none
  | [], i => rfl
  | u :: r, i => by
    have ih := kvsOf_val v r (i + 1)
    unfold valV at ih ⊢
    show ((_ :: kvsOf r (i + 1)).find? _).map _ = _
    rw [List.find?_cons]
    by_cases c : u = v
    · have d : decide ((Sum.inl u : Key) = Sum.inl v) = true := decide_eq_true (by rw [c])
      simp only [d]
      rw [if_pos (by rw [c]; exact List.mem_cons_self), c, List.idxOf_cons_self]
      rfl
    · have d : decide ((Sum.inl u : Key) = Sum.inl v) = false := decide_eq_false (fun e => c (Sum.inl.inj e))
      simp only [d]
      rw [ih]
      by_cases m : v ∈ r
      · rw [if_pos m, if_pos (List.mem_cons_of_mem _ m)]
        have ec : (u == v) = false := by simpa using c
        rw [List.idxOf_cons, ec]
        have e : i + 1 + r.idxOf v = i + (r.idxOf v + 1) := by omega
        rw [e]
        rfl
      · rw [if_neg m, if_neg]
        intro h
        rcases List.mem_cons.mp h with h | h
        · exact c h.symm
        · exact m h
theorem cut_drop (xs : List V) (i : Nat) (h : i ≤ xs.length) : cutV xs (some (i : Int)) none = xs.drop i := by
  unfold cutV
  have e1 : HT.sIx xs.length 0 (some (i : Int)) = i := by
    rw [HT.sIx_nat]
    omega
  have e2 : HT.sIx xs.length xs.length none = xs.length := rfl
  rw [e1, e2]
  exact List.take_of_length_le (by rw [List.length_drop]; exact Nat.le_refl _)
end L2

namespace L2
open PySem PySem.Spec PyProof.Rows
theorem nint {a b : Int} (h : (!decide (V.int a = V.int b)) = true) : a ≠ b := fun e => by
  rw [e] at h
  simp at h
theorem yint {a b : Int} (h : (!decide (V.int a = V.int b)) = false) : a = b := by
  have : decide (V.int a = V.int b) = true := by simpa using h
  exact V.int.inj (of_decide_eq_true this)
theorem ne_if {a b : Int} {A B : Prop} (h1 : a ≠ b → A) (h2 : a = b → B) : if (!decide (V.int a = V.int b)) = true then A else B := bool_iff (fun h => h1 (nint h)) fun h => h2 (yint h)
theorem eq_if {a b : Int} {A B : Prop} (h1 : a = b → A) (h2 : a ≠ b → B) : if decide (V.int a = V.int b) = true then A else B :=
  dec_iff (fun h => h1 (V.int.inj h)) fun h => h2 fun e => h (congrArg V.int e)
theorem not_if {p : Prop} [Decidable p] {A B : Prop} (h1 : ¬ p → A) (h2 : p → B) : if (!decide p) = true then A else B := by
  by_cases h : p
  · rw [decide_eq_true h]
    exact iteF (h2 h)
  · rw [decide_eq_false h]
    exact iteT (h1 h)
end L2

namespace L2
open PySem PySem.Spec PyProof.Rows
/-- min(t), t a tuple of two ints -/
def rMinT (K : PySem.W.Frag) : List V → Hp → VK → Prop := fun vs H Q => ∃ (a : Addr) (i j : Int), vs = [V.ref a] ∧ SqT K H a [.int i, .int j] ∧ Q (.int (if j < i then j else i)) H
theorem cr_minT {X : Cx} (hc : X.calm = true) (hu : X.A.units + 65 < cLine) : CallR X (.builtin "min") (rMinT X.K) := by
  intro pins s σ H vs us Q I r h
  obtain ⟨a, i, j, rfl, hs, q⟩ := h
  obtain ⟨its, rv, hl, _⟩ := I.tuple hs
  rw [Vals.ref1 r]
  obtain ⟨u1, u2, rfl, ⟨t1, rfl⟩, ⟨t2, rfl⟩⟩ := vals2 rv
  refine PySem.W.min_tuple_datum (α := Int) (x := i) (xs := [j]) (I.ok.hd hc) hl (PySem.W.HoldAll.cons (PySem.W.holds_int _ _) (PySem.W.HoldAll.cons (PySem.W.holds_int _ _) PySem.W.HoldAll.nil)) (by show X.A.units + 1 + 0 < cLine; omega) fun k v h' tk hk hv kp => ?_
  have J := I.kept (t' := tk) kp
  have hval : ∀ (n : Int) (t : Tok), v = .int n t → n = PySem.W.minOf i [j] := fun n t e => by
    subst e
    obtain ⟨as, rd⟩ := hv
    cases rd
    rfl
  have em : PySem.W.minOf i [j] = if j < i then j else i := by
    show (if PySem.W.DatumOrd.lt j i = true then j else i) = _
    by_cases c : j < i
    · rw [if_pos c, if_pos (by show decide (j < i) = true; exact decide_eq_true c)]
    · rw [if_neg c, if_neg (by show ¬ decide (j < i) = true; simpa using c)]
  obtain ⟨n, t, rfl⟩ : ∃ n t, v = Value.int n t := by
    match k, hk with
    | 0, hk => exact ⟨i, t1, (Option.some.inj hk).symm⟩
    | 1, hk => exact ⟨j, t2, (Option.some.inj hk).symm⟩
    | k + 2, hk => simp at hk
  have en := hval n t rfl
  rw [em] at en
  exact ⟨.int n, H, J, ⟨t, rfl⟩, by rw [en]; exact q⟩
end L2

namespace L2
open PySem PySem.Spec PyProof.Rows
/-! ### data: lists of ints, pairs of ints, lists of pairs -/
def dInts (xs : List Int) : PyData := .list (xs.map PyData.int)
def dPr (p : Int × Int) : PyData := .tuple [.int p.1, .int p.2]
def dPrs (ps : List (Int × Int)) : PyData := .list (ps.map dPr)
theorem dpa_ints {K : PySem.W.Frag} {H : Hp} : ∀ xs : List Int, DpAll K H (xs.map V.int) (xs.map PyData.int)
  | [] => .nil
  | x :: xs => .cons (.int x) (dpa_ints xs)
theorem dp_ints {K : PySem.W.Frag} {H : Hp} {a : Addr} {xs : List Int} (h : SqL K H a (xs.map V.int)) : Dp K H (.ref a) (dInts xs) := .lst h (dpa_ints xs)
theorem dp_pr {K : PySem.W.Frag} {H : Hp} {t : Addr} {p : Int × Int} (h : SqT K H t [.int p.1, .int p.2]) : Dp K H (.ref t) (dPr p) := .tup h (.cons (.int _) (.cons (.int _) .nil))
theorem dpa_prs {K : PySem.W.Frag} {H : Hp} : ∀ (ts : List Addr) (ps : List (Int × Int)), ts.length = ps.length → (∀ (k : Nat) (t : Addr) (p : Int × Int), ts[k]? = some t → ps[k]? = some p → SqT K H t [.int p.1, .int p.2]) → DpAll K H (ts.map V.ref) (ps.map dPr)
  | [], [], _, _ => .nil
  | t :: ts, p :: ps, hl, h => .cons (dp_pr (h 0 t p rfl rfl)) (dpa_prs ts ps (by simpa using hl) fun k t' p' a b => h (k + 1) t' p' a b)
  | [], _ :: _, hl, _ => by simp at hl
  | _ :: _, [], hl, _ => by simp at hl
theorem ints_lay : ∀ xs : List Int, PyData.canLayAll0 (xs.map PyData.int) = true
  | [] => by simp [PyData.canLayAll0]
  | x :: xs => by simp [PyData.canLayAll0, PyData.canLay0, ints_lay xs]
theorem ints_depth : ∀ xs : List Int, PyData.depthAll (xs.map PyData.int) ≤ 1
  | [] => by simp [PyData.depthAll]
  | x :: xs => by
    have := ints_depth xs
    simp only [List.map_cons, PyData.depthAll, PyData.depth]
    omega
theorem prs_lay : ∀ ps : List (Int × Int), PyData.canLayAll0 (ps.map dPr) = true
  | [] => by simp [PyData.canLayAll0]
  | p :: ps => by simp [PyData.canLayAll0, PyData.canLay0, dPr, prs_lay ps]
theorem pr_depth (p : Int × Int) : (dPr p).depth ≤ 2 := by simp [dPr, PyData.depth, PyData.depthAll]
theorem prs_depth : ∀ ps : List (Int × Int), PyData.depthAll (ps.map dPr) ≤ 2
  | [] => by simp [PyData.depthAll]
  | p :: ps => by
    have h1 := prs_depth ps
    have h2 := pr_depth p
    simp only [List.map_cons, PyData.depthAll]
    omega
theorem shaped_of {d : PyData} (h : d.canLay0 = true) (h2 : d.depth ≤ 64) : SeqAt.shaped d = true := by
  show (d.canLay0 && decide (d.depth ≤ 64)) = true
  rw [h, decide_eq_true h2]
  rfl
theorem ints_shaped (xs : List Int) : SeqAt.shaped (dInts xs) = true := shaped_of (by simp only [dInts, PyData.canLay0]; exact ints_lay xs) (by have := ints_depth xs; simp only [dInts, PyData.depth]; omega)
theorem pr_shaped (p : Int × Int) : SeqAt.shaped (dPr p) = true := shaped_of (by simp [dPr, PyData.canLay0, PyData.canLayAll0]) (by have := pr_depth p; omega)
theorem prs_shaped (ps : List (Int × Int)) : SeqAt.shaped (dPrs ps) = true := shaped_of (by simp only [dPrs, PyData.canLay0]; exact prs_lay ps) (by have := prs_depth ps; simp only [dPrs, PyData.depth]; omega)
theorem ints_eqvA : ∀ xs : List Int, PyData.eqvAll (xs.map PyData.int) (xs.map PyData.int) = true
  | [] => by simp [PyData.eqvAll]
  | x :: xs => by simp [PyData.eqvAll, PyData.eqv, ints_eqvA xs]
theorem ints_eqv (xs : List Int) : PyData.eqv (dInts xs) (dInts xs) = true := by simp only [dInts, PyData.eqv]; exact ints_eqvA xs
theorem pr_eqv (p q : Int × Int) : PyData.eqv (dPr p) (dPr q) = decide (p = q) := by
  obtain ⟨a, b⟩ := p
  obtain ⟨c, d⟩ := q
  have e : PyData.eqv (dPr (a, b)) (dPr (c, d)) = ((a == c) && ((b == d) && true)) := by simp only [dPr, PyData.eqv, PyData.eqvAll]
  rw [e]
  by_cases h1 : a = c
  · by_cases h2 : b = d
    · subst h1 h2
      simp
    · simp [h2]
  · simp [h1]
theorem prs_eqvA : ∀ ps : List (Int × Int), PyData.eqvAll (ps.map dPr) (ps.map dPr) = true
  | [] => by simp [PyData.eqvAll]
  | p :: ps => by
    simp only [List.map_cons, PyData.eqvAll, prs_eqvA ps, pr_eqv]
    simp
theorem prs_eqv (ps : List (Int × Int)) : PyData.eqv (dPrs ps) (dPrs ps) = true := by simp only [dPrs, PyData.eqv]; exact prs_eqvA ps
theorem any_pr (ps : List (Int × Int)) (p : Int × Int) : ((ps.map dPr).any fun z => PyData.eqv z (dPr p)) = decide (p ∈ ps) := by
  induction ps with
  | nil => rfl
  | cons q ps ih =>
    rw [List.map_cons, List.any_cons, ih, pr_eqv]
    by_cases c : q = p
    · subst c; simp
    · simp [c, Ne.symm c]
end L2

/-! # Own layer: defs whose promise is kept where no repr is under way (the law's own call is such a place): repr of lists and tuples -/
namespace L2
open PySem PySem.Spec PyProof.Rows
/-- as FnOk, but for calls with no repr under way -/
structure FnG (P : Program) (w : World) (K : PySem.W.Frag) (mg : Str → Option Value) (base : Heap) (CX : CXT) (k : Nat) (f : Addr) (fd : FuncData) (ps : List Str) (sp : Sp) : Prop where
  many : ∀ vs H Q E, sp vs H Q E → vs.length = ps.length
  go : ∀ (B : Around) (out : List Env) (z : Shared) (H : Hp) (ar : Args) (us : List Value) (vs : List V) (Q : VK) (E : XK), Room k B → B.guards = some [] → Env0 P w K mg base B out z H → BindsTo z fd ar (ps.zip us) →
    Vals vs us → sp vs H Q E → codeAny (model P w) B (.call (.ref f) ar) (CR CX out P w H z Q E) z
theorem FnOk.g {P : Program} {w : World} {K : PySem.W.Frag} {mg : Str → Option Value} {base : Heap} {CX : CXT} {k : Nat} {f : Addr} {fd : FuncData} {ps : List Str} {sp : Sp} (F : FnOk P w K mg base CX k f fd ps sp) : FnG P w K mg base CX k f fd ps sp :=
  ⟨F.len, fun B out z H ar us vs Q E hr _ => F.run B out z H ar us vs Q E hr⟩
section
variable {P : Program} {w : World} {K : PySem.W.Frag} {mg : Str → Option Value} {base : Heap}
theorem fnG_mk {CX : CXT} {k : Nat} {x qual : Str} {st : Stmt} {f : Addr} {fd : FuncData} {N ps : List Str} {sp : Sp} (F : Fun K x qual st f fd) (S : FnScope N ps (defScope st)) (many : ∀ vs H Q E, sp vs H Q E → vs.length = ps.length)
    (body : ∀ (cdv : Value) (B : Around) (out : List Env) (z : Shared) (H : Hp) (vs : List V) (Q : VK) (E : XK), Room k (B.deeper (envOfC qual (defScope st) z.heap.objs.size f cdv)) → B.guards = some [] → sp vs H Q E →
      ∃ t, PSs (cxOf CX P w K mg base N qual (defScope st) f cdv B out z H E) (defBody st) t ∧ t { nx := fun _ H' => Q .non H', rt := Q } (start N vs) H) : FnG P w K mg base CX (k + 1) f fd ps sp := by
  obtain ⟨oc, od, kV, doc, pm, an, cdv, ct, osl, rfl, look, code⟩ := F.ex
  refine ⟨many, fun B out z H ar us vs Q E room hg e0 bind vals prom => ?_⟩
  have nvs := many vs H Q E prom
  have kin : K.In z.heap := e0.mod.kin.keeps fun c o hc => (e0.bs c o hc).1
  have nolim : z.heap.NoLimit := e0.mod.nolimit.keeps fun c o hc => (e0.bs c o hc).1
  refine codeAny_call_function room.depth (kin _ _ look) rfl S.co S.gen rfl (PySem.W.codeRec_of kin code) (bind _ _ _ _ ?_)
  refine wpAny_newFunctionEnv_cells S.kind (fun ⟨n, u⟩ hy => (S.par n (List.of_mem_zip hy).1).imp id fun q => ⟨q, PySem.W.cellsFrom_some _ _ _ (.inl q)⟩) fun env he z1 inside => ?_
  subst he
  refine ⟨nolim.keeps inside.toInCall.keep, codeAny_func ?_⟩
  obtain ⟨t, tree, wish⟩ := body cdv B out z H vs Q E (room.deeper _) hg prom
  have I0 := inv_start (CX := CX) (E := E) (qual := qual) (f := f) (cd := cdv) S room.hd e0 nvs vals inside
  refine wpAny_mono (tree.run [] z1 (start N vs) H _ I0 wish) (fun fl z2 hs => ?_) fun e z2 hs => hs
  match fl, hs with
  | .ret u, ⟨v, _, H2, J, rv, q⟩ => exact ⟨v, H2, J.os, J.bare, J.base, J.hok, rv, q⟩
  | .next, ⟨_, H2, J, q⟩ => exact ⟨V.non, H2, J.os, J.bare, J.base, J.hok, rfl, q⟩
  | .brk, ⟨_, _, _, q⟩ => exact q.elim
  | .cont, ⟨_, _, _, q⟩ => exact q.elim
/-- a def that raises nothing -/
theorem Fun.okG {k : Nat} {x qual : Str} {st : Stmt} {f : Addr} {fd : FuncData} {N ps : List Str} {sp : Sp} (F : Fun K x qual st f fd) (S : FnScope N ps (defScope st)) (many : ∀ vs H Q E, sp vs H Q E → vs.length = ps.length)
    (body : ∀ (cdv : Value) (A : Around) (outer : List Env) (s : Shared) (H : Hp) (vs : List V) (Q : VK) (E : XK), Room k (A.deeper (envOfC qual (defScope st) s.heap.objs.size f cdv)) → A.guards = some [] → sp vs H Q E →
      ∃ t, PSs (cxOf CX0 P w K mg base N qual (defScope st) f cdv A outer s H E).nox (defBody st) t ∧ t { nx := fun _ H' => Q .non H', rt := Q } (start N vs) H) : FnG P w K mg base CX0 (k + 1) f fd ps sp :=
  fnG_mk F S many fun cdv A outer s H vs Q E hr hg hsp => by
    obtain ⟨t, h, q⟩ := body cdv A outer s H vs Q E hr hg hsp
    exact ⟨t, h.nox, q⟩
end
/-- such a def, bundled by its name -/
def FnGB (P : Program) (w : World) (K : PySem.W.Frag) (mg : Str → Option Value) (base : Heap) (CX : CXT) (k : Nat) (x : Str) (ps : List Str) (sp : Sp) : Prop :=
  ∃ (f : Addr) (fd : FuncData), FnG P w K mg base CX k f fd ps sp ∧ mg x = some (.ref f) ∧ PySem.W.keepIn K (.ref f) = true ∧ Binds K fd ps []
section
variable {X : Cx} {CX : CXT} {k : Nat} {ps : List Str} {sp : Sp} {E : XK} {x : Str} {p pos : Pos} {e : Expr} {es : List Expr} {t : TA}
theorem pe_callG (F : FnGB X.prog X.w X.K X.mg X.base CX k x ps sp) (hr : Room k X.A) (hgu : X.A.guards = some []) (hg : Gl X x) (hx : Passes CX X E)
    (ha : PA X (e :: es) t) (hdb : (x == ("__debug__" : Str)) = false := by decide) (he : starEach (e :: es) X.env = (false, eval e X.env) :: starEach es X.env := by rfl) (hpl : (backTo pos (starEach es X.env)).any (·.1) = false := by rfl) :
    PE X (.Call (.Name x p) (e :: es) [] pos) (tCall sp [] E t) := by
  obtain ⟨f, fd, F, hm, hk, hb⟩ := F
  refine ⟨fun pins s σ H Q I h => wpAny_Call_Name_kw (ld_glob I hg hm ?_ hdb)⟩
  refine PySem.W.callWith_K (h₀ := X.base) I.ok.mod.kin hk (thn (ha.run pos pins s σ H _ I h) fun us s1 hh => ?_) he hpl
  obtain ⟨vs, H1, J, r, q⟩ := hh
  rw [List.append_nil] at q
  refine ⟨J.kIn, wpAny_call (codeAny_mono (F.go X.A X.stack s1 H1 ⟨us, []⟩ us vs Q E hr hgu J.env0 ?_ r q) fun res s2 done => ?_)⟩
  · have := hb s1 us J.kIn (by rw [List.append_nil, ← r.length]; exact F.many _ _ _ _ q)
    rwa [List.append_nil] at this
  · match res, done with
    | .error e, h => exact hx pins σ H1 s1 e s2 J h
    | .ok (.ret u), h => exact J.after h
/-- repr(x), x a list or a tuple of data -/
def rReprD (K : PySem.W.Frag) : List V → Hp → VK → Prop := fun xs H Q => ∃ (a : Addr) (d : PyData), xs = [.ref a] ∧ Dp K H (.ref a) d ∧ SeqAt.shaped d = true ∧ d.showable = true ∧ d.shown.length ≤ sizeLine ∧ Q (.str d.shown) H
theorem cr_reprD (hgu : X.A.guards = some []) (hu : X.A.units + 66 < cLine) : CallR X (.builtin "repr") (rReprD X.K) := by
  intro pins s σ H xs us Q I r h
  obtain ⟨a, d, rfl, hd, sd, hs, hz, q⟩ := h
  match us, r with
  | [u], .cons (rx : u = Value.ref a) .nil =>
    subst rx
    obtain ⟨as, rd⟩ := Dp.reads I d (.ref a) (.ref a) hd rfl
    have dep := SeqAt.depth_of_shaped sd
    refine repr_of_reads' rd hs (PyData.noDict_hsm (PyData.hasDict_of_canLay d (SeqAt.canLay_of_shaped sd))) hgu (by omega) (fun _ _ z => z) (fun h' u tk kp => ?_) hz
    exact ⟨.str d.shown, H, I.kept kp, ⟨u, rfl⟩, q⟩
end

/-- the head: the law's def called with the script, no repr under way -/
theorem law_callG {P : Program} {w : World} {K : PySem.W.Frag} {mg mb : Str → Option Value} {k : Nat} {fa a : Addr} {fd : FuncData} {x : Str} {sp : Sp} {z : Shared} {us : List Value} {ns : List Int}
    (kin : K.In z.heap) (glob : z.heap.Ns mainGlobals mg) (blt : z.heap.Ns builtinsNs mb) (bbb : ∀ x : Str, x ≠ "__name__" → mb x = bootBuiltins x) (nolim : z.heap.NoLimit) (gens : z.gens = #[])
    (obj : z.heap.get? a = some { cls := .type "list", data := .seq us.toArray }) (inty : IntsAre us ns) (short : ns.length ≤ sizeLine) (room : Room k callerA)
    (F : ∀ base : Heap, K.In base → base.Ns mainGlobals mg → FnG P w K mg base CX0 k fa fd [x] sp) (bind : ∀ (s : Shared) (u : Value), BindsTo s fd ⟨[u], []⟩ [(x, u)])
    (prom : ∀ H : Hp, Only H → SqL K H a (ns.map V.int) → sp [.ref a] H (fun v _ => v = .bl true) fun _ _ _ => False) :
    codeAny (model P w) callerA (.call (.ref fa) ⟨[.ref a], []⟩) (fun r s' => r = .ok (.ret (.bool true)) ∧ OldK z.heap s'.heap ∧ s'.os = z.os ∧ AllBare s'.gens) z := by
  have vals := vals_ints inty
  -- what is tracked: the script, if the written part does not hold it
  obtain ⟨H, only, sq, hok, just, out⟩ : ∃ H : Hp, Only H ∧ SqL K H a (ns.map V.int) ∧ HOk P w H z.heap ∧ (∀ b o, H b = some o → b = a) ∧ (∀ o, H a = some o → K.lookup a = none) := by
    cases hk : K.lookup a with
    | some o =>
      have e := kin a o hk
      rw [obj] at e
      cases e
      exact ⟨fun _ => none, fun _ => .inl rfl, .inr ⟨_, us.toArray, _, hk, rfl, rfl, rfl, by rw [List.size_toArray, inty.length]; exact short, vals⟩, (fun b u hb => nomatch (show (none : Option HO) = some u from hb)), (fun b o hb => nomatch (show (none : Option HO) = some o from hb)), (fun o hb => nomatch (show (none : Option HO) = some o from hb))⟩
    | none =>
      have it : ∀ {b : Addr} {o : HO}, (if b = a then some (HO.frz { cls := .type "list", data := .seq us.toArray } (.lst (ns.map V.int))) else none) = some o → b = a ∧ o = HO.frz { cls := .type "list", data := .seq us.toArray } (.lst (ns.map V.int)) := fun {b o} hb => by
        by_cases c : b = a
        · rw [if_pos c] at hb
          exact ⟨c, (Option.some.inj hb).symm⟩
        · rw [if_neg c] at hb
          cases hb
      refine ⟨fun b => if b = a then some (.frz { cls := .type "list", data := .seq us.toArray } (.lst (ns.map V.int))) else none, fun b => ?_, .inl (.inr ⟨_, if_pos rfl⟩), fun b u hb => ?_, fun b o hb => (it hb).1, fun _ _ => rfl⟩
      · by_cases c : b = a
        · exact .inr ⟨_, _, if_pos c⟩
        · exact .inl (if_neg c)
      · obtain ⟨rfl, rfl⟩ := it hb
        exact ⟨obj, by rw [List.length_map]; exact short, us, _, vals, obj⟩
  have stays : ∀ {b : Addr} {o : Obj}, z.heap.get? b = some o → H b = none → (hidT z.heap H).get? b = some o := fun e n => hidT_get e n
  have kin2 : K.In (hidT z.heap H) := fun b o e => stays (kin b o e) (by
    cases q : H b with
    | none => rfl
    | some u =>
      have eb := just b u q
      subst eb
      rw [out u q] at e
      cases e)
  have ns2 : ∀ {b : Addr} {m : Str → Option Value}, z.heap.Ns b m → (hidT z.heap H).Ns b m := fun {b m} hn => by
    obtain ⟨o, es, ep, e, d, r⟩ := hn
    refine ⟨o, es, ep, stays e ?_, d, r⟩
    cases q : H b with
    | none => rfl
    | some u =>
      have eb := just b u q
      subst eb
      rw [obj] at e
      cases e
      have d2 : Data.seq us.toArray _ = Data.dict es ep := d
      cases d2
  obtain ⟨mc, l1, l2⟩ := nolim
  have e0 : Env0 P w K mg (hidT z.heap H) callerA [] z H :=
    { frames := rfl, mod := ⟨kin2, ns2 glob, ⟨mb, ns2 blt, bbb⟩, ⟨mc, ns2 l1, l2⟩⟩, bs := fun b o e => of_hidT e, bsz := Nat.le_of_eq (hidT_size _ _), funs := trivial, frf := fun b hb => (List.not_mem_nil hb).elim, hok := hok, bare := .of_eq gens }
  refine codeAny_mono ((F _ kin2 (ns2 glob)).go callerA [] z H ⟨[.ref a], []⟩ [.ref a] [.ref a] _ _ room rfl e0 (bind z (.ref a)) (.cons rfl .nil) (prom H only sq)) fun res s' done => ?_
  match res, done with
  | .error e, h => exact h.elim
  | .ok (.ret u), ⟨v, H', os, bare, un, hok', rv, q⟩ =>
    obtain rfl : v = .bl true := q
    obtain rfl : u = Value.bool true := rv
    refine ⟨rfl, OldK.of_keep fun b o e => ?_, os, bare⟩
    cases q : H b with
    | none => exact un.keep b o e q (fun h => (List.not_mem_nil h).elim) (fun h => (List.not_mem_nil h).elim)
    | some u =>
      rcases only b with n | ⟨ob, xs, n⟩
      · rw [q] at n
        cases n
      · obtain ⟨e1, _⟩ := hok b _ n
        rw [e] at e1
        cases e1
        obtain ⟨e2, _⟩ := hok' b _ (un.frzs b o _ n)
        exact e2
theorem walk_ofG {l : PySem.W.OpenLaw} {n k : Nat} {q : Program} {loose : List Str} {XP : (Str → Option Value) → Heap → Prop} {YP : World → Heap → Prop} {d : DefRec} {K : Params → PySem.W.Frag} {sp : PySem.W.Frag → Sp} {x : Str}
    (most : l.most = some n) (short : n ≤ sizeLine) (dfl : d.params.defaults = []) (room : Room k callerA) (kin : ∀ (w : World) (h : Heap), YP w h → (K w.params).In h)
    (F : ∀ (w : World) (mg : Str → Option Value) (fa : Addr) (h : Heap), (K w.params).In h → h.Ns mainGlobals mg → mg d.name = some (.ref fa) →
      ∃ fd : FuncData, (∀ (s : Shared) (u : Value), BindsTo s fd ⟨[u], []⟩ [(x, u)]) ∧ ∀ base : Heap, (K w.params).In base → base.Ns mainGlobals mg → FnG l.prog w (K w.params) mg base CX0 k fa fd [x] (sp (K w.params)))
    (prom : ∀ (K : PySem.W.Frag) (H : Hp) (a : Addr) (ns : List Int), ns.length ≤ n → SqL K H a (ns.map V.int) → sp K [.ref a] H (fun v _ => v = .bl true) fun _ _ _ => False) :
    PySem.W.WalkO q loose XP YP l.row.toRowW d [] (fun f vs => PySem.call f vs) := by
  refine Att.attach_call most dfl fun w s0 s1 mg mb fa o pm cd doc a vs ns G Y ho hd hcd hmg hobj hints hlen hg => ?_
  obtain ⟨fd, bind, hF⟩ := F w mg fa _ (kin w _ Y) G.T.g hmg
  exact law_callG (kin w _ Y) G.T.g G.T.b G.T.builtins G.T.nolimit hg hobj hints (Nat.le_trans hlen short) room hF bind fun H _ hS => prom _ H a ns hlen hS
end L2

/-! # Lines of words: what a split by line feeds and spaces tells, and what one look through the signs tells. Plain Lean -/
namespace Lns
/-- split at the sign c, acc the part under way -/
def spA (c : Nat) : List Nat → List Nat → List (List Nat)
  | acc, [] => [acc]
  | acc, a :: r => if a = c then acc :: spA c [] r else spA c (acc ++ [a]) r
def okS (a : Nat) : Bool := decide (33 ≤ a) && decide (a ≤ 126)
def okW (w : List Nat) : Bool := (!w.isEmpty) && w.all okS
def wordsOf (l : List Nat) : Option (List (List Nat)) := if (spA 32 [] l).all okW = true then some (spA 32 [] l) else none
abbrev Rows := List (List (List Nat))
def goP : List (List Nat) → Rows → Nat × Rows
  | [], rows => (0, rows)
  | [l], rows => (if l = [] then 0 else rows.length + 1, rows)
  | l :: m :: ls, rows => match wordsOf l with
    | none => (rows.length + 1, rows)
    | some ws => goP (m :: ls) (rows ++ [ws])
def prog (t : List Nat) : Nat × Rows := goP (spA 10 [] t) []
def scan : List Nat → Rows → List (List Nat) → List Nat → Bool → Nat × Rows
  | [], rows, _, _, st => (if st = true then rows.length + 1 else 0, rows)
  | a :: r, rows, ws, w, _ =>
    if a = 32 ∨ a = 10 then
      if w = [] then (rows.length + 1, rows)
      else if a = 10 then scan r (rows ++ [ws ++ [w]]) [] [] false else scan r rows (ws ++ [w]) [] true
    else if okS a = true then scan r rows ws (w ++ [a]) true else (rows.length + 1, rows)
theorem spA_hit (c : Nat) (acc r : List Nat) : spA c acc (c :: r) = acc :: spA c [] r := by rw [spA, if_pos rfl]
theorem spA_miss {c a : Nat} (acc r : List Nat) (h : a ≠ c) : spA c acc (a :: r) = spA c (acc ++ [a]) r := by rw [spA, if_neg h]
theorem spA_ne (c : Nat) : ∀ (l acc : List Nat), spA c acc l ≠ []
  | [], acc => by simp [spA]
  | a :: r, acc => by
    by_cases h : a = c
    · rw [h, spA_hit]
      simp
    · rw [spA_miss _ _ h]
      exact spA_ne c r _
theorem spA_app (c : Nat) : ∀ (p acc s : List Nat) (ws : List (List Nat)) (w : List Nat), spA c acc p = ws ++ [w] → spA c acc (p ++ s) = ws ++ spA c w s
  | [], acc, s, ws, w, h => by
    have h' : [acc] = ws ++ [w] := h
    cases ws with
    | nil =>
      have e : acc = w := by simpa using h'
      rw [e]
      rfl
    | cons x xs => simp at h'
  | a :: p, acc, s, ws, w, h => by
    rw [List.cons_append]
    by_cases e : a = c
    · rw [e, spA_hit] at h
      rw [e, spA_hit]
      cases ws with
      | nil =>
        have e2 : acc = w ∧ spA c [] p = [] := by simpa using h
        exact absurd e2.2 (spA_ne c p [])
      | cons x xs =>
        have e2 : acc = x ∧ spA c [] p = xs ++ [w] := by simpa using h
        rw [spA_app c p [] s xs w e2.2, e2.1]
        rfl
    · rw [spA_miss _ _ e] at h
      rw [spA_miss _ _ e]
      exact spA_app c p _ s ws w h
theorem spA_head (c : Nat) : ∀ (s acc : List Nat), ∃ t r, spA c acc s = (acc ++ t) :: r
  | [], acc => ⟨[], [], by simp [spA]⟩
  | a :: s, acc => by
    by_cases e : a = c
    · exact ⟨[], spA c [] s, by rw [e, spA_hit]; simp⟩
    · obtain ⟨t, r, h⟩ := spA_head c s (acc ++ [a])
      exact ⟨a :: t, r, by rw [spA_miss _ _ e, h]; simp⟩
/-- no text that begins so is a line of words -/
def Bad (q : List Nat) : Prop := ∀ s, (spA 32 [] (q ++ s)).all okW = false
theorem Bad.more {q : List Nat} (h : Bad q) (a : Nat) : Bad (q ++ [a]) := fun s => by
  rw [List.append_assoc]
  exact h _
theorem goP_bad : ∀ (r q : List Nat) (rows : Rows), Bad q → q ≠ [] → goP (spA 10 q r) rows = (rows.length + 1, rows)
  | [], q, rows, _, hq => by
    show goP [q] rows = _
    unfold goP
    rw [if_neg hq]
  | a :: r, q, rows, hb, hq => by
    by_cases c : a = 10
    · rw [c, spA_hit]
      cases hr : spA 10 [] r with
      | nil => exact absurd hr (spA_ne 10 r [])
      | cons m ls =>
        have e : wordsOf q = none := by
          unfold wordsOf
          have := hb []
          rw [List.append_nil] at this
          rw [this]
          rfl
        show goP (q :: m :: ls) rows = _
        unfold goP
        rw [e]
    · rw [spA_miss _ _ c]
      exact goP_bad r _ rows (hb.more a) (by simp)
theorem scan_go : ∀ (t : List Nat) (rows : Rows) (ws : List (List Nat)) (w : List Nat) (p : List Nat), spA 32 [] p = ws ++ [w] → ws.all okW = true → w.all okS = true →
    scan t rows ws w (!p.isEmpty) = goP (spA 10 p t) rows
  | [], rows, ws, w, p, h, h1, h2 => by
    show (if (!p.isEmpty) = true then rows.length + 1 else 0, rows) = goP [p] rows
    unfold goP
    cases p with
    | nil => rfl
    | cons a p => rfl
  | a :: r, rows, ws, w, p, h, h1, h2 => by
    have badw : a = 32 ∨ a = 10 → w = [] → a ≠ 10 → Bad (p ++ [a]) := fun c hw ne s => by
      have a32 : a = 32 := by omega
      rw [List.append_assoc, spA_app 32 p [] _ ws w h, hw, a32]
      show (ws ++ spA 32 [] (32 :: s)).all okW = false
      rw [spA_hit, List.all_append, List.all_cons]
      have : okW [] = false := rfl
      rw [this, Bool.false_and, Bool.and_false]
    unfold scan
    by_cases c : a = 32 ∨ a = 10
    · rw [if_pos c]
      by_cases hw : w = []
      · rw [if_pos hw]
        by_cases c10 : a = 10
        · rw [c10, spA_hit]
          cases hr : spA 10 [] r with
          | nil => exact absurd hr (spA_ne 10 r [])
          | cons m ls =>
            have e : wordsOf p = none := by
              unfold wordsOf
              rw [h, List.all_append, hw]
              have : [([] : List Nat)].all okW = false := rfl
              rw [this, Bool.and_false]
              rfl
            unfold goP
            rw [e]
        · rw [spA_miss _ _ c10]
          exact (goP_bad r _ rows (badw c hw c10) (by simp)).symm
      · rw [if_neg hw]
        have hwW : okW w = true := by
          unfold okW
          rw [h2]
          cases w with
          | nil => exact absurd rfl hw
          | cons x y => rfl
        by_cases c10 : a = 10
        · rw [if_pos c10, c10, spA_hit]
          cases hr : spA 10 [] r with
          | nil => exact absurd hr (spA_ne 10 r [])
          | cons m ls =>
            have e : wordsOf p = some (ws ++ [w]) := by
              unfold wordsOf
              rw [h, List.all_append, h1, List.all_cons, hwW]
              rfl
            have ih := scan_go r (rows ++ [ws ++ [w]]) [] [] [] rfl rfl rfl
            rw [hr] at ih
            unfold goP
            rw [e]
            exact ih
        · have a32 : a = 32 := by omega
          rw [if_neg c10, spA_miss _ _ c10]
          have ih := scan_go r rows (ws ++ [w]) [] (p ++ [a]) (by
            rw [spA_app 32 p [] _ ws w h, a32]
            show ws ++ spA 32 w [32] = _
            rw [spA_hit]
            simp [spA]) (by rw [List.all_append, h1, List.all_cons, hwW]; rfl) rfl
          rw [← ih]
          congr 1
          cases p <;> rfl
    · have n10 : a ≠ 10 := fun e => c (.inr e)
      have n32 : a ≠ 32 := fun e => c (.inl e)
      rw [if_neg c, spA_miss _ _ n10]
      by_cases ok : okS a = true
      · rw [if_pos ok]
        have ih := scan_go r rows ws (w ++ [a]) (p ++ [a]) (by
          rw [spA_app 32 p [] _ ws w h, spA_miss _ _ n32]
          rfl) h1 (by rw [List.all_append, h2, List.all_cons, ok]; rfl)
        rw [← ih]
        congr 1
        cases p <;> rfl
      · rw [if_neg ok]
        refine (goP_bad r _ rows (fun s => ?_) (by simp)).symm
        rw [List.append_assoc, spA_app 32 p [] _ ws w h]
        show (ws ++ spA 32 w (a :: s)).all okW = false
        rw [spA_miss _ _ n32]
        obtain ⟨t, r2, e⟩ := spA_head 32 s (w ++ [a])
        rw [e, List.all_append, List.all_cons]
        have : okW (w ++ [a] ++ t) = false := by
          unfold okW
          rw [List.all_append, List.all_append, List.all_cons]
          have : okS a = false := by simpa using ok
          rw [this]
          simp
        rw [this, Bool.false_and, Bool.and_false]
theorem scan_prog (t : List Nat) : scan t [] [] [] false = prog t := scan_go t [] [] [] [] rfl rfl rfl
/-- what the words of the rows weigh -/
def wsum (ws : List (List Nat)) : Nat := (ws.map fun w => w.length + 1).sum
def rsum (rows : Rows) : Nat := (rows.map fun ws => wsum ws + 1).sum
theorem wsum_snoc (ws : List (List Nat)) (w : List Nat) : wsum (ws ++ [w]) = wsum ws + w.length + 1 := by
  simp [wsum, Nat.add_assoc]
theorem rsum_snoc (rows : Rows) (ws : List (List Nat)) : rsum (rows ++ [ws]) = rsum rows + wsum ws + 1 := by
  simp [rsum, Nat.add_assoc]
theorem scan_sum : ∀ (t : List Nat) (rows : Rows) (ws : List (List Nat)) (w : List Nat) (st : Bool), rsum (scan t rows ws w st).2 ≤ rsum rows + 2 * (wsum ws + w.length + t.length)
  | [], rows, ws, w, st => by
    show rsum rows ≤ _
    omega
  | a :: r, rows, ws, w, st => by
    unfold scan
    by_cases c : a = 32 ∨ a = 10
    · rw [if_pos c]
      by_cases hw : w = []
      · rw [if_pos hw]
        show rsum rows ≤ _
        omega
      · rw [if_neg hw]
        by_cases c10 : a = 10
        · rw [if_pos c10]
          have ih := scan_sum r (rows ++ [ws ++ [w]]) [] [] false
          rw [rsum_snoc, wsum_snoc] at ih
          have e : wsum [] = 0 := rfl
          rw [e] at ih
          simp only [List.length_nil, List.length_cons] at ih ⊢
          omega
        · rw [if_neg c10]
          have ih := scan_sum r rows (ws ++ [w]) [] true
          rw [wsum_snoc] at ih
          simp only [List.length_nil, List.length_cons] at ih ⊢
          omega
    · rw [if_neg c]
      by_cases ok : okS a = true
      · rw [if_pos ok]
        have ih := scan_sum r rows ws (w ++ [a]) true
        rw [List.length_append, List.length_singleton] at ih
        simp only [List.length_cons] at ih ⊢
        omega
      · rw [if_neg ok]
        show rsum rows ≤ _
        omega
def okR (rows : Rows) : Prop := ∀ ws ∈ rows, ∀ w ∈ ws, ∀ c ∈ w, c < 128
theorem ok_lt {a : Nat} (h : okS a = true) : a < 128 := by
  unfold okS at h
  simp at h
  omega
theorem scan_okR : ∀ (t : List Nat) (rows : Rows) (ws : List (List Nat)) (w : List Nat) (st : Bool), okR rows → (∀ v ∈ ws, ∀ c ∈ v, c < 128) → (∀ c ∈ w, c < 128) → okR (scan t rows ws w st).2
  | [], rows, ws, w, st, h, _, _ => h
  | a :: r, rows, ws, w, st, h, h1, h2 => by
    have h3 : ∀ v ∈ ws ++ [w], ∀ c ∈ v, c < 128 := fun v hv => by
      rcases List.mem_append.mp hv with z | z
      · exact h1 v z
      · have : v = w := by simpa using z
        rw [this]
        exact h2
    unfold scan
    by_cases c : a = 32 ∨ a = 10
    · rw [if_pos c]
      by_cases hw : w = []
      · rw [if_pos hw]
        exact h
      · rw [if_neg hw]
        by_cases c10 : a = 10
        · rw [if_pos c10]
          refine scan_okR r _ [] [] false (fun v hv => ?_) (fun v hv => by simp at hv) (fun c hc => by simp at hc)
          rcases List.mem_append.mp hv with z | z
          · exact h v z
          · have : v = ws ++ [w] := by simpa using z
            rw [this]
            exact h3
        · rw [if_neg c10]
          exact scan_okR r rows _ [] true h h3 (fun c hc => by simp at hc)
    · rw [if_neg c]
      by_cases ok : okS a = true
      · rw [if_pos ok]
        refine scan_okR r rows ws _ true h h1 fun c hc => ?_
        rcases List.mem_append.mp hc with z | z
        · exact h2 c z
        · have : c = a := by simpa using z
          rw [this]
          exact ok_lt ok
      · rw [if_neg ok]
        exact h
theorem prog_sum (t : List Nat) : rsum (prog t).2 ≤ 2 * t.length := by
  rw [← scan_prog]
  have := scan_sum t [] [] [] false
  have e1 : rsum [] = 0 := rfl
  have e2 : wsum [] = 0 := rfl
  rw [e1, e2] at this
  simp at this
  omega
theorem prog_ok (t : List Nat) : okR (prog t).2 := by
  rw [← scan_prog]
  exact scan_okR t [] [] [] false (fun v hv => by simp at hv) (fun v hv => by simp at hv) (fun c hc => by simp at hc)
theorem spA_len (c : Nat) : ∀ (l acc : List Nat), (spA c acc l).length ≤ l.length + 1
  | [], acc => by simp [spA]
  | a :: r, acc => by
    by_cases h : a = c
    · rw [h, spA_hit]
      have := spA_len c r []
      simp only [List.length_cons]
      omega
    · rw [spA_miss _ _ h]
      have := spA_len c r (acc ++ [a])
      simp only [List.length_cons]
      omega
theorem spA_mem (c : Nat) : ∀ (l acc : List Nat), ∀ w ∈ spA c acc l, w.length ≤ acc.length + l.length
  | [], acc, w, h => by
    have : w = acc := by simpa [spA] using h
    rw [this]
    simp
  | a :: r, acc, w, h => by
    by_cases e : a = c
    · rw [e, spA_hit] at h
      rcases List.mem_cons.mp h with z | z
      · rw [z]
        omega
      · have := spA_mem c r [] w z
        simp only [List.length_nil, List.length_cons] at this ⊢
        omega
    · rw [spA_miss _ _ e] at h
      have := spA_mem c r (acc ++ [a]) w h
      simp only [List.length_append, List.length_singleton, List.length_cons, List.length_nil] at this ⊢
      omega
theorem goP_step {L : List (List Nat)} {i : Nat} {rows : Rows} (h : i + 1 < L.length) : goP (L.drop i) rows = match wordsOf (L.getD i []) with
    | none => (rows.length + 1, rows)
    | some ws => goP (L.drop (i + 1)) (rows ++ [ws]) := by
  rw [List.drop_eq_getElem_cons (show i < L.length by omega), List.drop_eq_getElem_cons h]
  have e : L.getD i [] = L[i]'(by omega) := by rw [List.getD_eq_getElem?_getD, List.getElem?_eq_getElem (by omega)]; rfl
  rw [e]
  rfl
theorem goP_last {L : List (List Nat)} {i : Nat} {rows : Rows} (h : i + 1 = L.length) : goP (L.drop i) rows = (if L.getD i [] = [] then 0 else rows.length + 1, rows) := by
  rw [List.drop_eq_getElem_cons (show i < L.length by omega), h, List.drop_length]
  have e : L.getD i [] = L[i]'(by omega) := by rw [List.getD_eq_getElem?_getD, List.getElem?_eq_getElem (by omega)]; rfl
  rw [e]
  rfl
theorem scan_nil (rows : Rows) (ws : List (List Nat)) (w : List Nat) (st : Bool) : scan [] rows ws w st = (if st = true then rows.length + 1 else 0, rows) := rfl
theorem scan_cons (a : Nat) (r : List Nat) (rows : Rows) (ws : List (List Nat)) (w : List Nat) (st : Bool) : scan (a :: r) rows ws w st = if a = 32 ∨ a = 10 then
      if w = [] then (rows.length + 1, rows)
      else if a = 10 then scan r (rows ++ [ws ++ [w]]) [] [] false else scan r rows (ws ++ [w]) [] true
    else if okS a = true then scan r rows ws (w ++ [a]) true else (rows.length + 1, rows) := rfl
theorem rows_sum (rows : Rows) : rows.length ≤ rsum rows := by
  induction rows with
  | nil => exact Nat.le_refl _
  | cons v rows ih =>
    unfold rsum at ih ⊢
    simp only [List.map_cons, List.sum_cons, List.length_cons]
    omega
theorem scan_fst : ∀ (t : List Nat) (rows : Rows) (ws : List (List Nat)) (w : List Nat) (st : Bool), (scan t rows ws w st).1 ≤ (scan t rows ws w st).2.length + 1
  | [], rows, ws, w, st => by
    rw [scan_nil]
    show (if st = true then rows.length + 1 else 0) ≤ rows.length + 1
    split <;> omega
  | a :: r, rows, ws, w, st => by
    rw [scan_cons]
    split
    · split
      · exact Nat.le_refl _
      · split
        · exact scan_fst r _ _ _ _
        · exact scan_fst r _ _ _ _
    · split
      · exact scan_fst r _ _ _ _
      · exact Nat.le_refl _
theorem prog_le (t : List Nat) : (prog t).1 ≤ 2 * t.length + 1 := by
  have h1 := prog_sum t
  have h2 := rows_sum (prog t).2
  have h3 : (prog t).1 ≤ (prog t).2.length + 1 := by
    rw [← scan_prog]
    exact scan_fst t [] [] [] false
  omega
end Lns

/-! # Own layer: texts by their signs (lists of numbers) -/
namespace L2
open PySem PySem.Spec PyProof.Rows TL
def mk (l : List Nat) : Str := ⟨l.toArray⟩
abbrev vS (l : List Nat) : V := .str (mk l)
theorem tlm (l : List Nat) : tl (mk l) = l := rfl
theorem mkt (x : Str) : mk (tl x) = x := mk_tl x
theorem mk_inj {a b : List Nat} (h : mk a = mk b) : a = b := by
  have := congrArg tl h
  exact this
theorem mk_len (l : List Nat) : (mk l).length = l.length := by rw [len_tl]; rfl
theorem mk_app (a b : List Nat) : mk a ++ mk b = mk (a ++ b) := ext_tl (by rw [tl_append]; rfl)
theorem mk_lit (s : String) : Str.ofString s = mk (s.toList.map Char.toNat) := ext_tl (tl_ofString s)
theorem str_if {a b : List Nat} {A B : Prop} (h1 : a = b → A) (h2 : a ≠ b → B) : if decide (V.str (mk a) = V.str (mk b)) = true then A else B :=
  dec_iff (fun h => h1 (mk_inj (V.str.inj h))) fun h => h2 fun e => h (by rw [e])
theorem strn_if {a b : List Nat} {A B : Prop} (h1 : a ≠ b → A) (h2 : a = b → B) : if (!decide (V.str (mk a) = V.str (mk b))) = true then A else B :=
  not_if (fun h => h1 fun e => h (by rw [e])) fun h => h2 (mk_inj (V.str.inj h))
theorem lt1 (a b : Nat) : (([a] : List Nat) < [b]) ↔ a < b := by
  rw [List.cons_lt_cons_iff]
  simp
/-- a for over a text -/
theorem for_sgn {l : List Nat} {g : TG} {tb : TS} {D : Ends} {σ : L2.St} {H : Hp} (Pv : Nat → L2.St → Hp → Prop) (h0 : Pv 0 σ H)
    (hs : ∀ i c σ H, l[i]? = some c → Pv i σ H → g (.str (mk [c])) σ H fun σ2 H2 => tb { D with nx := Pv (i + 1), ct := Pv (i + 1), bk := D.nx } σ2 H2) (hd : ∀ σ H, Pv l.length σ H → D.nx σ H) :
    ∃ W : Nat → Nat → L2.St → Hp → Prop, (∃ m, W 0 m σ H) ∧ ∀ i m σ H, W i m σ H →
      ((Its (mk l)).stop i H ∧ D.nx σ H) ∨ ((Its (mk l)).go i H ∧ ∃ N : L2.St → Hp → Prop, (∀ σ' H', N σ' H' → ∃ m', m' < m ∧ W (i + 1) m' σ' H') ∧ ∀ x H', (Its (mk l)).yld i H x H' → g x σ H' fun σ2 H2 => tb { D with nx := N, ct := N, bk := D.nx } σ2 H2) := by
  have hz : (mk l).cps.size = l.length := by show l.toArray.size = _; simp
  refine for_it walk_str Pv h0 (fun _ _ _ _ _ => trivial) (fun i x σ H H' hi p y => ?_) (fun σ H p => hd σ H (by rw [← hz]; exact p))
  obtain ⟨rfl, c, hc, rfl⟩ := y
  exact hs i c σ _ (by have : l.toArray[i]? = some c := hc; simpa using this) p
theorem split_spA (x y : Str) (c : Nat) (hy : tl y = [c]) (hc : c < 256) : Txt.split x y = (Lns.spA c [] (tl x)).map mk := by
  have key : ∀ (l acc : List Nat), spl [c] 0 acc l = Lns.spA c acc l := by
    intro l
    induction l with
    | nil => intro acc; rw [spl_nil]; rfl
    | cons a r ih =>
      intro acc
      by_cases h : a = c
      · rw [h, Lns.spA_hit, spl_hit (by simp [pre])]
        exact congrArg (acc :: ·) (ih [])
      · rw [Lns.spA_miss _ _ h, spl_miss (by simp [pre, h])]
        exact ih _
  have hk : y.cps.all (· < 256) = true := by
    rw [← Array.all_toList]
    have : y.cps.toList = [c] := hy
    rw [this]
    simp [hc]
  have e := split_spl x y (by rw [hy]; simp) (kind_ok hk)
  rw [hy, key] at e
  rw [← e, List.map_map]
  have : (mk ∘ tl) = id := funext fun z => mkt z
  rw [this, List.map_id]
/-- short and of plain signs -/
def Tx (n : Nat) (l : List Nat) : Prop := l.length ≤ n ∧ ∀ c ∈ l, c < 128
theorem Tx.more {n m : Nat} {l : List Nat} (h : Tx n l) (le : n ≤ m) : Tx m l := ⟨Nat.le_trans h.1 le, h.2⟩
theorem Tx.app {n m : Nat} {a b : List Nat} (h : Tx n a) (g : Tx m b) : Tx (n + m) (a ++ b) :=
  ⟨by rw [List.length_append]; exact Nat.add_le_add h.1 g.1, fun c hc => by rcases List.mem_append.mp hc with z | z; exact h.2 c z; exact g.2 c z⟩
theorem Tx.nil : Tx 0 [] := ⟨Nat.le_refl _, fun c h => by simp at h⟩
/-- a slice of a text -/
theorem cut_mk (l : List Nat) (lo hi : Option Int) : ∃ l', cutS (mk l) lo hi = mk l' ∧ l'.length ≤ l.length ∧ ∀ c ∈ l', c ∈ l := by
  refine ⟨(l.drop (HT.sIx (mk l).length 0 lo)).take (HT.sIx (mk l).length (mk l).length hi - HT.sIx (mk l).length 0 lo), rfl, ?_, fun c hc => List.mem_of_mem_drop (List.mem_of_mem_take hc)⟩
  rw [List.length_take, List.length_drop]
  omega
theorem Tx.cut {n : Nat} {l l' : List Nat} (h : Tx n l) (hl : l'.length ≤ l.length) (hm : ∀ c ∈ l', c ∈ l) : Tx n l' := ⟨Nat.le_trans hl h.1, fun c hc => h.2 c (hm c hc)⟩

/-! ### rows of words as data -/
def dS (l : List Nat) : PyData := .str (mk l)
def dRow (ws : List (List Nat)) : PyData := .list (ws.map dS)
def dRows (rows : List (List (List Nat))) : PyData := .list (rows.map dRow)
theorem dpa_words {K : PySem.W.Frag} {H : Hp} : ∀ ws : List (List Nat), DpAll K H (ws.map vS) (ws.map dS)
  | [] => .nil
  | w :: ws => .cons (.str _) (dpa_words ws)
/-- at p: the list of these rows -/
def RowsAt (H : Hp) (p : Addr) (rows : List (List (List Nat))) : Prop :=
  ∃ rs : List Addr, H p = some (.lst (rs.map V.ref)) ∧ rs.length = rows.length ∧ ∀ (k : Nat) (r : Addr) (ws : List (List Nat)), rs[k]? = some r → rows[k]? = some ws → H r = some (.lst (ws.map vS))
theorem dpa_rows {K : PySem.W.Frag} {H : Hp} : ∀ (rs : List Addr) (rows : List (List (List Nat))), rs.length = rows.length → (∀ (k : Nat) (r : Addr) (ws : List (List Nat)), rs[k]? = some r → rows[k]? = some ws → H r = some (.lst (ws.map vS))) → DpAll K H (rs.map V.ref) (rows.map dRow)
  | [], [], _, _ => .nil
  | r :: rs, ws :: rows, hl, h => .cons (.lst (SqL.of (h 0 r ws rfl rfl)) (dpa_words ws)) (dpa_rows rs rows (by simpa using hl) fun k r' ws' a b => h (k + 1) r' ws' a b)
  | [], _ :: _, hl, _ => by simp at hl
  | _ :: _, [], hl, _ => by simp at hl
theorem dp_rows {K : PySem.W.Frag} {H : Hp} {p : Addr} {rows : List (List (List Nat))} (h : RowsAt H p rows) : Dp K H (.ref p) (dRows rows) := by
  obtain ⟨rs, h1, h2, h3⟩ := h
  exact .lst (SqL.of h1) (dpa_rows rs rows h2 h3)
theorem RowsAt.fr {H H' : Hp} {p : Addr} {rows : List (List (List Nat))} (h : RowsAt H p rows) (e : Fr [] H H') : RowsAt H' p rows := by
  obtain ⟨rs, h1, h2, h3⟩ := h
  exact ⟨rs, e _ _ h1 (by simp), h2, fun k r ws a b => e _ _ (h3 k r ws a b) (by simp)⟩
/-- all words of plain signs -/
def AscR (rows : List (List (List Nat))) : Prop := ∀ ws ∈ rows, ∀ w ∈ ws, ∀ c ∈ w, c < 128
theorem strOk_mk {l : List Nat} (h : ∀ c ∈ l, c < 128) : PyData.strOk (mk l) = true := by
  unfold PyData.strOk
  rw [← Array.all_toList, List.all_eq_true]
  intro c hc
  have := h c hc
  exact decide_eq_true (by omega)
theorem row_lay : ∀ ws : List (List Nat), (∀ w ∈ ws, ∀ c ∈ w, c < 128) → PyData.canLayAll0 (ws.map dS) = true
  | [], _ => by simp [PyData.canLayAll0]
  | w :: ws, h => by
    have h1 := strOk_mk (h w List.mem_cons_self)
    have h2 := row_lay ws fun v hv => h v (List.mem_cons_of_mem _ hv)
    simp [PyData.canLayAll0, dS, PyData.canLay0, h1]
    exact h2
theorem rows_lay : ∀ rows : List (List (List Nat)), AscR rows → PyData.canLayAll0 (rows.map dRow) = true
  | [], _ => by simp [PyData.canLayAll0]
  | ws :: rows, h => by
    have h1 := row_lay ws (h ws List.mem_cons_self)
    have h2 := rows_lay rows fun v hv => h v (List.mem_cons_of_mem _ hv)
    simp only [List.map_cons, PyData.canLayAll0, dRow, PyData.canLay0, h1, h2]
    rfl
theorem row_depth : ∀ ws : List (List Nat), PyData.depthAll (ws.map dS) ≤ 1
  | [] => by simp [PyData.depthAll]
  | w :: ws => by
    have := row_depth ws
    simp only [List.map_cons, PyData.depthAll, dS, PyData.depth]
    omega
theorem rows_depth : ∀ rows : List (List (List Nat)), PyData.depthAll (rows.map dRow) ≤ 2
  | [] => by simp [PyData.depthAll]
  | ws :: rows => by
    have h1 := rows_depth rows
    have h2 := row_depth ws
    simp only [List.map_cons, PyData.depthAll, dRow, PyData.depth]
    omega
theorem rows_shaped {rows : List (List (List Nat))} (h : AscR rows) : SeqAt.shaped (dRows rows) = true :=
  shaped_of (by simp only [dRows, PyData.canLay0]; exact rows_lay rows h) (by have := rows_depth rows; simp only [dRows, PyData.depth]; omega)
theorem row_show : ∀ ws : List (List Nat), PyData.showableAll (ws.map dS) = true
  | [] => by simp [PyData.showableAll]
  | w :: ws => by simp [PyData.showableAll, dS, PyData.showable]; exact row_show ws
theorem rows_show : ∀ rows : List (List (List Nat)), PyData.showableAll (rows.map dRow) = true
  | [] => by simp [PyData.showableAll]
  | ws :: rows => by
    have h1 := row_show ws
    have h2 := rows_show rows
    simp only [List.map_cons, PyData.showableAll, dRow, PyData.showable, h1, h2]
    rfl
theorem rows_showable (rows : List (List (List Nat))) : (dRows rows).showable = true := by simp only [dRows, PyData.showable]; exact rows_show rows
/-- what the words weigh -/
def cost (rows : List (List (List Nat))) : Nat := (rows.map fun ws => (ws.map fun w => w.length + 1).sum + 1).sum
theorem row_weight : ∀ ws : List (List Nat), PyData.weightAll (ws.map dS) = (ws.map fun w => w.length + 1).sum
  | [] => rfl
  | w :: ws => by
    have e : (mk w).cps.size = w.length := by show w.toArray.size = _; simp
    simp only [List.map_cons, PyData.weightAll, dS, PyData.weight, List.sum_cons, e]
    have := row_weight ws
    omega
theorem rows_weight : ∀ rows : List (List (List Nat)), PyData.weightAll (rows.map dRow) = cost rows
  | [] => rfl
  | ws :: rows => by
    have h1 := row_weight ws
    have h2 := rows_weight rows
    unfold cost at h2 ⊢
    simp only [List.map_cons, PyData.weightAll, dRow, PyData.weight, List.sum_cons, h1, h2]
theorem row_short : ∀ ws : List (List Nat), (∀ w ∈ ws, ∀ c ∈ w, c < 128) → PyData.leavesShortAll 8 (ws.map dS) = true
  | [], _ => by simp [PyData.leavesShortAll]
  | w :: ws, h => by
    have h1 : (PyData.leavesShort 8 (dS w)) = true := by
      simp only [dS, PyData.leavesShort, List.all_eq_true, decide_eq_true_eq]
      intro c hc
      have := h w List.mem_cons_self c hc
      exact Nat.lt_of_lt_of_le this (by decide)
    have h2 := row_short ws fun v hv => h v (List.mem_cons_of_mem _ hv)
    simp only [List.map_cons, PyData.leavesShortAll, h1, h2]
    rfl
theorem rows_short : ∀ rows : List (List (List Nat)), AscR rows → PyData.leavesShortAll 8 (rows.map dRow) = true
  | [], _ => by simp [PyData.leavesShortAll]
  | ws :: rows, h => by
    have h1 := row_short ws (h ws List.mem_cons_self)
    have h2 := rows_short rows fun v hv => h v (List.mem_cons_of_mem _ hv)
    simp only [List.map_cons, PyData.leavesShortAll, dRow, PyData.leavesShort, h1, h2]
    rfl
theorem rows_shown {rows : List (List (List Nat))} (h : AscR rows) : (dRows rows).shown.length ≤ 10 * cost rows + 8 := by
  have := PyData.shown_le 8 (Nat.le_refl _) (dRows rows) (by simp only [dRows, PyData.leavesShort]; exact rows_short rows h)
  have e : (dRows rows).weight = cost rows := by simp only [dRows, PyData.weight]; exact rows_weight rows
  rw [e] at this
  exact this
/-! ### plain signs stay plain when a text is shown -/
def Asc (x : Str) : Prop := ∀ c ∈ tl x, c < 128
theorem asc_char : ∀ c, c < 128 → (∀ d ∈ Builtin.Str.reprChar 39 c, d < 128) ∧ ∀ d ∈ Builtin.Str.reprChar 34 c, d < 128 := by decide +kernel
theorem asc_fold (q : Nat) (hq : q = 39 ∨ q = 34) : ∀ (l : List Nat) (acc : Array Nat), (∀ c ∈ l, c < 128) → (∀ d ∈ acc.toList, d < 128) → ∀ d ∈ (l.foldl (fun out c => out ++ (Builtin.Str.reprChar q c).toArray) acc).toList, d < 128
  | [], acc, _, h => h
  | c :: l, acc, hl, h => by
    refine asc_fold q hq l _ (fun c hc => hl c (List.mem_cons_of_mem _ hc)) fun d hd => ?_
    rw [Array.toList_append] at hd
    rcases List.mem_append.mp hd with z | z
    · exact h d z
    · have hc := asc_char c (hl c List.mem_cons_self)
      have z' : d ∈ Builtin.Str.reprChar q c := by simpa using z
      rcases hq with rfl | rfl
      · exact hc.1 d z'
      · exact hc.2 d z'
theorem asc_repr {x : Str} (h : Asc x) : Asc (reprText x) := by
  have hq : reprQuote x = 39 ∨ reprQuote x = 34 := by
    unfold reprQuote
    split
    · exact .inr rfl
    · exact .inl rfl
  have q128 : reprQuote x < 128 := by omega
  intro d hd
  have hd' : d ∈ ((x.cps.foldl (fun out c => out ++ (Builtin.Str.reprChar (reprQuote x) c).toArray) #[reprQuote x]).push (reprQuote x)).toList := hd
  rw [Array.toList_push, ← Array.foldl_toList] at hd'
  rcases List.mem_append.mp hd' with z | z
  · exact asc_fold _ hq x.cps.toList _ h (fun d hd => by
      have : d = reprQuote x := by simpa using hd
      rw [this]
      exact q128) d z
  · have : d = reprQuote x := by simpa using z
    rw [this]
    exact q128
theorem asc_app {x y : Str} (h : Asc x) (g : Asc y) : Asc (x ++ y) := fun c hc => by
  rw [tl_append] at hc
  rcases List.mem_append.mp hc with z | z
  · exact h c z
  · exact g c z
theorem asc_from : ∀ (ts : List Str) (k : Nat) (acc : Str), (∀ t ∈ ts, Asc t) → Asc acc → Asc (textFrom k acc ts)
  | [], k, acc, _, h => h
  | t :: ts, k, acc, ht, h => by
    unfold textFrom
    refine asc_from ts _ _ (fun u hu => ht u (List.mem_cons_of_mem _ hu)) (asc_app (asc_app h ?_) (ht t List.mem_cons_self))
    split
    · show ∀ c ∈ tl (Str.ofString ", "), c < 128
      rw [tl_ofString]
      decide
    · show ∀ c ∈ tl (Str.ofString ""), c < 128
      rw [tl_ofString]
      decide
theorem asc_list {ts : List Str} (h : ∀ t ∈ ts, Asc t) : Asc (listText ts) := by
  unfold listText
  refine asc_app (asc_from ts 0 _ h ?_) ?_
  · show ∀ c ∈ tl (Str.ofString "["), c < 128
    rw [tl_ofString]
    decide
  · show ∀ c ∈ tl (Str.ofString "]"), c < 128
    rw [tl_ofString]
    decide
theorem asc_row : ∀ ws : List (List Nat), (∀ w ∈ ws, ∀ c ∈ w, c < 128) → ∀ t ∈ PyData.shownAll (ws.map dS), Asc t
  | [], _, t, ht => by simp [PyData.shownAll] at ht
  | w :: ws, h, t, ht => by
    simp only [List.map_cons, PyData.shownAll, List.mem_cons] at ht
    rcases ht with rfl | ht
    · simp only [dS, PyData.shown]
      exact asc_repr (h w List.mem_cons_self)
    · exact asc_row ws (fun v hv => h v (List.mem_cons_of_mem _ hv)) t ht
theorem asc_rows : ∀ rows : List (List (List Nat)), AscR rows → ∀ t ∈ PyData.shownAll (rows.map dRow), Asc t
  | [], _, t, ht => by simp [PyData.shownAll] at ht
  | ws :: rows, h, t, ht => by
    simp only [List.map_cons, PyData.shownAll, List.mem_cons] at ht
    rcases ht with rfl | ht
    · simp only [dRow, PyData.shown]
      exact asc_list (asc_row ws (h ws List.mem_cons_self))
    · exact asc_rows rows (fun v hv => h v (List.mem_cons_of_mem _ hv)) t ht
theorem rows_asc {rows : List (List (List Nat))} (h : AscR rows) : Asc (dRows rows).shown := by
  simp only [dRows, PyData.shown]
  exact asc_list (asc_rows rows h)
/-! ### tests of texts -/
theorem lit_if {a b : List Nat} {s : String} {A B : Prop} (hb : s.toList.map Char.toNat = b) (h1 : a = b → A) (h2 : a ≠ b → B) : if decide (V.str (mk a) = V.str (Str.ofString s)) = true then A else B := by
  have e : Str.ofString s = mk b := by rw [mk_lit, hb]
  rw [e]
  exact str_if h1 h2
theorem litn_if {a b : List Nat} {s : String} {A B : Prop} (hb : s.toList.map Char.toNat = b) (h1 : a ≠ b → A) (h2 : a = b → B) : if (!decide (V.str (mk a) = V.str (Str.ofString s))) = true then A else B := by
  have e : Str.ofString s = mk b := by rw [mk_lit, hb]
  rw [e]
  exact strn_if h1 h2
theorem le_a {c b : Nat} {s : String} (hs : s.toList.map Char.toNat = [b]) : (!decide ((mk [c]).cps.toList < (Str.ofString s).cps.toList)) = decide (b ≤ c) := by
  have e : (Str.ofString s).cps.toList = [b] := by rw [← hs]; exact tl_ofString s
  have e2 : (mk [c]).cps.toList = [c] := rfl
  rw [e, e2]
  by_cases h : b ≤ c
  · rw [decide_eq_true h, decide_eq_false (fun z => by have := (lt1 c b).mp z; omega)]
    rfl
  · rw [decide_eq_false h, decide_eq_true ((lt1 c b).mpr (by omega))]
    rfl
theorem le_b {c b : Nat} {s : String} (hs : s.toList.map Char.toNat = [b]) : (!decide ((Str.ofString s).cps.toList < (mk [c]).cps.toList)) = decide (c ≤ b) := by
  have e : (Str.ofString s).cps.toList = [b] := by rw [← hs]; exact tl_ofString s
  have e2 : (mk [c]).cps.toList = [c] := rfl
  rw [e, e2]
  by_cases h : c ≤ b
  · rw [decide_eq_true h, decide_eq_false (fun z => by have := (lt1 b c).mp z; omega)]
    rfl
  · rw [decide_eq_false h, decide_eq_true ((lt1 b c).mpr (by omega))]
    rfl
/-- '!' <= sign <= '~' -/
theorem sign_if {ta : TE} {σ : L2.St} {H : Hp} {c : Nat} {Q : Bool → Hp → Prop} (ha : ∀ R : VK, R (.str (mk [c])) H → ta σ H R) (h : Q (Lns.okS c) H) :
    tTest (tChain (fun x y H Q => ∃ i j, x = .str i ∧ y = .str j ∧ Q (.bl (!decide (j.cps.toList < i.cps.toList))) H) (fun x y H Q => ∃ i j, x = .str i ∧ y = .str j ∧ Q (.bl (!decide (j.cps.toList < i.cps.toList))) H)
      (tC (.str (Str.ofString "!"))) ta (tC (.str (Str.ofString "~")))) σ H Q := by
  refine ha _ ⟨_, _, rfl, rfl, _, rfl, ?_⟩
  rw [le_a (b := 33) (by decide)]
  by_cases h1 : 33 ≤ c
  · refine iteY (decide_eq_true h1) ⟨_, _, rfl, rfl, _, rfl, ?_⟩
    rw [le_b (b := 126) (by decide)]
    have e : Lns.okS c = decide (c ≤ 126) := by
      unfold Lns.okS
      rw [decide_eq_true h1]
      rfl
    rw [← e]
    exact h
  · refine iteN (decide_eq_false h1) ⟨_, rfl, ?_⟩
    have e : Lns.okS c = false := by
      unfold Lns.okS
      rw [decide_eq_false h1]
      rfl
    rw [← e]
    exact h
theorem at_lastm {α : Type} {xs : List α} {v : α} (h : xs[xs.length - 1]? = some v) : atI xs (-1) = some v := by
  have hl : 0 < xs.length := by
    have := (List.getElem?_eq_some_iff.mp h).1
    omega
  have e : xs.dropLast ++ [v] = xs := by
    have ne : xs ≠ [] := by
      intro z
      rw [z] at hl
      simp at hl
    have := List.dropLast_concat_getLast ne
    rw [List.getLast_eq_getElem] at this
    have g := (List.getElem?_eq_some_iff.mp h).2
    rw [g] at this
    exact this
  rw [← e]
  exact atI_last _ _
theorem lit1_eq {c b : Nat} {s : String} (hs : s.toList.map Char.toNat = [b]) : decide (V.str (mk [c]) = V.str (Str.ofString s)) = decide (c = b) := by
  have e : Str.ofString s = mk [b] := by rw [mk_lit, hs]
  rw [e]
  by_cases h : c = b
  · rw [decide_eq_true h, h]
    exact decide_eq_true rfl
  · rw [decide_eq_false h]
    exact decide_eq_false fun z => h (by have := mk_inj (V.str.inj z); simpa using this)
theorem lit1_ne {c b : Nat} {s : String} (hs : s.toList.map Char.toNat = [b]) : (!decide (V.str (mk [c]) = V.str (Str.ofString s))) = decide (c ≠ b) := by
  rw [lit1_eq hs]
  by_cases h : c = b <;> simp [h]
/-- short texts of plain signs -/
def TxS (n : Nat) (y : Str) : Prop := y.length ≤ n ∧ Asc y
theorem TxS.more {n m : Nat} {y : Str} (h : TxS n y) (le : n ≤ m) : TxS m y := ⟨Nat.le_trans h.1 le, h.2⟩
theorem str_app_len (x y : Str) : (x ++ y).length = x.length + y.length := by
  rw [len_tl, len_tl, len_tl, tl_append, List.length_append]
theorem TxS.app {n m : Nat} {x y : Str} (h : TxS n x) (g : TxS m y) : TxS (n + m) (x ++ y) :=
  ⟨by rw [str_app_len]; exact Nat.add_le_add h.1 g.1, asc_app h.2 g.2⟩
theorem TxS.cut {n : Nat} {x : Str} (h : TxS n x) (lo hi : Option Int) : TxS n (cutS x lo hi) := by
  refine ⟨Nat.le_trans (cutS_length x lo hi) h.1, fun c hc => ?_⟩
  have e : tl (cutS x lo hi) = (x.cps.toList.drop (HT.sIx x.length 0 lo)).take (HT.sIx x.length x.length hi - HT.sIx x.length 0 lo) := rfl
  rw [e] at hc
  exact h.2 c (List.mem_of_mem_drop (List.mem_of_mem_take hc))
theorem TxS.lit {s : String} {n : Nat} (h1 : (s.toList.map Char.toNat).length ≤ n) (h2 : ∀ c ∈ s.toList.map Char.toNat, c < 128) : TxS n (Str.ofString s) :=
  ⟨by rw [len_tl, tl_ofString]; exact h1, fun c hc => by rw [tl_ofString] at hc; exact h2 c hc⟩
theorem TxS.tx {n : Nat} {y : Str} (h : TxS n y) : Tx n (tl y) := ⟨by rw [← len_tl]; exact h.1, h.2⟩
theorem line_le {n : Nat} (h : n ≤ 16000000) : n ≤ sizeLine := Nat.le_trans h (by decide)
/-- t1 or t2, both answers known -/
theorem tOr_p {t1 t2 : TT} {σ : L2.St} {H : Hp} {Q : Bool → Hp → Prop} {p q : Prop} [Decidable p] [Decidable q] (h1 : ∀ R : Bool → Hp → Prop, R (decide p) H → t1 σ H R) (h2 : ∀ R : Bool → Hp → Prop, R (decide q) H → t2 σ H R) (h : Q (decide (p ∨ q)) H) : tOr t1 t2 σ H Q := by
  refine h1 _ ?_
  by_cases hp : p
  · refine iteY (decide_eq_true hp) ?_
    rw [decide_eq_true (Or.inl hp)] at h
    exact h
  · refine iteN (decide_eq_false hp) (h2 _ ?_)
    have e : decide (p ∨ q) = decide q := by simp [hp]
    rw [← e]
    exact h
/-- t1 and t2, where only the second one's answer matters -/
theorem tAnd_any {t1 t2 : TT} {σ : L2.St} {H : Hp} {Q : Bool → Hp → Prop} {p : Prop} (h1 : ∀ R : Bool → Hp → Prop, (∀ c, R c H) → t1 σ H R) (h2 : ∀ R : Bool → Hp → Prop, (p → R true H) → R false H → t2 σ H R) (hT : p → Q true H) (hF : Q false H) : tAnd t1 t2 σ H Q := by
  refine h1 _ fun c => ?_
  cases c with
  | true => exact iteT (h2 _ hT hF)
  | false => exact iteF hF
theorem dec_R {p : Prop} [Decidable p] {R : Bool → Hp → Prop} {H : Hp} (h1 : p → R true H) (h2 : R false H) : R (decide p) H := by
  by_cases h : p
  · rw [decide_eq_true h]
    exact h1 h
  · rw [decide_eq_false h]
    exact h2
/-- t1 or t2, both answers known, the second one asked only behind the first -/
theorem tOr_p2 {t1 t2 : TT} {σ : L2.St} {H : Hp} {Q : Bool → Hp → Prop} {p q : Prop} [Decidable p] [Decidable q] (h1 : ∀ R : Bool → Hp → Prop, R (decide p) H → t1 σ H R) (h2 : ¬ p → ∀ R : Bool → Hp → Prop, R (decide q) H → t2 σ H R) (h : Q (decide (p ∨ q)) H) : tOr t1 t2 σ H Q := by
  refine h1 _ ?_
  by_cases hp : p
  · refine iteY (decide_eq_true hp) ?_
    rw [decide_eq_true (Or.inl hp)] at h
    exact h
  · refine iteN (decide_eq_false hp) (h2 hp _ ?_)
    have e : decide (p ∨ q) = decide q := by simp [hp]
    rw [← e]
    exact h
/-- t1 and t2, both answers known -/
theorem tAnd_p {t1 t2 : TT} {σ : L2.St} {H : Hp} {Q : Bool → Hp → Prop} {p q : Prop} [Decidable p] [Decidable q] (h1 : ∀ R : Bool → Hp → Prop, R (decide p) H → t1 σ H R) (h2 : p → ∀ R : Bool → Hp → Prop, R (decide q) H → t2 σ H R) (h : Q (decide (p ∧ q)) H) : tAnd t1 t2 σ H Q := by
  refine h1 _ ?_
  by_cases hp : p
  · refine iteY (decide_eq_true hp) (h2 hp _ ?_)
    have e : decide (p ∧ q) = decide q := by simp [hp]
    rw [← e]
    exact h
  · refine iteN (decide_eq_false hp) ?_
    have e : decide (p ∧ q) = false := by simp [hp]
    rw [← e]
    exact h
theorem lit_eq {a b : List Nat} {s : String} (hb : s.toList.map Char.toNat = b) : decide (V.str (mk a) = V.str (Str.ofString s)) = decide (a = b) := by
  have e : Str.ofString s = mk b := by rw [mk_lit, hb]
  rw [e]
  by_cases h : a = b
  · rw [decide_eq_true h, h]
    exact decide_eq_true rfl
  · rw [decide_eq_false h]
    exact decide_eq_false fun z => h (mk_inj (V.str.inj z))
theorem int_eq {a b : Int} : decide (V.int a = V.int b) = decide (a = b) := by
  by_cases h : a = b
  · rw [decide_eq_true h, h]
    exact decide_eq_true rfl
  · rw [decide_eq_false h]
    exact decide_eq_false fun z => h (V.int.inj z)
end L2

/-! # Fractions: the lowest terms by taking rests, and how long that takes. Plain Lean -/
namespace Frc
/-- (F k, F (k + 1)) of Fibonacci's numbers -/
def fibP : Nat → Nat × Nat
  | 0 => (0, 1)
  | k + 1 => ((fibP k).2, (fibP k).1 + (fibP k).2)
def fib (k : Nat) : Nat := (fibP k).1
theorem fib_step (k : Nat) : fib (k + 2) = fib k + fib (k + 1) := rfl
/-- by a fold, for large numbers -/
def fibL : Nat → Nat → Nat → Nat
  | 0, a, _ => a
  | k + 1, a, b => fibL k b (a + b)
theorem fibL_eq : ∀ (k m : Nat), fibL k (fib m) (fib (m + 1)) = fib (m + k)
  | 0, m => rfl
  | k + 1, m => by
    show fibL k (fib (m + 1)) (fib m + fib (m + 1)) = _
    rw [← fib_step, fibL_eq k (m + 1)]
    congr 1
    omega
theorem fib_large : 10 ^ 400 < fib 2000 := by
  have := fibL_eq 2000 0
  rw [Nat.zero_add] at this
  rw [← this]
  show 10 ^ 400 < fibL 2000 0 1
  decide +kernel
/-- where the rests stand behind k steps: one and two, from top and bottom -/
structure At (t b k one two : Nat) : Prop where
  gcd : Nat.gcd one two = Nat.gcd t b
  pos : 0 < one ∨ k = 0
  big : k = 0 → two = b
  less : 0 < k → two < one
  fb : 0 < k → Frc.fib k * one + Frc.fib (k - 1) * two ≤ b
theorem At.zero (t b : Nat) : At t b 0 t b := ⟨rfl, .inr rfl, fun _ => rfl, fun h => absurd h (by omega), fun h => absurd h (by omega)⟩
theorem At.step {t b k one two : Nat} (h : At t b k one two) (h2 : 0 < two) : At t b (k + 1) two (one % two) := by
  have lt := Nat.mod_lt one h2
  refine ⟨?_, .inl h2, fun z => by omega, fun _ => lt, fun _ => ?_⟩
  · rw [Nat.gcd_comm, ← Nat.gcd_rec, Nat.gcd_comm]
    exact h.gcd
  · by_cases k0 : k = 0
    · have e := h.big k0
      rw [k0, e]
      show 1 * b + 0 * (one % b) ≤ b
      omega
    · have f := h.fb (by omega)
      have l := h.less (by omega)
      have q : two + one % two ≤ one := by
        have e := Nat.div_add_mod one two
        have p : 1 ≤ one / two := (Nat.le_div_iff_mul_le h2).mpr (by omega)
        have m : two * 1 ≤ two * (one / two) := Nat.mul_le_mul_left _ p
        omega
      obtain ⟨j, rfl⟩ : ∃ j, k = j + 1 := ⟨k - 1, by omega⟩
      show Frc.fib (j + 1 + 1) * two + Frc.fib (j + 1) * (one % two) ≤ b
      have s : Frc.fib (j + 1 + 1) = Frc.fib j + Frc.fib (j + 1) := fib_step j
      rw [s, Nat.add_mul]
      have f' : Frc.fib (j + 1) * one + Frc.fib j * two ≤ b := f
      have m : Frc.fib (j + 1) * (two + one % two) ≤ Frc.fib (j + 1) * one := Nat.mul_le_mul_left _ q
      rw [Nat.mul_add] at m
      omega
theorem At.late {t b one two : Nat} (h : At t b 2000 one two) (hb : b < 10 ^ 400) : False := by
  have f := h.fb (by omega)
  have p : 0 < one := by
    rcases h.pos with z | z
    · exact z
    · omega
  have l := fib_large
  have m : fib 2000 * 1 ≤ fib 2000 * one := Nat.mul_le_mul_left _ p
  omega
theorem At.done {t b k one : Nat} (h : At t b k one 0) : one = Nat.gcd t b := by
  have := h.gcd
  rw [Nat.gcd_zero_right] at this
  exact this
/-- top / bottom in lowest terms (bottom above 0) -/
def low (t b : Int) : Int × Int := (t / (Nat.gcd t.natAbs b.natAbs : Nat), b / (Nat.gcd t.natAbs b.natAbs : Nat))
theorem gcd_pos {t b : Int} (h : b ≠ 0) : 0 < Nat.gcd t.natAbs b.natAbs := Nat.gcd_pos_of_pos_right _ (by omega)
theorem low_neg (t b : Int) : low (-t) (-b) = ((-t) / (Nat.gcd t.natAbs b.natAbs : Nat), (-b) / (Nat.gcd t.natAbs b.natAbs : Nat)) := by
  unfold low
  rw [Int.natAbs_neg, Int.natAbs_neg]
/-- the lowest terms are the terms themselves, if only 1 divides both -/
theorem low_eq {t b : Int} (hb : 0 < b) : low t b = (t, b) ↔ Nat.gcd t.natAbs b.natAbs = 1 := by
  have g := gcd_pos (t := t) (b := b) (by omega)
  constructor
  · intro h
    have h2 : b / (Nat.gcd t.natAbs b.natAbs : Nat) = b := congrArg Prod.snd h
    refine Classical.byContradiction fun ne => ?_
    have g2 : 2 ≤ Nat.gcd t.natAbs b.natAbs := by omega
    have : b / (Nat.gcd t.natAbs b.natAbs : Nat) < b := Int.ediv_lt_of_lt_mul (by omega) (by
      have : (2 : Int) ≤ ((Nat.gcd t.natAbs b.natAbs : Nat) : Int) := by omega
      have m : b * 2 ≤ b * ((Nat.gcd t.natAbs b.natAbs : Nat) : Int) := Int.mul_le_mul_of_nonneg_left this (by omega)
      omega)
    omega
  · intro h
    unfold low
    rw [h]
    simp

/-! ### words of digits -/
def isD (c : Nat) : Bool := decide (48 ≤ c) && decide (c ≤ 57)
def val (cs : List Nat) : Nat := cs.foldl (fun acc c => acc * 10 + (c - 48)) 0
/-- the number that a word of digits tells, -1 if it tells none -/
def dig (l : List Nat) : Int := if l = [] ∨ 300 < l.length ∨ (l.head? = some 48 ∧ 1 < l.length) then -1 else if l.all isD = true then (val l : Int) else -1
theorem val_snoc (cs : List Nat) (c : Nat) : val (cs ++ [c]) = val cs * 10 + (c - 48) := by
  unfold val
  rw [List.foldl_append]
  rfl
theorem val_lt : ∀ (n : Nat) (cs : List Nat), cs.length = n → cs.all isD = true → val cs < 10 ^ n
  | 0, cs, h, _ => by
    have := List.eq_nil_of_length_eq_zero h
    rw [this]
    decide
  | n + 1, cs, h, hd => by
    have ne : cs ≠ [] := by
      intro z
      rw [z] at h
      simp at h
    rw [← List.dropLast_concat_getLast ne] at hd ⊢
    rw [List.all_append] at hd
    rw [Bool.and_eq_true] at hd
    have ih := val_lt n cs.dropLast (by simp [h]) hd.1
    rw [val_snoc]
    have hc : isD (cs.getLast ne) = true := by simpa using hd.2
    unfold isD at hc
    simp at hc
    rw [Nat.pow_succ]
    omega
theorem dig_lt (l : List Nat) : dig l < 10 ^ 300 := by
  unfold dig
  split
  · exact Int.lt_of_lt_of_le (show (-1 : Int) < 0 by decide) (Int.pow_nonneg (by decide))
  · split
    · rename_i h1 h2
      have a := val_lt l.length l rfl h2
      have b : l.length ≤ 300 := by omega
      have c : 10 ^ l.length ≤ 10 ^ 300 := Nat.pow_le_pow_right (by decide) b
      have d : val l < 10 ^ 300 := by omega
      exact_mod_cast d
    · exact Int.lt_of_lt_of_le (show (-1 : Int) < 0 by decide) (Int.pow_nonneg (by decide))
theorem dig_ge (l : List Nat) : -1 ≤ dig l := by
  unfold dig
  split
  · omega
  · split <;> omega
theorem val_pos : ∀ (cs : List Nat) (c : Nat), 48 < c → 0 < val (c :: cs) := by
  have key : ∀ (cs : List Nat) (a : Nat), 0 < a → 0 < cs.foldl (fun acc c => acc * 10 + (c - 48)) a := by
    intro cs
    induction cs with
    | nil => intro a h; exact h
    | cons c cs ih => intro a h; exact ih _ (by show 0 < a * 10 + (c - 48); omega)
  intro cs c h
  unfold val
  exact key cs _ (by show 0 < 0 * 10 + (c - 48); omega)
/-- only the word 0 tells 0 -/
theorem dig_zero {l : List Nat} : dig l = 0 ↔ l = [48] := by
  constructor
  · intro h
    unfold dig at h
    split at h
    · omega
    · rename_i h1
      split at h
      · rename_i h2
        cases l with
        | nil => exact absurd (.inl rfl) h1
        | cons c cs =>
          by_cases c48 : c = 48
          · subst c48
            cases cs with
            | nil => rfl
            | cons d ds => exact absurd (.inr (.inr ⟨rfl, by simp⟩)) h1
          · have hc : isD c = true := by
              rw [List.all_cons, Bool.and_eq_true] at h2
              exact h2.1
            unfold isD at hc
            simp at hc
            have := val_pos cs c (by omega)
            omega
      · omega
  · intro h
    rw [h]
    decide
end Frc

/-! # Own layer: repr of any data; exact slices; numbers as texts -/
namespace L2
open PySem PySem.Spec PyProof.Rows TL
section
variable {X : Cx}
/-- repr(x), x any data -/
def rReprX (K : PySem.W.Frag) : List V → Hp → VK → Prop := fun xs H Q => ∃ (x : V) (d : PyData), xs = [x] ∧ Dp K H x d ∧ SeqAt.shaped d = true ∧ d.showable = true ∧ d.shown.length ≤ sizeLine ∧ Q (.str d.shown) H
theorem cr_reprX (hgu : X.A.guards = some []) (hu : X.A.units + 66 < cLine) : CallR X (.builtin "repr") (rReprX X.K) := by
  intro pins s σ H xs us Q I r h
  obtain ⟨x, d, rfl, hd, sd, hs, hz, q⟩ := h
  cases hd with
  | non =>
    match us, r with
    | [u], .cons (rx : u = Value.none) .nil =>
      subst rx
      exact PySem.P.repr_of_none ⟨.str (PyData.shown .none), H, I.tok _, ⟨s.toks, rfl⟩, q⟩
  | bl b =>
    match us, r with
    | [u], .cons (rx : u = Value.bool b) .nil =>
      subst rx
      refine PySem.P.repr_of_bool ⟨.str (PyData.shown (.bool b)), H, I.tok _, ⟨s.toks, ?_⟩, q⟩
      cases b <;> rfl
  | int i =>
    match us, r with
    | [u], .cons (rx : ∃ t, u = Value.int i t) .nil =>
      obtain ⟨t, rfl⟩ := rx
      exact PySem.P.repr_of_int (of_decide_eq_true hs) ⟨.str (PyData.shown (.int i)), H, I.tok _, ⟨s.toks, rfl⟩, q⟩
  | str y =>
    match us, r with
    | [u], .cons (rx : ∃ t, u = Value.str y t) .nil =>
      obtain ⟨t, rfl⟩ := rx
      exact PySem.P.repr_of_str ⟨.str (PyData.shown (.str y)), H, I.tok _, ⟨s.toks, rfl⟩, q⟩ hz
  | @lst a ys ds h1 h2 => exact cr_reprD hgu hu pins s σ H _ us Q I r ⟨a, _, rfl, .lst h1 h2, sd, hs, hz, q⟩
  | @tup a ys ds h1 h2 => exact cr_reprD hgu hu pins s σ H _ us Q I r ⟨a, _, rfl, .tup h1 h2, sd, hs, hz, q⟩
end
/-- _law_same(left, right): the same data -/
def spSameX (K : PySem.W.Frag) : Sp := fun vs H Q _ => ∃ (x y : V) (d : PyData), vs = [x, y] ∧ Dp K H x d ∧ Dp K H y d ∧ SeqAt.shaped d = true ∧ d.showable = true ∧ d.shown.length ≤ sizeLine ∧ Q (.bl true) H
theorem cut_take (l : List Nat) (k : Nat) : cutS (mk l) none (some (k : Int)) = mk (l.take k) := by
  have e1 : HT.sIx (mk l).length 0 none = 0 := rfl
  unfold cutS
  rw [e1, HT.sIx_nat, mk_len]
  have e : (mk l).cps.toList = l := rfl
  rw [e, List.drop_zero, Nat.sub_zero]
  show mk (l.take (min k l.length)) = _
  by_cases h : k ≤ l.length
  · rw [Nat.min_eq_left h]
  · rw [Nat.min_eq_right (by omega), List.take_of_length_le (Nat.le_refl _), List.take_of_length_le (by omega)]
theorem cut_dropS (l : List Nat) (k : Nat) : cutS (mk l) (some (k : Int)) none = mk (l.drop k) := by
  have e1 : HT.sIx (mk l).length (mk l).length none = (mk l).length := rfl
  unfold cutS
  rw [e1, HT.sIx_nat, mk_len]
  have e : (mk l).cps.toList = l := rfl
  rw [e]
  show mk ((l.drop (min k l.length)).take (l.length - min k l.length)) = _
  rw [List.take_of_length_le (by rw [List.length_drop]; omega)]
  by_cases h : k ≤ l.length
  · rw [Nat.min_eq_left h]
  · rw [Nat.min_eq_right (by omega), List.drop_of_length_le (Nat.le_refl _), List.drop_of_length_le (by omega)]
/-- the text of a number -/
def numT (i : Int) : List Nat := tl (Str.ofString (toString i))
theorem mk_num (i : Int) : Str.ofString (toString i) = mk (numT i) := (mkt _).symm
theorem numT_nat (n : Nat) : numT (n : Int) = numL n := tl_num n
theorem numT_neg (n : Nat) : numT (-((n + 1 : Nat) : Int)) = 45 :: numL (n + 1) := by
  unfold numT
  have e : toString (-((n + 1 : Nat) : Int)) = "-" ++ toString (((n + 1 : Nat) : Nat)) := rfl
  have e2 : toString (((n + 1 : Nat) : Int)) = toString ((n + 1 : Nat)) := rfl
  rw [tl_ofString, e, String.toList_append, List.map_append]
  have := tl_num (n + 1)
  rw [tl_ofString, e2] at this
  rw [this]
  rfl
theorem numT_asc (i : Int) : ∀ c ∈ numT i, c < 128 := by
  have key : ∀ n : Nat, ∀ c ∈ numL n, c < 128 := fun n c hc => by
    have := numL_digits n c hc
    omega
  cases i with
  | ofNat n => exact fun c hc => key n c (by rw [← numT_nat]; exact hc)
  | negSucc n =>
    intro c hc
    have e : (Int.negSucc n) = -((n + 1 : Nat) : Int) := rfl
    rw [e, numT_neg] at hc
    rcases List.mem_cons.mp hc with z | z
    · omega
    · exact key _ c z
theorem numT_len {i : Int} {k : Nat} (hk : 0 < k) (h : i.natAbs < 10 ^ k) : (numT i).length ≤ k + 1 := by
  cases i with
  | ofNat n =>
    have e : numT (Int.ofNat n) = numL n := numT_nat n
    rw [e]
    have := numL_len hk (n := n) h
    omega
  | negSucc n =>
    have e : (Int.negSucc n) = -((n + 1 : Nat) : Int) := rfl
    rw [e, numT_neg, List.length_cons]
    have := numL_len hk (n := n + 1) (by simpa using h)
    omega
theorem log_1920 {i : Int} (h : i.natAbs < 10 ^ 570) : i.natAbs.log2 < 1920 := by
  by_cases c : i.natAbs = 0
  · rw [c]
    decide
  · rw [Nat.log2_lt c]
    exact Nat.lt_trans h (by decide +kernel)
theorem int_shown {i : Int} {k : Nat} (hk : 0 < k) (h : i.natAbs < 10 ^ k) : (PyData.shown (.int i)).length ≤ k + 1 := by
  show (Str.ofString (toString i)).length ≤ _
  rw [len_tl]
  exact numT_len hk h
/-! ### int(text) of digits -/
theorem int_dig {l : List Nat} (h : l.all Frc.isD = true) (h1 : l ≠ []) (h2 : l.length ≤ 640) : PySem.intText? (mk l) = some ((Frc.val l : Nat) : Int) := by
  have hd : NumText.AllDigits (mk l).cps.toList := fun c hc => by
    have := List.all_eq_true.mp h c hc
    unfold Frc.isD at this
    simpa using this
  have := PySem.intText_digits hd h1 (by rw [mk_len]; omega)
  exact this
mutual
/-- data stay as long as what is tracked stays -/
theorem dp_fr {K : PySem.W.Frag} {H H' : Hp} (e : Fr [] H H') : ∀ (d : PyData) (v : V), Dp K H v d → Dp K H' v d
  | .none, _, h => by cases h; exact .non
  | .bool b, _, h => by cases h; exact .bl b
  | .int i, _, h => by cases h; exact .int i
  | .str x, _, h => by cases h; exact .str x
  | .list ds, _, h => by
    cases h with
    | lst h1 h2 => exact .lst (e.l h1) (dpa_fr e ds _ h2)
  | .tuple ds, _, h => by
    cases h with
    | tup h1 h2 => exact .tup (e.t h1) (dpa_fr e ds _ h2)
  | .dict _, _, h => by cases h
theorem dpa_fr {K : PySem.W.Frag} {H H' : Hp} (e : Fr [] H H') : ∀ (ds : List PyData) (vs : List V), DpAll K H vs ds → DpAll K H' vs ds
  | [], _, h => by cases h; exact .nil
  | d :: ds, _, h => by
    cases h with
    | cons h1 h2 => exact .cons (dp_fr e d _ h1) (dpa_fr e ds _ h2)
end
end L2

/-! # Own layer: x in xs for ints -/
namespace L2
open PySem PySem.Spec PyProof.Rows
theorem flat_ints (l : List Int) : (l.map V.int).all flatV = true := by
  induction l with
  | nil => rfl
  | cons x l ih => rw [List.map_cons, List.all_cons, ih]; rfl
theorem flat_nats (l : List Nat) : (l.map fun (k : Nat) => V.int (k : Int)).all flatV = true := by
  induction l with
  | nil => rfl
  | cons x l ih => rw [List.map_cons, List.all_cons, ih]; rfl
theorem inV_ints (x : Int) (l : List Int) : inV (V.int x) (l.map V.int) = decide (x ∈ l) := by
  induction l with
  | nil => rfl
  | cons y l ih =>
    show ((y == x) || inV (V.int x) (l.map V.int)) = _
    rw [ih]
    by_cases c : y = x
    · subst c; simp
    · by_cases d : x ∈ l
      · simp [d]
      · have : ¬ x = y := fun e => c e.symm
        simp [c, d, this]
theorem inV_nats (x : Nat) (l : List Nat) : inV (V.int (x : Int)) (l.map fun (k : Nat) => V.int (k : Int)) = decide (x ∈ l) := by
  induction l with
  | nil => rfl
  | cons y l ih =>
    show ((((y : Nat) : Int) == (x : Int)) || inV (V.int (x : Int)) (l.map fun (k : Nat) => V.int (k : Int))) = _
    rw [ih]
    by_cases c : y = x
    · subst c; simp
    · have c' : ¬ ((y : Int) = (x : Int)) := by omega
      by_cases d : x ∈ l
      · simp [d]
      · have : ¬ x = y := fun e => c e.symm
        simp [c', d, this]
theorem inV_pair (x a b : Int) : inV (V.int x) [V.int a, V.int b] = decide (x = a ∨ x = b) := by
  show ((a == x) || ((b == x) || false)) = _
  by_cases c : a = x
  · subst c; simp
  · have c1 : ¬ x = a := fun e => c e.symm
    by_cases d : b = x
    · subst d; simp
    · have d1 : ¬ x = b := fun e => d e.symm
      simp [c, d, c1, d1]
end L2
namespace L2
open PySem PySem.Spec PyProof.Rows
/-- list(x), by a reading that names its written part -/
def rListOf (K : PySem.W.Frag) : List V → Hp → VK → Prop := fun xs H Q => ∃ p ys, xs = [V.ref p] ∧ (SqL K H p ys ∨ SqT K H p ys) ∧ ∀ (l : Addr), H l = none → Q (V.ref l) (upd H l (HO.lst ys))
theorem call_list_ofK {X : Cx} : CallR X (.type "list") (rListOf X.K) := call_list_of
end L2

/-! # Own layer: data that can be compared and shown: depth and shown length -/
namespace L2
open PySem PySem.Spec PyProof.Rows TL
structure OkD (e L : Nat) (d : PyData) : Prop where
  lay : d.canLay0 = true
  dep : d.depth ≤ e
  show_ : d.showable = true
  len : d.shown.length ≤ L
theorem OkD.more {e e' L L' : Nat} {d : PyData} (h : OkD e L d) (he : e ≤ e') (hl : L ≤ L') : OkD e' L' d := ⟨h.lay, Nat.le_trans h.dep he, h.show_, Nat.le_trans h.len hl⟩
theorem OkD.int {i : Int} {k : Nat} (hk : 0 < k) (hk2 : k ≤ 570) (h : i.natAbs < 10 ^ k) : OkD 0 (k + 1) (.int i) := by
  refine ⟨by simp [PyData.canLay0], by simp [PyData.depth], ?_, int_shown hk h⟩
  simp only [PyData.showable, decide_eq_true_eq]
  exact log_1920 (Nat.lt_of_lt_of_le h (Nat.pow_le_pow_right (by decide) hk2))
theorem OkD.bool (b : Bool) : OkD 0 5 (.bool b) := by
  refine ⟨by simp [PyData.canLay0], by simp [PyData.depth], rfl, ?_⟩
  cases b <;> decide
theorem OkD.none : OkD 0 4 .none := ⟨by simp [PyData.canLay0], by simp [PyData.depth], rfl, by decide⟩
theorem OkD.str {y : Str} {n : Nat} (h : TxS n y) : OkD 0 (10 * n + 2) (.str y) := by
  have hr := StrLaws.reprText_len y (fun c hc => Nat.lt_of_lt_of_le (h.2 c hc) (by decide))
  have h1 := h.1
  have ho : PyData.strOk y = true := strOk_mk (l := tl y) h.2
  exact ⟨by simp [PyData.canLay0, ho], by simp [PyData.depth], rfl, by rw [PyData.shown]; omega⟩
theorem layAll_of : ∀ ds : List PyData, (∀ d ∈ ds, d.canLay0 = true) → PyData.canLayAll0 ds = true
  | [], _ => by simp [PyData.canLayAll0]
  | d :: ds, h => by simp [PyData.canLayAll0, h d List.mem_cons_self, layAll_of ds fun x hx => h x (List.mem_cons_of_mem _ hx)]
theorem depAll_of (e : Nat) : ∀ ds : List PyData, (∀ d ∈ ds, d.depth ≤ e) → PyData.depthAll ds ≤ e
  | [], _ => by simp [PyData.depthAll]
  | d :: ds, h => by
    have h1 := h d List.mem_cons_self
    have h2 := depAll_of e ds fun x hx => h x (List.mem_cons_of_mem _ hx)
    simp only [PyData.depthAll]
    omega
theorem showAll_of : ∀ ds : List PyData, (∀ d ∈ ds, d.showable = true) → PyData.showableAll ds = true
  | [], _ => by simp [PyData.showableAll]
  | d :: ds, h => by simp [PyData.showableAll, h d List.mem_cons_self, showAll_of ds fun x hx => h x (List.mem_cons_of_mem _ hx)]
theorem shownAll_len (L : Nat) : ∀ ds : List PyData, (∀ d ∈ ds, d.shown.length ≤ L) → ((PyData.shownAll ds).map (·.length)).sum ≤ ds.length * L ∧ (PyData.shownAll ds).length = ds.length
  | [], _ => by simp [PyData.shownAll]
  | d :: ds, h => by
    have h1 := h d List.mem_cons_self
    have h2 := shownAll_len L ds fun x hx => h x (List.mem_cons_of_mem _ hx)
    simp only [PyData.shownAll, List.map_cons, List.sum_cons, List.length_cons, h2.2, Nat.succ_mul]
    exact ⟨by have := h2.1; omega, trivial⟩
theorem OkD.list {e L n : Nat} {ds : List PyData} (h : ∀ d ∈ ds, OkD e L d) (hn : ds.length ≤ n) : OkD (e + 1) (n * (L + 2) + 3) (.list ds) := by
  refine ⟨?_, ?_, ?_, ?_⟩
  · simp only [PyData.canLay0]
    exact layAll_of ds fun d hd => (h d hd).lay
  · have := depAll_of e ds fun d hd => (h d hd).dep
    simp only [PyData.depth]
    omega
  · simp only [PyData.showable]
    exact showAll_of ds fun d hd => (h d hd).show_
  · have h1 := shownAll_len L ds fun d hd => (h d hd).len
    have h2 := listText_len_le (PyData.shownAll ds)
    rw [PyData.shown]
    have h3 := Nat.mul_le_mul_right (L + 2) hn
    rw [Nat.mul_add] at h3
    have h4 := h1.1
    have h5 := h1.2
    omega
theorem OkD.tup {e L n : Nat} {ds : List PyData} (h : ∀ d ∈ ds, OkD e L d) (hn : ds.length ≤ n) : OkD (e + 1) (n * (L + 2) + 4) (.tuple ds) := by
  refine ⟨?_, ?_, ?_, ?_⟩
  · simp only [PyData.canLay0]
    exact layAll_of ds fun d hd => (h d hd).lay
  · have := depAll_of e ds fun d hd => (h d hd).dep
    simp only [PyData.depth]
    omega
  · simp only [PyData.showable]
    exact showAll_of ds fun d hd => (h d hd).show_
  · have h1 := shownAll_len L ds fun d hd => (h d hd).len
    have h2 := tupleText_len_le (PyData.shownAll ds)
    rw [PyData.shown]
    have h3 := Nat.mul_le_mul_right (L + 2) hn
    rw [Nat.mul_add] at h3
    have h4 := h1.1
    have h5 := h1.2
    omega
theorem OkD.shaped {e L : Nat} {d : PyData} (h : OkD e L d) (he : e ≤ 64 := by decide) : SeqAt.shaped d = true := shaped_of h.lay (Nat.le_trans h.dep he)
theorem OkD.line {e L : Nat} {d : PyData} (h : OkD e L d) (hL : L ≤ 16000000 := by decide) : d.shown.length ≤ sizeLine := line_le (Nat.le_trans h.len hL)
theorem OkD.refl {e L : Nat} {d : PyData} (h : OkD e L d) : PyData.eqv d d = true := SeqAt.eqv_refl d h.lay
theorem OkD.ints {k n : Nat} {xs : List Int} (hk : 0 < k) (hk2 : k ≤ 570) (h : ∀ x ∈ xs, x.natAbs < 10 ^ k) (hn : xs.length ≤ n) : OkD 1 (n * (k + 3) + 3) (dInts xs) := by
  refine OkD.list (e := 0) (L := k + 1) (fun d hd => ?_) (by rw [List.length_map]; exact hn)
  obtain ⟨x, hx, rfl⟩ := List.mem_map.mp hd
  exact OkD.int hk hk2 (h x hx)
def dIss (rows : List (List Int)) : PyData := .list (rows.map dInts)
theorem OkD.rows {k n m : Nat} {rows : List (List Int)} (hk : 0 < k) (hk2 : k ≤ 570) (h : ∀ r ∈ rows, r.length ≤ n ∧ ∀ x ∈ r, x.natAbs < 10 ^ k) (hm : rows.length ≤ m) : OkD 2 (m * (n * (k + 3) + 3 + 2) + 3) (dIss rows) := by
  refine OkD.list (e := 1) (fun d hd => ?_) (by rw [List.length_map]; exact hm)
  obtain ⟨r, hr, rfl⟩ := List.mem_map.mp hd
  exact OkD.ints hk hk2 (h r hr).2 (h r hr).1
theorem dpa_rows_ints {K : PySem.W.Frag} {H : Hp} : ∀ (rs : List Addr) (rows : List (List Int)), rs.length = rows.length → (∀ (k : Nat) (r : Addr) (row : List Int), rs[k]? = some r → rows[k]? = some row → SqL K H r (row.map V.int)) → DpAll K H (rs.map V.ref) (rows.map dInts)
  | [], [], _, _ => .nil
  | r :: rs, row :: rows, hl, h => .cons (dp_ints (h 0 r row rfl rfl)) (dpa_rows_ints rs rows (by simpa using hl) fun k r' row' a b => h (k + 1) r' row' a b)
  | [], _ :: _, hl, _ => by simp at hl
  | _ :: _, [], hl, _ => by simp at hl
end L2

/-! # Networks: what is carried, rounds of fractional arcs, rounding. Plain Lean -/
namespace Cir

abbrev Arc := Int × Int
def Good (n : Int) (p : Arc) : Prop := (0 ≤ p.1 ∧ p.1 < n) ∧ (0 ≤ p.2 ∧ p.2 < n) ∧ p.1 ≠ p.2
instance (n : Int) (p : Arc) : Decidable (Good n p) := by unfold Good; infer_instance
def ind (a v : Int) : Int := if a = v then 1 else 0
def dlt (p : Arc) (v : Int) : Int := ind p.2 v - ind p.1 v
def net : List Arc → List Int → Int → Int
  | p :: as, x :: xs, v => x * dlt p v + net as xs v
  | _, _, _ => 0
def arcOf (arcs : List Arc) (k : Nat) : Arc := arcs.getD k (0, 0)
def part (xs : List Int) (k : Nat) : Int := xs.getD k 0

theorem net_snoc : ∀ (as : List Arc) (xs : List Int) (p : Arc) (x v : Int), as.length = xs.length → net (as ++ [p]) (xs ++ [x]) v = net as xs v + x * dlt p v
  | [], [], p, x, v, _ => by simp [net]
  | q :: as, y :: xs, p, x, v, h => by
    have ih := net_snoc as xs p x v (by simpa using h)
    simp only [List.cons_append, net, ih]
    omega
  | [], _ :: _, _, _, _, h => by simp at h
  | _ :: _, [], _, _, _, h => by simp at h
theorem net_set : ∀ (as : List Arc) (xs : List Int) (k : Nat) (y v : Int), as.length = xs.length → k < xs.length → net as (xs.set k y) v = net as xs v + (y - part xs k) * dlt (arcOf as k) v
  | [], [], k, y, v, _, h => by simp at h
  | p :: as, x :: xs, 0, y, v, _, _ => by
    have e1 : part (x :: xs) 0 = x := rfl
    have e2 : arcOf (p :: as) 0 = p := rfl
    rw [List.set_cons_zero, e1, e2]
    simp only [net, Int.sub_mul]
    omega
  | p :: as, x :: xs, k + 1, y, v, hl, h => by
    have ih := net_set as xs k y v (by simpa using hl) (by simpa using h)
    have e1 : part (x :: xs) (k + 1) = part xs k := rfl
    have e2 : arcOf (p :: as) (k + 1) = arcOf as k := rfl
    rw [List.set_cons_succ, e1, e2]
    simp only [net, ih]
    omega
  | [], _ :: _, _, _, _, h, _ => by simp at h
  | _ :: _, [], _, _, _, h, _ => by simp at h
theorem part_get {xs : List Int} {k : Nat} {x : Int} (h : xs[k]? = some x) : part xs k = x := by
  unfold part
  rw [List.getD_eq_getElem?_getD, h]
  rfl
theorem arc_get {xs : List Arc} {k : Nat} {x : Arc} (h : xs[k]? = some x) : arcOf xs k = x := by
  unfold arcOf
  rw [List.getD_eq_getElem?_getD, h]
  rfl
theorem get_part {xs : List Int} {k : Nat} (h : k < xs.length) : xs[k]? = some (part xs k) := by
  rw [List.getElem?_eq_getElem h, part_get (List.getElem?_eq_getElem h)]
theorem get_arc {xs : List Arc} {k : Nat} (h : k < xs.length) : xs[k]? = some (arcOf xs k) := by
  rw [List.getElem?_eq_getElem h, arc_get (List.getElem?_eq_getElem h)]
theorem part_set_same {xs : List Int} {k : Nat} {y : Int} (h : k < xs.length) : part (xs.set k y) k = y := part_get (by rw [List.getElem?_set_self h])
theorem part_set_ne {xs : List Int} {k j : Nat} {y : Int} (h : k ≠ j) : part (xs.set k y) j = part xs j := by
  unfold part
  rw [List.getD_eq_getElem?_getD, List.getD_eq_getElem?_getD, List.getElem?_set_ne h]

/-! ### what enters each node -/
def spareL (n : Nat) (as : List Arc) (xs : List Int) : List Int := (List.range n).map fun (v : Nat) => net as xs (v : Int)
theorem spareL_len (n : Nat) (as : List Arc) (xs : List Int) : (spareL n as xs).length = n := by simp [spareL]
theorem spareL_get {n : Nat} {as : List Arc} {xs : List Int} {i : Int} (h0 : 0 ≤ i) (h : i < n) : (spareL n as xs)[i.toNat]? = some (net as xs i) := by
  unfold spareL
  rw [List.getElem?_map, List.getElem?_range (by omega)]
  simp only [Option.map_some]
  rw [Int.toNat_of_nonneg h0]
theorem spareL_zero (n : Nat) : spareL n [] [] = List.replicate n 0 := by
  apply List.ext_getElem?
  intro i
  unfold spareL
  by_cases h : i < n
  · rw [List.getElem?_map, List.getElem?_range h, List.getElem?_replicate, if_pos h]
    rfl
  · rw [List.getElem?_eq_none (by simp; omega), List.getElem?_eq_none (by simp; omega)]
theorem spare_step {n : Nat} {as : List Arc} {xs : List Int} {p : Arc} {x : Int} (hl : as.length = xs.length) (hg : Good n p) :
    ((spareL n as xs).set p.1.toNat (net as xs p.1 - x)).set p.2.toNat (net as xs p.2 + x) = spareL n (as ++ [p]) (xs ++ [x]) := by
  obtain ⟨⟨h1, h2⟩, ⟨h3, h4⟩, h5⟩ := hg
  apply List.ext_getElem?
  intro i
  by_cases hi : i < n
  · have e : (spareL n (as ++ [p]) (xs ++ [x]))[i]? = some (net as xs i + x * dlt p i) := by
      have := spareL_get (n := n) (as := as ++ [p]) (xs := xs ++ [x]) (i := (i : Int)) (by omega) (by omega)
      rw [Int.toNat_natCast] at this
      rw [this, net_snoc _ _ _ _ _ hl]
    have e0 : (spareL n as xs)[i]? = some (net as xs i) := by
      have := spareL_get (n := n) (as := as) (xs := xs) (i := (i : Int)) (by omega) (by omega)
      rwa [Int.toNat_natCast] at this
    rw [e]
    by_cases c2 : p.2.toNat = i
    · have c3 : (i : Int) = p.2 := by omega
      rw [c2, List.getElem?_set_self (by rw [List.length_set, spareL_len]; omega), c3]
      have e1 : dlt p p.2 = 1 := by
        unfold dlt ind
        rw [if_pos rfl, if_neg h5]
        rfl
      rw [e1, Int.mul_one]
    · rw [List.getElem?_set_ne c2]
      have c3 : p.2 ≠ i := by omega
      by_cases c1 : p.1.toNat = i
      · have c5 : (i : Int) = p.1 := by omega
        rw [c1, List.getElem?_set_self (by rw [spareL_len]; omega), c5]
        have e1 : dlt p p.1 = -1 := by
          unfold dlt ind
          rw [if_pos rfl, if_neg (Ne.symm h5)]
          rfl
        rw [e1]
        congr 1
        omega
      · have c5 : p.1 ≠ i := by omega
        rw [List.getElem?_set_ne c1, e0]
        simp [dlt, ind, if_neg c3, if_neg c5]
  · rw [List.getElem?_eq_none (by simp [spareL_len]; omega), List.getElem?_eq_none (by rw [spareL_len]; omega)]

/-! ### the arcs that touch a node -/
def touch (p : Arc) (v : Int) : Bool := decide (p.1 = v) || decide (p.2 = v)
def nearI (arcs : List Arc) (i : Nat) (v : Int) : List Nat := (List.range i).filter fun k => touch (arcOf arcs k) v
def nearOf (arcs : List Arc) (v : Int) : List Nat := nearI arcs arcs.length v
theorem nearI_succ (arcs : List Arc) (i : Nat) (v : Int) : nearI arcs (i + 1) v = nearI arcs i v ++ (if touch (arcOf arcs i) v then [i] else []) := by
  unfold nearI
  rw [List.range_succ, List.filter_append]
  congr 1
  by_cases h : touch (arcOf arcs i) v = true
  · rw [List.filter_cons, if_pos h, if_pos h]; rfl
  · rw [List.filter_cons, if_neg h, if_neg h]; rfl
theorem mem_near {arcs : List Arc} {v : Int} {k : Nat} : k ∈ nearOf arcs v ↔ k < arcs.length ∧ touch (arcOf arcs k) v = true := by
  unfold nearOf nearI
  rw [List.mem_filter, List.mem_range]
theorem nearI_len (arcs : List Arc) (i : Nat) (v : Int) : (nearI arcs i v).length ≤ i := by
  unfold nearI
  exact Nat.le_trans (List.length_filter_le _ _) (by simp)

/-! ### a round of fractional arcs -/
def frac (p : List Int) (d : Int) (k : Nat) : Bool := decide (part p k % d ≠ 0)
def other (row : List Nat) (p : List Int) (d : Int) (came : Nat) : Nat := (row.find? fun k => decide (k ≠ came) && frac p d k).getD came
def stepN (arcs : List Arc) (arc : Nat) (node : Int) : Int × Int := if (arcOf arcs arc).1 = node then ((arcOf arcs arc).2, 1) else ((arcOf arcs arc).1, -1)
def fround (arcs : List Arc) (p : List Int) (d : Int) : Nat → List Int → List (Nat × Int) → Int → Nat → List (Nat × Int)
  | 0, _, _, _, _ => []
  | f + 1, vs, path, node, arc =>
    if (stepN arcs arc node).1 ∈ vs then (path ++ [(arc, (stepN arcs arc node).2)]).drop (vs.idxOf (stepN arcs arc node).1)
    else fround arcs p d f (vs ++ [(stepN arcs arc node).1]) (path ++ [(arc, (stepN arcs arc node).2)]) (stepN arcs arc node).1 (other (nearOf arcs (stepN arcs arc node).1) p d arc)
def roundOf (n : Nat) (arcs : List Arc) (p : List Int) (d : Int) (start : Nat) : List (Nat × Int) := fround arcs p d (n + 1) [(arcOf arcs start).1] [] (arcOf arcs start).1 start

/-- the arc a, passed in the way w, leads from u to v -/
def Ste (arcs : List Arc) (a : Nat) (w u v : Int) : Prop := (w = 1 ∧ (arcOf arcs a).1 = u ∧ (arcOf arcs a).2 = v) ∨ (w = -1 ∧ (arcOf arcs a).2 = u ∧ (arcOf arcs a).1 = v)
def Wk (arcs : List Arc) : List Int → List (Nat × Int) → Prop
  | [_], [] => True
  | u :: v :: us, q :: path => Ste arcs q.1 q.2 u v ∧ Wk arcs (v :: us) path
  | _, _ => False
theorem Wk.snoc {arcs : List Arc} : ∀ {us : List Int} {path : List (Nat × Int)} {a : Nat} {w u v : Int}, Wk arcs us path → us.getLast? = some u → Ste arcs a w u v → Wk arcs (us ++ [v]) (path ++ [(a, w)])
  | [x], [], a, w, u, v, _, hu, hs => by
    simp at hu
    subst hu
    exact ⟨hs, trivial⟩
  | x :: y :: us, q :: path, a, w, u, v, h, hu, hs => by
    obtain ⟨h1, h2⟩ := h
    refine ⟨h1, ?_⟩
    exact Wk.snoc (us := y :: us) h2 (by rw [List.getLast?_cons_cons] at hu; exact hu) hs
  | [], _, _, _, _, _, h, _, _ => by simp [Wk] at h
  | [x], _ :: _, _, _, _, _, h, _, _ => by simp [Wk] at h
  | _ :: _ :: _, [], _, _, _, _, h, _, _ => by simp [Wk] at h
theorem Wk.len {arcs : List Arc} : ∀ {us : List Int} {path : List (Nat × Int)}, Wk arcs us path → us.length = path.length + 1
  | [_], [], _ => rfl
  | u :: v :: us, q :: path, h => by
    have := Wk.len (us := v :: us) h.2
    simp only [List.length_cons] at this ⊢
    omega
  | [], _, h => by simp [Wk] at h
  | [_], _ :: _, h => by simp [Wk] at h
  | _ :: _ :: _, [], h => by simp [Wk] at h
theorem Wk.drop {arcs : List Arc} : ∀ {us : List Int} {path : List (Nat × Int)} (i : Nat), Wk arcs us path → i ≤ path.length → Wk arcs (us.drop i) (path.drop i)
  | us, path, 0, h, _ => by simpa using h
  | u :: v :: us, q :: path, i + 1, h, hi => by
    have := Wk.drop (us := v :: us) i h.2 (by simpa using hi)
    simpa using this
  | [], _, _ + 1, h, _ => by simp [Wk] at h
  | [_], [], _ + 1, _, hi => by simp at hi
  | [_], _ :: _, _ + 1, h, _ => by simp [Wk] at h
  | _ :: _ :: _, [], _ + 1, h, _ => by simp [Wk] at h
theorem Wk.get {arcs : List Arc} : ∀ {us : List Int} {path : List (Nat × Int)} {i : Nat} {q : Nat × Int}, Wk arcs us path → path[i]? = some q → ∃ u v, us[i]? = some u ∧ us[i + 1]? = some v ∧ Ste arcs q.1 q.2 u v
  | u :: v :: us, q :: path, 0, q', h, hq => by
    simp at hq
    subst hq
    exact ⟨u, v, rfl, rfl, h.1⟩
  | u :: v :: us, q :: path, i + 1, q', h, hq => by
    obtain ⟨a, b, h1, h2, h3⟩ := Wk.get (us := v :: us) (i := i) (q := q') h.2 (by simpa using hq)
    exact ⟨a, b, by simpa using h1, by simpa using h2, h3⟩
  | [], _, _, _, h, _ => by simp [Wk] at h
  | [_], [], _, _, _, hq => by simp at hq
  | [_], _ :: _, _, _, h, _ => by simp [Wk] at h
  | _ :: _ :: _, [], _, _, h, _ => by simp [Wk] at h
def fsum (arcs : List Arc) : List (Nat × Int) → Int → Int
  | [], _ => 0
  | q :: r, v => q.2 * dlt (arcOf arcs q.1) v + fsum arcs r v
theorem Ste.sum {arcs : List Arc} {a : Nat} {w u v : Int} (h : Ste arcs a w u v) (x : Int) : w * dlt (arcOf arcs a) x = ind v x - ind u x := by
  unfold dlt
  rcases h with ⟨rfl, h1, h2⟩ | ⟨rfl, h1, h2⟩
  · rw [h1, h2]; omega
  · rw [h1, h2]; omega
theorem Wk.sum {arcs : List Arc} : ∀ {u : Int} {us : List Int} {path : List (Nat × Int)} {l : Int}, Wk arcs (u :: us) path → (u :: us).getLast? = some l → ∀ x, fsum arcs path x = ind l x - ind u x
  | u, [], [], l, _, hl, x => by
    simp at hl
    subst hl
    simp [fsum]
  | u, v :: us, q :: path, l, h, hl, x => by
    have ih := Wk.sum (u := v) (us := us) h.2 (by rw [List.getLast?_cons_cons] at hl; exact hl) x
    simp only [fsum, ih, Ste.sum h.1 x]
    omega
  | _, [], _ :: _, _, h, _, _ => by simp [Wk] at h
  | _, _ :: _, [], _, h, _, _ => by simp [Wk] at h

/-! ### a round is found -/
theorem nodup_le : ∀ (n : Nat) (l : List Int), l.Nodup → (∀ v ∈ l, 0 ≤ v ∧ v < n) → l.length ≤ n
  | 0, [], _, _ => Nat.le_refl _
  | 0, v :: l, _, h => by
    have := h v List.mem_cons_self
    omega
  | n + 1, l, nd, h => by
    have ih := nodup_le n (l.erase (n : Int)) (nd.erase _) fun v hv => by
      have h1 := h v (List.mem_of_mem_erase hv)
      have h2 : v ≠ n := (nd.mem_erase_iff.mp hv).1
      omega
    have := List.length_erase (a := (n : Int)) (l := l)
    split at this <;> omega
theorem touch_dlt {n : Int} {p : Arc} {v : Int} (hg : Good n p) (h : touch p v = true) : dlt p v = 1 ∨ dlt p v = -1 := by
  unfold touch at h
  unfold dlt ind
  have h5 := hg.2.2
  by_cases c1 : p.1 = v
  · have c2 : p.2 ≠ v := fun e => h5 (c1.trans e.symm)
    rw [if_pos c1, if_neg c2]; omega
  · have c2 : p.2 = v := by simpa [c1] using h
    rw [if_neg c1, if_pos c2]; omega
theorem untouch_dlt {p : Arc} {v : Int} (h : touch p v = false) : dlt p v = 0 := by
  unfold touch at h
  simp only [Bool.or_eq_false_iff, decide_eq_false_iff_not] at h
  unfold dlt ind
  rw [if_neg h.1, if_neg h.2]; rfl
/-- all but the arc a are whole or away from v: the rest is a's -/
theorem net_mod (d v : Int) : ∀ (as : List Arc) (xs : List Int) (a : Nat), as.length = xs.length → a < xs.length →
    (∀ k, k < xs.length → k ≠ a → dlt (arcOf as k) v = 0 ∨ part xs k % d = 0) → ∃ c, net as xs v = c * d + part xs a * dlt (arcOf as a) v
  | [], [], a, _, h, _ => by simp at h
  | p :: as, x :: xs, 0, hl, _, h => by
    have e1 : part (x :: xs) 0 = x := rfl
    have e2 : arcOf (p :: as) 0 = p := rfl
    have all : ∀ (as : List Arc) (xs : List Int), as.length = xs.length → (∀ k, k < xs.length → dlt (arcOf as k) v = 0 ∨ part xs k % d = 0) → ∃ c, net as xs v = c * d := by
      intro as
      induction as with
      | nil =>
        intro xs hl _
        cases xs with
        | nil => exact ⟨0, by simp [net]⟩
        | cons _ _ => simp at hl
      | cons q as ih =>
        intro xs hl h
        cases xs with
        | nil => simp at hl
        | cons y xs =>
          obtain ⟨c, hc⟩ := ih xs (by simpa using hl) fun k hk => h (k + 1) (by simpa using hk)
          rcases h 0 (by simp) with z | z
          · have z' : dlt q v = 0 := z
            exact ⟨c, by simp only [net, z', hc]; omega⟩
          · have z' : y % d = 0 := z
            obtain ⟨e, he⟩ := Int.dvd_of_emod_eq_zero z'
            refine ⟨c + e * dlt q v, ?_⟩
            simp only [net, hc, he, Int.add_mul]
            rw [Int.mul_assoc, Int.mul_comm d, Int.add_comm]
    obtain ⟨c, hc⟩ := all as xs (by simpa using hl) fun k hk => h (k + 1) (by simpa using hk) (by omega)
    refine ⟨c, ?_⟩
    rw [e1, e2]
    simp only [net, hc]
    omega
  | p :: as, x :: xs, a + 1, hl, ha, h => by
    obtain ⟨c, hc⟩ := net_mod d v as xs a (by simpa using hl) (by simpa using ha) fun k hk hne => h (k + 1) (by simpa using hk) (by omega)
    have e1 : part (x :: xs) (a + 1) = part xs a := rfl
    have e2 : arcOf (p :: as) (a + 1) = arcOf as a := rfl
    rw [e1, e2]
    rcases h 0 (by simp) (by omega) with z | z
    · have z' : dlt p v = 0 := z
      exact ⟨c, by simp only [net, z', hc]; omega⟩
    · have z' : x % d = 0 := z
      obtain ⟨e, he⟩ := Int.dvd_of_emod_eq_zero z'
      refine ⟨c + e * dlt p v, ?_⟩
      simp only [net, hc, he, Int.add_mul]
      rw [Int.mul_assoc d, Int.mul_comm d]
      omega
  | [], _ :: _, _, h, _, _ => by simp at h
  | _ :: _, [], _, h, _, _ => by simp at h
theorem bal_other {n : Int} {arcs : List Arc} {p : List Int} {d v : Int} {a : Nat} (hl : arcs.length = p.length) (hg : ∀ k, k < arcs.length → Good n (arcOf arcs k)) (hb : net arcs p v % d = 0)
    (ha : a < arcs.length) (hf : frac p d a = true) (ht : touch (arcOf arcs a) v = true) : ∃ k, k ∈ nearOf arcs v ∧ k ≠ a ∧ frac p d k = true := by
  refine Classical.byContradiction fun no => ?_
  have h : ∀ k, k < p.length → k ≠ a → dlt (arcOf arcs k) v = 0 ∨ part p k % d = 0 := fun k hk hne => by
    by_cases c : touch (arcOf arcs k) v = true
    · right
      refine Classical.byContradiction fun z => no ⟨k, mem_near.mpr ⟨by omega, c⟩, hne, ?_⟩
      unfold frac
      exact decide_eq_true z
    · left
      exact untouch_dlt (by simpa using c)
  obtain ⟨c, hc⟩ := net_mod d v arcs p a hl (by omega) h
  have hf' : part p a % d ≠ 0 := of_decide_eq_true hf
  rw [hc, Int.add_comm, Int.add_mul_emod_self_right] at hb
  rcases touch_dlt (hg a ha) ht with z | z
  · rw [z, Int.mul_one] at hb
    exact hf' hb
  · rw [z, Int.mul_neg, Int.mul_one] at hb
    exact hf' (Int.emod_eq_zero_of_dvd ((Int.dvd_neg).mp (Int.dvd_of_emod_eq_zero hb)))
theorem other_ok {row : List Nat} {p : List Int} {d : Int} {came : Nat} (h : ∃ k, k ∈ row ∧ k ≠ came ∧ frac p d k = true) :
    other row p d came ∈ row ∧ other row p d came ≠ came ∧ frac p d (other row p d came) = true := by
  unfold other
  cases e : row.find? fun k => decide (k ≠ came) && frac p d k with
  | none =>
    obtain ⟨k, h1, h2, h3⟩ := h
    have := List.find?_eq_none.mp e k h1
    simp [h2, h3] at this
  | some k =>
    have h1 := List.find?_some e
    have h2 := List.mem_of_find?_eq_some e
    simp only [Bool.and_eq_true, decide_eq_true_eq] at h1
    exact ⟨h2, h1.1, h1.2⟩

structure St0 (n : Nat) (arcs : List Arc) (p : List Int) (d : Int) (vs : List Int) (path : List (Nat × Int)) (node : Int) (arc : Nat) : Prop where
  wk : Wk arcs vs path
  nd : vs.Nodup
  last : vs.getLast? = some node
  rng : ∀ v ∈ vs, 0 ≤ v ∧ v < n
  ar : arc < arcs.length ∧ frac p d arc = true ∧ touch (arcOf arcs arc) node = true
  old : ∀ q ∈ path, q.1 < arcs.length ∧ frac p d q.1 = true ∧ (q.2 = 1 ∨ q.2 = -1)
  cons : ∀ i q q', path[i]? = some q → path[i + 1]? = some q' → q.1 ≠ q'.1
  lastne : ∀ q, path.getLast? = some q → q.1 ≠ arc
structure Rnd (arcs : List Arc) (p : List Int) (d : Int) (found : List (Nat × Int)) : Prop where
  ne : found ≠ []
  ok : ∀ q ∈ found, q.1 < arcs.length ∧ frac p d q.1 = true ∧ (q.2 = 1 ∨ q.2 = -1)
  nd : (found.map (·.1)).Nodup
  bal : ∀ v, fsum arcs found v = 0
theorem stepN_ste {arcs : List Arc} {arc : Nat} {node : Int} (h : touch (arcOf arcs arc) node = true) : Ste arcs arc (stepN arcs arc node).2 node (stepN arcs arc node).1 ∧ ((stepN arcs arc node).2 = 1 ∨ (stepN arcs arc node).2 = -1) := by
  unfold touch at h
  unfold stepN
  by_cases c : (arcOf arcs arc).1 = node
  · rw [if_pos c]
    exact ⟨.inl ⟨rfl, c, rfl⟩, .inl rfl⟩
  · rw [if_neg c]
    exact ⟨.inr ⟨rfl, by simpa [c] using h, rfl⟩, .inr rfl⟩
theorem Ste.far {n : Int} {arcs : List Arc} {a : Nat} {w u v : Int} (hg : Good n (arcOf arcs a)) (h : Ste arcs a w u v) : (0 ≤ v ∧ v < n) ∧ touch (arcOf arcs a) v = true := by
  unfold touch
  rcases h with ⟨_, h1, h2⟩ | ⟨_, h1, h2⟩
  · refine ⟨by rw [← h2]; exact hg.2.1, ?_⟩
    simp [h2]
  · refine ⟨by rw [← h2]; exact hg.1, ?_⟩
    simp [h2]
theorem getElem?_snoc_last {α : Type} {l : List α} {x y : α} {i : Nat} (h : (l ++ [x])[i]? = some y) : (i < l.length ∧ l[i]? = some y) ∨ (i = l.length ∧ y = x) := by
  by_cases c : i < l.length
  · rw [List.getElem?_append_left c] at h
    exact .inl ⟨c, h⟩
  · rw [List.getElem?_append_right (by omega)] at h
    have : i - l.length = 0 := by
      by_cases z : i - l.length = 0
      · exact z
      · rw [List.getElem?_eq_none (by simp; omega)] at h
        cases h
    rw [this] at h
    exact .inr ⟨by omega, by simpa using h.symm⟩
theorem cons_snoc {n : Nat} {arcs : List Arc} {p : List Int} {d : Int} {vs : List Int} {path : List (Nat × Int)} {node : Int} {arc : Nat} {w : Int} (S : St0 n arcs p d vs path node arc) :
    ∀ i q q', (path ++ [(arc, w)])[i]? = some q → (path ++ [(arc, w)])[i + 1]? = some q' → q.1 ≠ q'.1 := by
  intro i q q' h1 h2
  rcases getElem?_snoc_last h2 with ⟨c2, h2⟩ | ⟨c2, rfl⟩
  · rcases getElem?_snoc_last h1 with ⟨c1, h1⟩ | ⟨c1, _⟩
    · exact S.cons i q q' h1 h2
    · omega
  · rcases getElem?_snoc_last h1 with ⟨c1, h1⟩ | ⟨c1, _⟩
    · refine S.lastne q ?_
      rw [List.getLast?_eq_getElem?, ← h1]
      congr 1
      omega
    · omega
theorem rnd_of {n : Nat} {arcs : List Arc} {p : List Int} {d : Int} {vs : List Int} {path : List (Nat × Int)} {node : Int} {arc : Nat} (hg : ∀ k, k < arcs.length → Good n (arcOf arcs k)) (S : St0 n arcs p d vs path node arc)
    (hin : (stepN arcs arc node).1 ∈ vs) : Rnd arcs p d ((path ++ [(arc, (stepN arcs arc node).2)]).drop (vs.idxOf (stepN arcs arc node).1)) := by
  obtain ⟨hs, hw⟩ := stepN_ste S.ar.2.2
  have wk2 := S.wk.snoc S.last hs
  revert hin hs hw wk2
  generalize (stepN arcs arc node).1 = v
  generalize (stepN arcs arc node).2 = w
  intro hin hs hw wk2
  have hlen := S.wk.len
  have hi : vs.idxOf v < vs.length := List.idxOf_lt_length_of_mem hin
  have hget : vs[vs.idxOf v]? = some v := by rw [List.getElem?_eq_getElem hi, List.getElem_idxOf hi]
  have cs := cons_snoc (w := w) S
  revert hi hget
  generalize vs.idxOf v = i0
  intro hi hget
  have wk3 := wk2.drop i0 (by simp; omega)
  have old2 : ∀ q ∈ path ++ [(arc, w)], q.1 < arcs.length ∧ frac p d q.1 = true ∧ (q.2 = 1 ∨ q.2 = -1) := fun q hq => by
    rcases List.mem_append.mp hq with hq | hq
    · exact S.old q hq
    · rw [List.mem_singleton] at hq
      subst hq
      exact ⟨S.ar.1, S.ar.2.1, hw⟩
  refine ⟨fun e => ?_, fun q hq => old2 q (List.mem_of_mem_drop hq), ?_, fun x => ?_⟩
  · have := congrArg List.length e
    simp at this
    omega
  · rw [List.nodup_iff_pairwise_ne, List.pairwise_iff_getElem]
    intro i j hi2 hj2 hij e
    rw [List.length_map, List.length_drop, List.length_append] at hi2 hj2
    simp only [List.length_cons, List.length_nil] at hi2 hj2
    have gi : ((path ++ [(arc, w)]).drop i0)[i]? = some (((path ++ [(arc, w)]).drop i0)[i]'(by simp; omega)) := List.getElem?_eq_getElem _
    have gj : ((path ++ [(arc, w)]).drop i0)[j]? = some (((path ++ [(arc, w)]).drop i0)[j]'(by simp; omega)) := List.getElem?_eq_getElem _
    obtain ⟨u, v', g1, g2, g3⟩ := wk3.get gi
    obtain ⟨u2, v2, f1, f2, f3⟩ := wk3.get gj
    rw [List.getElem_map, List.getElem_map] at e
    rw [List.getElem?_drop] at g1 g2 f1 f2 gi gj
    have inj : ∀ {a b : Nat} {z : Int}, a < vs.length → b < vs.length → (vs ++ [v])[a]? = some z → (vs ++ [v])[b]? = some z → a = b := fun {a b z} ha hb h1 h2 => by
      rw [List.getElem?_append_left ha] at h1
      rw [List.getElem?_append_left hb] at h2
      obtain ⟨ha', e1⟩ := List.getElem?_eq_some_iff.mp h1
      obtain ⟨hb', e2⟩ := List.getElem?_eq_some_iff.mp h2
      exact (List.getElem_inj S.nd).mp (e1.trans e2.symm)
    have nxt : j ≠ i + 1 := fun z => by
      subst z
      exact cs (i0 + i) _ _ gi (by rw [show i0 + i + 1 = i0 + (i + 1) from by omega]; exact gj) e
    rw [e] at g3
    have two : u = u2 ∨ v' = u2 := by
      rcases g3 with ⟨_, a1, a2⟩ | ⟨_, a1, a2⟩ <;> rcases f3 with ⟨_, b1, b2⟩ | ⟨_, b1, b2⟩
      · exact .inl (a1.symm.trans b1)
      · exact .inr (a2.symm.trans b1)
      · exact .inr (a2.symm.trans b1)
      · exact .inl (a1.symm.trans b1)
    rcases two with z | z
    · rw [z] at g1
      have := inj (by omega) (by omega) g1 f1
      omega
    · rw [z] at g2
      have := inj (by omega) (by omega) g2 f1
      omega
  · have e1 : (vs ++ [v]).drop i0 = v :: (vs ++ [v]).drop (i0 + 1) := by
      have h0 : (vs ++ [v])[i0]? = some v := by rw [List.getElem?_append_left hi]; exact hget
      obtain ⟨h1, h2⟩ := List.getElem?_eq_some_iff.mp h0
      rw [List.drop_eq_getElem_cons h1, h2]
    rw [e1] at wk3
    have := wk3.sum (l := v) (by
      rw [← e1, List.getLast?_drop, if_neg (by simp; omega)]
      simp) x
    rw [this]
    omega
theorem fround_ok {n : Nat} {arcs : List Arc} {p : List Int} {d : Int} (hl : arcs.length = p.length) (hg : ∀ k, k < arcs.length → Good n (arcOf arcs k)) (hb : ∀ v, net arcs p v % d = 0) :
    ∀ (f : Nat) (vs : List Int) (path : List (Nat × Int)) (node : Int) (arc : Nat), St0 n arcs p d vs path node arc → n + 1 ≤ f + vs.length → Rnd arcs p d (fround arcs p d f vs path node arc)
  | 0, vs, path, node, arc, S, hf => by
    have := nodup_le n vs S.nd S.rng
    omega
  | f + 1, vs, path, node, arc, S, hf => by
    unfold fround
    by_cases hin : (stepN arcs arc node).1 ∈ vs
    · rw [if_pos hin]
      exact rnd_of hg S hin
    · rw [if_neg hin]
      obtain ⟨hs, hw⟩ := stepN_ste S.ar.2.2
      have wk2 := S.wk.snoc S.last hs
      have far := hs.far (hg arc S.ar.1)
      have oth := other_ok (bal_other (v := (stepN arcs arc node).1) hl hg (hb _) S.ar.1 S.ar.2.1 far.2)
      have mem := mem_near.mp oth.1
      have cs := cons_snoc (w := (stepN arcs arc node).2) S
      refine fround_ok hl hg hb f _ _ _ _ ⟨wk2, ?_, by simp, fun v hv => ?_, ⟨mem.1, oth.2.2, mem.2⟩, fun q hq => ?_, cs, fun q hq => ?_⟩ (by simp; omega)
      · rw [List.nodup_append]
        refine ⟨S.nd, by simp, fun a ha b hb2 => ?_⟩
        rw [List.mem_singleton] at hb2
        subst hb2
        rintro rfl
        exact hin ha
      · rcases List.mem_append.mp hv with hv | hv
        · exact S.rng v hv
        · rw [List.mem_singleton] at hv
          subst hv
          exact far.1
      · rcases List.mem_append.mp hq with hq | hq
        · exact S.old q hq
        · rw [List.mem_singleton] at hq
          subst hq
          exact ⟨S.ar.1, S.ar.2.1, hw⟩
      · rw [List.getLast?_append] at hq
        simp at hq
        subst hq
        exact Ne.symm oth.2.1
theorem roundOf_ok {n : Nat} {arcs : List Arc} {p : List Int} {d : Int} {k : Nat} (hl : arcs.length = p.length) (hg : ∀ k, k < arcs.length → Good n (arcOf arcs k)) (hb : ∀ v, net arcs p v % d = 0) (hk : k < arcs.length) (hf : frac p d k = true) :
    Rnd arcs p d (roundOf n arcs p d k) := by
  unfold roundOf
  have g := hg k hk
  refine fround_ok hl hg hb _ _ _ _ _ ⟨trivial, by simp, rfl, fun v hv => ?_, ⟨hk, hf, by simp [touch]⟩, fun q hq => by simp at hq, fun i q q' h => by simp at h, fun q h => by simp at h⟩ (by simp)
  rw [List.mem_singleton] at hv
  subst hv
  exact g.1

/-! ### a round is carried -/
def dist (p : List Int) (d : Int) (q : Nat × Int) : Int := (q.2 * -(part p q.1)) % d
def stepOf (p : List Int) (d : Int) (found : List (Nat × Int)) : Int := found.foldl (fun s q => if dist p d q < s then dist p d q else s) d
def applyR (p : List Int) (s : Int) (found : List (Nat × Int)) : List Int := found.foldl (fun p q => p.set q.1 (part p q.1 + q.2 * s)) p
theorem applyR_len (s : Int) : ∀ (f : List (Nat × Int)) (p : List Int), (applyR p s f).length = p.length
  | [], _ => rfl
  | q :: f, p => by
    show (applyR (p.set q.1 (part p q.1 + q.2 * s)) s f).length = p.length
    rw [applyR_len s f, List.length_set]
theorem applyR_net (arcs : List Arc) (s v : Int) : ∀ (f : List (Nat × Int)) (p : List Int), arcs.length = p.length → (∀ q ∈ f, q.1 < arcs.length) → net arcs (applyR p s f) v = net arcs p v + s * fsum arcs f v
  | [], p, _, _ => by simp [applyR, fsum]
  | q :: f, p, hl, h => by
    show net arcs (applyR (p.set q.1 (part p q.1 + q.2 * s)) s f) v = _
    have h0 := h q List.mem_cons_self
    rw [applyR_net arcs s v f _ (by rw [List.length_set]; exact hl) fun q' hq => h q' (List.mem_cons_of_mem _ hq), net_set _ _ _ _ _ hl (by omega)]
    simp only [fsum]
    have e : part p q.1 + q.2 * s - part p q.1 = s * q.2 := by rw [Int.mul_comm s]; omega
    rw [e, Int.mul_add, Int.mul_assoc]
    omega
theorem applyR_out (s : Int) : ∀ (f : List (Nat × Int)) (p : List Int) (k : Nat), k ∉ f.map (·.1) → part (applyR p s f) k = part p k
  | [], _, _, _ => rfl
  | q :: f, p, k, h => by
    show part (applyR (p.set q.1 (part p q.1 + q.2 * s)) s f) k = part p k
    simp only [List.map_cons, List.mem_cons, not_or] at h
    rw [applyR_out s f _ k h.2, part_set_ne (Ne.symm h.1)]
theorem applyR_in (s : Int) : ∀ (f : List (Nat × Int)) (p : List Int), (f.map (·.1)).Nodup → (∀ q ∈ f, q.1 < p.length) → ∀ q ∈ f, part (applyR p s f) q.1 = part p q.1 + q.2 * s
  | [], _, _, _, q, h => by simp at h
  | q' :: f, p, nd, hl, q, hq => by
    show part (applyR (p.set q'.1 (part p q'.1 + q'.2 * s)) s f) q.1 = _
    rw [List.map_cons, List.nodup_cons] at nd
    have h0 := hl q' List.mem_cons_self
    rcases List.mem_cons.mp hq with rfl | hq
    · rw [applyR_out s f _ _ nd.1, part_set_same h0]
    · have ne : q'.1 ≠ q.1 := fun e => nd.1 (by rw [e]; exact List.mem_map_of_mem hq)
      rw [applyR_in s f _ nd.2 (fun q2 h2 => by rw [List.length_set]; exact hl q2 (List.mem_cons_of_mem _ h2)) q hq, part_set_ne ne]
theorem fold_min (g : Nat × Int → Int) : ∀ (f : List (Nat × Int)) (s : Int), (∀ q ∈ f, f.foldl (fun s q => if g q < s then g q else s) s ≤ g q) ∧ f.foldl (fun s q => if g q < s then g q else s) s ≤ s ∧
    (f.foldl (fun s q => if g q < s then g q else s) s = s ∨ ∃ q ∈ f, f.foldl (fun s q => if g q < s then g q else s) s = g q)
  | [], s => ⟨fun q h => by simp at h, Int.le_refl _, .inl rfl⟩
  | q :: f, s => by
    by_cases c : g q < s
    · obtain ⟨h1, h2, h3⟩ := fold_min g f (g q)
      simp only [List.foldl_cons, if_pos c]
      refine ⟨fun q' hq => ?_, by omega, ?_⟩
      · rcases List.mem_cons.mp hq with rfl | hq
        · exact h2
        · exact h1 q' hq
      · rcases h3 with h3 | ⟨q', hq, h3⟩
        · exact .inr ⟨q, List.mem_cons_self, h3⟩
        · exact .inr ⟨q', List.mem_cons_of_mem _ hq, h3⟩
    · obtain ⟨h1, h2, h3⟩ := fold_min g f s
      simp only [List.foldl_cons, if_neg c]
      refine ⟨fun q' hq => ?_, h2, ?_⟩
      · rcases List.mem_cons.mp hq with rfl | hq
        · omega
        · exact h1 q' hq
      · rcases h3 with h3 | ⟨q', hq, h3⟩
        · exact .inl h3
        · exact .inr ⟨q', List.mem_cons_of_mem _ hq, h3⟩
theorem dist_frac {p : List Int} {d : Int} {q : Nat × Int} (hd : 0 < d) (hf : frac p d q.1 = true) (hw : q.2 = 1 ∨ q.2 = -1) : 0 < dist p d q ∧ dist p d q < d ∧ (part p q.1 + q.2 * dist p d q) % d = 0 := by
  have hf' : part p q.1 % d ≠ 0 := of_decide_eq_true hf
  have h1 := Int.emod_nonneg (q.2 * -(part p q.1)) (b := d) (by omega)
  have h2 := Int.emod_lt_of_pos (q.2 * -(part p q.1)) hd
  unfold dist
  have e := Int.emod_add_mul_ediv (q.2 * -(part p q.1)) d
  revert e h1 h2
  generalize (q.2 * -(part p q.1)) % d = r
  generalize (q.2 * -(part p q.1)) / d = c
  intro h1 h2 e
  rcases hw with hw | hw
  · rw [hw] at e ⊢
    have e2 : part p q.1 + 1 * r = d * -c := by rw [Int.mul_neg]; omega
    refine ⟨?_, h2, ?_⟩
    · rcases Int.lt_or_eq_of_le h1 with z | z
      · exact z
      · exfalso
        apply hf'
        have : part p q.1 = d * -c := by omega
        rw [this]
        exact Int.mul_emod_right _ _
    · rw [e2]
      exact Int.mul_emod_right _ _
  · rw [hw] at e ⊢
    have e2 : part p q.1 + -1 * r = d * c := by omega
    refine ⟨?_, h2, ?_⟩
    · rcases Int.lt_or_eq_of_le h1 with z | z
      · exact z
      · exfalso
        apply hf'
        have : part p q.1 = d * c := by omega
        rw [this]
        exact Int.mul_emod_right _ _
    · rw [e2]
      exact Int.mul_emod_right _ _

def turn (n : Nat) (arcs : List Arc) (d : Int) (p : List Int) (k : Nat) : List Int := applyR p (stepOf p d (roundOf n arcs p d k)) (roundOf n arcs p d k)
def fracs (m : Nat) (p : List Int) (d : Int) : Nat := ((List.range m).filter (frac p d)).length
theorem filter_lt {P Q : Nat → Bool} : ∀ (l : List Nat), (∀ k ∈ l, P k = true → Q k = true) → (∃ k ∈ l, Q k = true ∧ P k = false) → (l.filter P).length < (l.filter Q).length
  | [], _, h => by simp at h
  | a :: l, h1, h2 => by
    have le : ∀ (l : List Nat), (∀ k ∈ l, P k = true → Q k = true) → (l.filter P).length ≤ (l.filter Q).length := by
      intro l
      induction l with
      | nil => intro _; exact Nat.le_refl _
      | cons b l ih =>
        intro h
        have ih := ih fun k hk => h k (List.mem_cons_of_mem _ hk)
        have hb := h b List.mem_cons_self
        rw [List.filter_cons, List.filter_cons]
        by_cases c : P b = true
        · rw [if_pos c, if_pos (hb c)]; simp; exact ih
        · rw [if_neg c]
          split
          · simp; omega
          · exact ih
    have h0 := h1 a List.mem_cons_self
    have ht : ∀ k ∈ l, P k = true → Q k = true := fun k hk => h1 k (List.mem_cons_of_mem _ hk)
    rw [List.filter_cons, List.filter_cons]
    obtain ⟨k, hk, hq, hp⟩ := h2
    rcases List.mem_cons.mp hk with rfl | hk
    · rw [if_neg (by rw [hp]; decide), if_pos hq]
      have := le l ht
      simp
      omega
    · have ih := filter_lt l ht ⟨k, hk, hq, hp⟩
      by_cases c : P a = true
      · rw [if_pos c, if_pos (h0 c)]; simp; exact ih
      · rw [if_neg c]
        split
        · simp; omega
        · exact ih

/-- what stays true of the parts -/
structure Inv (arcs : List Arc) (am : List Int) (d : Int) (p : List Int) : Prop where
  len : p.length = arcs.length
  bal : ∀ v, net arcs p v = 0
  lo : ∀ k, k < arcs.length → part am k / d * d ≤ part p k
  hi : ∀ k, k < arcs.length → part p k ≤ -(-(part am k) / d) * d
theorem up_le {d x r h : Int} (hd : 0 < d) (hx : x % d ≠ 0) (h1 : x ≤ h * d) (hr : r ≤ (1 * -x) % d) : x + 1 * r ≤ h * d := by
  have e1 := Int.emod_add_mul_ediv (1 * -x) d
  have e2 := Int.emod_lt_of_pos (1 * -x) hd
  have e3 := Int.emod_nonneg (1 * -x) (b := d) (by omega)
  revert hr e1 e2 e3
  generalize (1 * -x) % d = t
  generalize (1 * -x) / d = c
  intro hr e1 e2 e3
  have ne : x ≠ h * d := fun e => hx (by rw [e]; exact Int.mul_emod_left _ _)
  have lt : x < h * d := by omega
  have e4 : x + t = -c * d := by
    rw [Int.neg_mul, Int.mul_comm c d]
    omega
  have le : -c ≤ h := by
    refine Classical.byContradiction fun z => ?_
    have z1 : h + 1 ≤ -c := by omega
    have z2 : (h + 1) * d ≤ -c * d := Int.mul_le_mul_of_nonneg_right z1 (by omega)
    rw [Int.add_mul] at z2
    omega
  have := Int.mul_le_mul_of_nonneg_right le (show 0 ≤ d by omega)
  omega
theorem down_le {d x r h : Int} (hd : 0 < d) (hx : x % d ≠ 0) (h1 : h * d ≤ x) (hr : r ≤ (-1 * -x) % d) : h * d ≤ x + -1 * r := by
  have := up_le (d := d) (x := -x) (r := r) (h := -h) hd (fun e => hx (Int.emod_eq_zero_of_dvd (Int.dvd_neg.mp (Int.dvd_of_emod_eq_zero e)))) (by rw [Int.neg_mul]; omega)
    (by rw [show (1 : Int) * - -x = -1 * -x by omega]; exact hr)
  rw [Int.neg_mul] at this
  omega
theorem turn_ok {n : Nat} {arcs : List Arc} {am : List Int} {d : Int} {p : List Int} {k : Nat} (hd : 0 < d) (hg : ∀ k, k < arcs.length → Good n (arcOf arcs k)) (I : Inv arcs am d p) (hk : k < arcs.length) (hf : frac p d k = true) :
    Inv arcs am d (turn n arcs d p k) ∧ (∀ j, j < arcs.length → frac (turn n arcs d p k) d j = true → frac p d j = true) ∧ fracs arcs.length (turn n arcs d p k) d < fracs arcs.length p d := by
  have R := roundOf_ok (n := n) (p := p) (d := d) (k := k) I.len.symm hg (fun v => by rw [I.bal v]; exact Int.zero_emod _) hk hf
  unfold turn
  revert R
  generalize roundOf n arcs p d k = f
  intro R
  have hlen : ∀ q ∈ f, q.1 < p.length := fun q hq => by rw [I.len]; exact (R.ok q hq).1
  obtain ⟨m1, m2, m3⟩ := fold_min (dist p d) f d
  have step_le : ∀ q ∈ f, stepOf p d f ≤ dist p d q := m1
  obtain ⟨q0, hq0, e0⟩ : ∃ q ∈ f, stepOf p d f = dist p d q := by
    rcases m3 with m3 | m3
    · exfalso
      cases hf' : f with
      | nil => exact R.ne hf'
      | cons q r =>
        have hq : q ∈ f := by rw [hf']; exact List.mem_cons_self
        have a := step_le q hq
        have b := (dist_frac hd (R.ok q hq).2.1 (R.ok q hq).2.2).2.1
        have c : stepOf p d f = d := m3
        omega
    · exact m3
  have d0 := dist_frac hd (R.ok q0 hq0).2.1 (R.ok q0 hq0).2.2
  have inn := applyR_in (stepOf p d f) f p R.nd hlen
  have out := applyR_out (stepOf p d f) f p
  have key : ∀ j, j < arcs.length → (part (applyR p (stepOf p d f) f) j = part p j) ∨ ∃ q ∈ f, q.1 = j ∧ part (applyR p (stepOf p d f) f) j = part p j + q.2 * stepOf p d f := fun j _ => by
    by_cases c : j ∈ f.map (·.1)
    · obtain ⟨q, hq, e⟩ := List.mem_map.mp c
      exact .inr ⟨q, hq, e, by rw [← e]; exact inn q hq⟩
    · exact .inl (out j c)
  have stays : ∀ j, j < arcs.length → frac (applyR p (stepOf p d f) f) d j = true → frac p d j = true := fun j hj h => by
    rcases key j hj with e | ⟨q, hq, e, _⟩
    · unfold frac at h ⊢
      rw [e] at h
      exact h
    · rw [← e]
      exact (R.ok q hq).2.1
  refine ⟨⟨by rw [applyR_len]; exact I.len, fun v => ?_, fun j hj => ?_, fun j hj => ?_⟩, stays, ?_⟩
  · rw [applyR_net arcs _ v f p I.len.symm fun q hq => (R.ok q hq).1, R.bal v, I.bal v]
    omega
  · rcases key j hj with e | ⟨q, hq, e, e2⟩
    · rw [e]
      exact I.lo j hj
    · have fr : part p j % d ≠ 0 := by rw [← e]; exact of_decide_eq_true (R.ok q hq).2.1
      have le := step_le q hq
      have lo := I.lo j hj
      rw [e2]
      unfold dist at le
      rcases (R.ok q hq).2.2 with w | w
      · have s0 : 0 < stepOf p d f := by rw [e0]; exact d0.1
        rw [w]
        omega
      · rw [w, e] at le
        rw [w]
        exact down_le hd fr lo le
  · rcases key j hj with e | ⟨q, hq, e, e2⟩
    · rw [e]
      exact I.hi j hj
    · have fr : part p j % d ≠ 0 := by rw [← e]; exact of_decide_eq_true (R.ok q hq).2.1
      have le := step_le q hq
      have hi := I.hi j hj
      rw [e2]
      unfold dist at le
      rcases (R.ok q hq).2.2 with w | w
      · rw [w, e] at le
        rw [w]
        exact up_le hd fr hi le
      · have s0 : 0 < stepOf p d f := by rw [e0]; exact d0.1
        rw [w]
        omega
  · refine filter_lt _ (fun j hj h => stays j (List.mem_range.mp hj) h) ⟨q0.1, List.mem_range.mpr (R.ok q0 hq0).1, (R.ok q0 hq0).2.1, ?_⟩
    unfold frac
    rw [inn q0 hq0, e0]
    exact decide_eq_false (fun z => z d0.2.2)

/-! ### rounding -/
def inner (n : Nat) (arcs : List Arc) (d : Int) : Nat → List Int → Nat → List Int
  | 0, p, _ => p
  | f + 1, p, k => if frac p d k then inner n arcs d f (turn n arcs d p k) k else p
theorem inner_ok {n : Nat} {arcs : List Arc} {am : List Int} {d : Int} (hd : 0 < d) (hg : ∀ k, k < arcs.length → Good n (arcOf arcs k)) {k : Nat} (hk : k < arcs.length) :
    ∀ (f : Nat) (p : List Int), Inv arcs am d p → fracs arcs.length p d ≤ f → Inv arcs am d (inner n arcs d f p k) ∧ (∀ j, j < arcs.length → frac (inner n arcs d f p k) d j = true → frac p d j = true) ∧ frac (inner n arcs d f p k) d k = false
  | 0, p, I, h => by
    refine ⟨I, fun j _ h => h, ?_⟩
    show frac p d k = false
    unfold fracs at h
    have e := List.eq_nil_of_length_eq_zero (Nat.le_zero.mp h)
    rw [List.filter_eq_nil_iff] at e
    have := e k (List.mem_range.mpr hk)
    simpa using this
  | f + 1, p, I, h => by
    unfold inner
    by_cases c : frac p d k = true
    · rw [if_pos c]
      obtain ⟨I2, h2, h3⟩ := turn_ok hd hg I hk c
      obtain ⟨I3, h4, h5⟩ := inner_ok hd hg hk f _ I2 (by omega)
      exact ⟨I3, fun j hj z => h2 j hj (h4 j hj z), h5⟩
    · rw [if_neg c]
      exact ⟨I, fun j _ h => h, by simpa using c⟩
def outer (n : Nat) (arcs : List Arc) (d : Int) (am : List Int) (i : Nat) : List Int := (List.range i).foldl (fun p k => inner n arcs d (arcs.length + 1) p k) am
theorem outer_succ (n : Nat) (arcs : List Arc) (d : Int) (am : List Int) (i : Nat) : outer n arcs d am (i + 1) = inner n arcs d (arcs.length + 1) (outer n arcs d am i) i := by
  unfold outer
  rw [List.range_succ, List.foldl_append]
  rfl
theorem fracs_le (m : Nat) (p : List Int) (d : Int) : fracs m p d ≤ m := by
  unfold fracs
  exact Nat.le_trans (List.length_filter_le _ _) (by simp)
theorem inv0 {arcs : List Arc} {am : List Int} {d : Int} (hd : 0 < d) (hl : arcs.length = am.length) (hb : ∀ v, net arcs am v = 0) : Inv arcs am d am := by
  refine ⟨hl.symm, hb, fun k _ => Int.ediv_mul_le _ (by omega), fun k _ => ?_⟩
  have := Int.ediv_mul_le (-(part am k)) (b := d) (by omega)
  rw [Int.neg_mul]
  omega
theorem outer_ok {n : Nat} {arcs : List Arc} {am : List Int} {d : Int} (hd : 0 < d) (hg : ∀ k, k < arcs.length → Good n (arcOf arcs k)) (hl : arcs.length = am.length) (hb : ∀ v, net arcs am v = 0) :
    ∀ i, i ≤ arcs.length → Inv arcs am d (outer n arcs d am i) ∧ ∀ j, j < i → frac (outer n arcs d am i) d j = false
  | 0, _ => ⟨inv0 hd hl hb, fun j h => by omega⟩
  | i + 1, hi => by
    obtain ⟨I, h⟩ := outer_ok hd hg hl hb i (by omega)
    rw [outer_succ]
    obtain ⟨I2, h2, h3⟩ := inner_ok hd hg (k := i) (by omega) (arcs.length + 1) _ I (Nat.le_trans (fracs_le _ _ _) (by omega))
    refine ⟨I2, fun j hj => ?_⟩
    by_cases c : j = i
    · rw [c]; exact h3
    · have := h j (by omega)
      cases z : frac (inner n arcs d (arcs.length + 1) (outer n arcs d am i) i) d j with
      | false => rfl
      | true => rw [h2 j (by omega) z] at this; exact this
def roundedF (n : Nat) (arcs : List Arc) (am : List Int) (d : Int) : List Int := (outer n arcs d am arcs.length).map (· / d)
theorem net_scale (d v : Int) : ∀ (as : List Arc) (xs : List Int), (∀ k, k < xs.length → part xs k % d = 0) → d * net as (xs.map (· / d)) v = net as xs v
  | [], _, _ => by simp [net]
  | _ :: _, [], _ => by simp [net]
  | p :: as, x :: xs, h => by
    have ih := net_scale d v as xs fun k hk => h (k + 1) (by simpa using hk)
    have h0 : x % d = 0 := h 0 (by simp)
    have e : d * (x / d) = x := Int.mul_ediv_cancel' (Int.dvd_of_emod_eq_zero h0)
    simp only [List.map_cons, net, Int.mul_add, ih, ← Int.mul_assoc, e]
theorem rounded_ok {n : Nat} {arcs : List Arc} {am : List Int} {d : Int} (hd : 0 < d) (hg : ∀ k, k < arcs.length → Good n (arcOf arcs k)) (hl : arcs.length = am.length) (hb : ∀ v, net arcs am v = 0) :
    (roundedF n arcs am d).length = arcs.length ∧ (∀ k, k < arcs.length → part am k - d < part (roundedF n arcs am d) k * d ∧ part (roundedF n arcs am d) k * d < part am k + d) ∧ ∀ v, net arcs (roundedF n arcs am d) v = 0 := by
  obtain ⟨I, h⟩ := outer_ok hd hg hl hb arcs.length (Nat.le_refl _)
  unfold roundedF
  revert I h
  generalize outer n arcs d am arcs.length = p
  intro I h
  have whole : ∀ k, k < arcs.length → part p k % d = 0 := fun k hk => by
    have := of_decide_eq_false (h k hk)
    exact Classical.byContradiction this
  refine ⟨by rw [List.length_map, I.len], fun k hk => ?_, fun v => ?_⟩
  · have e : part (p.map (· / d)) k = part p k / d := by
      refine part_get ?_
      rw [List.getElem?_map, get_part (by rw [I.len]; exact hk)]
      rfl
    rw [e, Int.ediv_mul_cancel (Int.dvd_of_emod_eq_zero (whole k hk))]
    have lo := I.lo k hk
    have hi := I.hi k hk
    have a := Int.lt_ediv_add_one_mul_self (part am k) hd
    have b := Int.lt_ediv_add_one_mul_self (-(part am k)) hd
    rw [Int.add_mul] at a b
    rw [Int.neg_mul] at hi
    omega
  · have := net_scale d v arcs p fun k hk => whole k (by rw [I.len] at hk; exact hk)
    rw [I.bal v] at this
    rcases Int.mul_eq_zero.mp this with z | z
    · omega
    · exact z

/-! ### networks that are drawn -/
structure NetOk (n : Nat) (d : Int) (c : Nat) (as : List Arc) (xs : List Int) : Prop where
  len : as.length = xs.length
  good : ∀ k, k < as.length → Good n (arcOf as k)
  few : as.length ≤ c
  some : 0 < c → 0 < as.length
  size : ∀ k, k < xs.length → -(2 * d * c) ≤ part xs k ∧ part xs k ≤ 2 * d * c
theorem NetOk.zero (n : Nat) (d : Int) : NetOk n d 0 [] [] := ⟨rfl, fun k h => by simp at h, by simp, fun h => absurd h (by omega), fun k h => by simp at h⟩
theorem NetOk.more {n c : Nat} {d : Int} {as : List Arc} {xs : List Int} (h : NetOk n d c as xs) (hc : 0 < c ) (hd : 0 < d) {c' : Nat} (le : c ≤ c') : NetOk n d c' as xs := by
  refine ⟨h.len, h.good, Nat.le_trans h.few le, fun _ => h.some hc, fun k hk => ?_⟩
  have := h.size k hk
  have m : 2 * d * (c : Int) ≤ 2 * d * (c' : Int) := Int.mul_le_mul_of_nonneg_left (by omega) (by omega)
  omega
theorem arcOf_snoc_lt {as : List Arc} {e : Arc} {k : Nat} (h : k < as.length) : arcOf (as ++ [e]) k = arcOf as k := by
  refine arc_get ?_
  rw [List.getElem?_append_left h, get_arc h]
theorem arcOf_snoc {as : List Arc} {e : Arc} : arcOf (as ++ [e]) as.length = e := by
  refine arc_get ?_
  rw [List.getElem?_append_right (Nat.le_refl _), Nat.sub_self]
  rfl
theorem part_snoc_lt {xs : List Int} {x : Int} {k : Nat} (h : k < xs.length) : part (xs ++ [x]) k = part xs k := by
  refine part_get ?_
  rw [List.getElem?_append_left h, get_part h]
theorem part_snoc {xs : List Int} {x : Int} : part (xs ++ [x]) xs.length = x := by
  refine part_get ?_
  rw [List.getElem?_append_right (Nat.le_refl _), Nat.sub_self]
  rfl
/-- an arc's amount grows -/
theorem NetOk.old {n c : Nat} {d pt : Int} {as : List Arc} {xs : List Int} (h : NetOk n d c as xs) (hd : 0 < d) (h1 : -(2 * d) ≤ pt) (h2 : pt ≤ 2 * d) {k : Nat} (hk : k < as.length) :
    NetOk n d (c + 1) as (xs.set k (part xs k + pt)) ∧ ∀ v, net as (xs.set k (part xs k + pt)) v = net as xs v + pt * dlt (arcOf as k) v := by
  have e : 2 * d * ((c + 1 : Nat) : Int) = 2 * d * c + 2 * d := by
    rw [Int.natCast_add, Int.mul_add]
    omega
  have p : 0 ≤ 2 * d * (c : Int) := Int.mul_nonneg (by omega) (by omega)
  refine ⟨⟨by rw [List.length_set]; exact h.len, h.good, by have := h.few; omega, fun _ => by omega, fun j hj => ?_⟩, fun v => ?_⟩
  · rw [List.length_set] at hj
    rw [e]
    have a := h.size j hj
    by_cases c : k = j
    · rw [c, part_set_same hj]
      omega
    · rw [part_set_ne c]
      omega
  · rw [net_set as xs k _ v h.len (by rw [← h.len]; exact hk)]
    have : part xs k + pt - part xs k = pt := by omega
    rw [this]
/-- a new arc with this amount -/
theorem NetOk.new {n c : Nat} {d pt : Int} {as : List Arc} {xs : List Int} {e : Arc} (h : NetOk n d c as xs) (hd : 0 < d) (h1 : -(2 * d) ≤ pt) (h2 : pt ≤ 2 * d) (hg : Good n e) :
    NetOk n d (c + 1) (as ++ [e]) (xs ++ [pt]) ∧ ∀ v, net (as ++ [e]) (xs ++ [pt]) v = net as xs v + pt * dlt e v := by
  have ee : 2 * d * ((c + 1 : Nat) : Int) = 2 * d * c + 2 * d := by
    rw [Int.natCast_add, Int.mul_add]
    omega
  have p : 0 ≤ 2 * d * (c : Int) := Int.mul_nonneg (by omega) (by omega)
  refine ⟨⟨by simp [h.len], fun k hk => ?_, by have := h.few; simp; omega, fun _ => by simp, fun j hj => ?_⟩, fun v => net_snoc as xs e pt v h.len⟩
  · by_cases c : k < as.length
    · rw [arcOf_snoc_lt c]
      exact h.good k c
    · have e : k = as.length := by
        rw [List.length_append, List.length_singleton] at hk
        omega
      rw [e, arcOf_snoc]
      exact hg
  · rw [ee]
    by_cases c : j < xs.length
    · rw [part_snoc_lt c]
      have := h.size j c
      omega
    · have e : j = xs.length := by
        rw [List.length_append, List.length_singleton] at hj
        omega
      rw [e, part_snoc]
      omega
/-- the nodes in a drawn order -/
structure Ord (n : Nat) (os : List Int) : Prop where
  len : os.length = n
  nd : os.Nodup
  in_ : ∀ v ∈ os, 0 ≤ v ∧ v < n
theorem Ord.base (n : Nat) : Ord n ((List.range n).map fun (i : Nat) => (i : Int)) := by
  refine ⟨by simp, ?_, fun v hv => ?_⟩
  · exact List.Pairwise.map _ (fun a b h e => h (by have e2 : (a : Int) = (b : Int) := e; omega)) (List.nodup_iff_pairwise_ne.mp List.nodup_range)
  · obtain ⟨i, hi, rfl⟩ := List.mem_map.mp hv
    have := List.mem_range.mp hi
    omega
theorem Ord.swap {n : Nat} {os : List Int} (h : Ord n os) {i j : Nat} (hi : i < n) (hj : j < n) : Ord n ((os.set i (part os j)).set j (part os i)) := by
  have li : i < os.length := by rw [h.len]; exact hi
  have lj : j < os.length := by rw [h.len]; exact hj
  have e1 : part os i = os[i] := part_get (List.getElem?_eq_getElem li)
  have e2 : part os j = os[j] := part_get (List.getElem?_eq_getElem lj)
  have p : ((os.set i os[j]).set j os[i]).Perm os := List.set_set_perm li lj
  rw [e1, e2]
  exact ⟨by rw [List.length_set, List.length_set]; exact h.len, p.nodup_iff.mpr h.nd, fun v hv => h.in_ v (p.mem_iff.mp hv)⟩
theorem Ord.ne {n : Nat} {os : List Int} (h : Ord n os) {i j : Nat} (hi : i < n) (hj : j < n) (ne : i ≠ j) : part os i ≠ part os j := by
  intro e
  have li : i < os.length := by rw [h.len]; exact hi
  have lj : j < os.length := by rw [h.len]; exact hj
  have e1 : part os i = os[i] := part_get (List.getElem?_eq_getElem li)
  have e2 : part os j = os[j] := part_get (List.getElem?_eq_getElem lj)
  rw [e1, e2] at e
  exact ne ((List.getElem_inj h.nd).mp e)
theorem Ord.at {n : Nat} {os : List Int} (h : Ord n os) {i : Nat} (hi : i < n) : 0 ≤ part os i ∧ part os i < n := by
  have li : i < os.length := by rw [h.len]; exact hi
  exact h.in_ _ (List.mem_of_getElem? (get_part li))
theorem whole_part {d p : Int} (hd : 0 < d) (h1 : -d ≤ p) (h2 : p ≤ 2 * d) : -d ≤ d * (p / d) ∧ d * (p / d) ≤ 2 * d := by
  have a := Int.mul_ediv_self_le (x := p) (k := d) (by omega)
  have b := Int.lt_mul_ediv_self_add (x := p) (k := d) hd
  have c : -1 ≤ p / d := Int.le_ediv_of_mul_le hd (by omega)
  have e := Int.mul_le_mul_of_nonneg_left c (show 0 ≤ d by omega)
  omega
end Cir

/-! # Circulations within bounds, or a cut. Plain Lean -/
namespace Cir

structure Bn (arcs : List Arc) (lo hi x : List Int) : Prop where
  lx : x.length = arcs.length
  ll : lo.length = arcs.length
  lh : hi.length = arcs.length
  bd : ∀ k, k < arcs.length → part lo k ≤ part x k ∧ part x k ≤ part hi k
def leadsTo (arcs : List Arc) (lo hi x : List Int) (v : Int) (a : Nat) : Int :=
  if (arcOf arcs a).1 = v then (if part x a < part hi a then (arcOf arcs a).2 else -1) else if part lo a < part x a then (arcOf arcs a).1 else -1
theorem leads_ok {n : Int} {arcs : List Arc} {lo hi x : List Int} {v : Int} {a : Nat} (hg : Good n (arcOf arcs a)) (ht : touch (arcOf arcs a) v = true) (h : 0 ≤ leadsTo arcs lo hi x v a) :
    ((arcOf arcs a).1 = v ∧ (arcOf arcs a).2 = leadsTo arcs lo hi x v a ∧ part x a < part hi a) ∨ ((arcOf arcs a).2 = v ∧ (arcOf arcs a).1 = leadsTo arcs lo hi x v a ∧ part lo a < part x a) := by
  unfold leadsTo at h ⊢
  by_cases c : (arcOf arcs a).1 = v
  · rw [if_pos c] at h ⊢
    by_cases d : part x a < part hi a
    · rw [if_pos d] at h ⊢
      exact .inl ⟨c, rfl, d⟩
    · rw [if_neg d] at h
      omega
  · rw [if_neg c] at h ⊢
    have c2 : (arcOf arcs a).2 = v := by
      unfold touch at ht
      simpa [c] using ht
    by_cases d : part lo a < part x a
    · rw [if_pos d] at h ⊢
      exact .inr ⟨c2, rfl, d⟩
    · rw [if_neg d] at h
      omega
abbrev Came := List (Int × Int)
def keysOf (came : Came) : List Int := came.map (·.1)
def scanA (arcs : List Arc) (lo hi x : List Int) (v : Int) (came : Came) (a : Nat) : Came :=
  if 0 ≤ leadsTo arcs lo hi x v a ∧ leadsTo arcs lo hi x v a ∉ keysOf came then came ++ [(leadsTo arcs lo hi x v a, (a : Int))] else came
def scanL (arcs : List Arc) (lo hi x : List Int) (v : Int) (row : List Nat) (came : Came) : Came := row.foldl (scanA arcs lo hi x v) came
def reachF (arcs : List Arc) (lo hi x : List Int) (goals : List Int) : Nat → Nat → Came → Came × Int
  | 0, _, came => (came, -1)
  | f + 1, at_, came =>
    if at_ < came.length then
      if part (keysOf came) at_ ∈ goals then (came, part (keysOf came) at_)
      else reachF arcs lo hi x goals f (at_ + 1) (scanL arcs lo hi x (part (keysOf came) at_) (nearOf arcs (part (keysOf came) at_)) came)
    else (came, -1)
structure CameOk (n : Nat) (arcs : List Arc) (lo hi x : List Int) (starts : List Int) (came : Came) : Prop where
  nd : (keysOf came).Nodup
  rng : ∀ v ∈ keysOf came, 0 ≤ v ∧ v < n
  par : ∀ (i : Nat) (p : Int × Int), came[i]? = some p → (p.2 = -1 ∧ p.1 ∈ starts) ∨ ∃ a : Nat, p.2 = (a : Int) ∧ a < arcs.length ∧ ∃ (j : Nat) (q : Int × Int), j < i ∧ came[j]? = some q ∧ leadsTo arcs lo hi x q.1 a = p.1 ∧ touch (arcOf arcs a) q.1 = true
  st : ∀ s ∈ starts, s ∈ keysOf came
theorem keys_get {came : Came} {i : Nat} {p : Int × Int} (h : came[i]? = some p) : (keysOf came)[i]? = some p.1 := by
  unfold keysOf
  rw [List.getElem?_map, h]
  rfl
theorem scanA_ok {n : Nat} {arcs : List Arc} {lo hi x starts : List Int} {came : Came} (hg : ∀ k, k < arcs.length → Good n (arcOf arcs k)) (C : CameOk n arcs lo hi x starts came) {v : Int} (hv : v ∈ keysOf came) {a : Nat} (ha : a ∈ nearOf arcs v) :
    CameOk n arcs lo hi x starts (scanA arcs lo hi x v came a) ∧ (∃ e, scanA arcs lo hi x v came a = came ++ e) ∧ (0 ≤ leadsTo arcs lo hi x v a → leadsTo arcs lo hi x v a ∈ keysOf (scanA arcs lo hi x v came a)) := by
  obtain ⟨hl, ht⟩ := mem_near.mp ha
  unfold scanA
  by_cases c : 0 ≤ leadsTo arcs lo hi x v a ∧ leadsTo arcs lo hi x v a ∉ keysOf came
  · rw [if_pos c]
    have far : 0 ≤ leadsTo arcs lo hi x v a ∧ leadsTo arcs lo hi x v a < n := by
      have g := hg a hl
      rcases leads_ok g ht c.1 with ⟨_, e, _⟩ | ⟨_, e, _⟩
      · rw [← e]; exact g.2.1
      · rw [← e]; exact g.1
    obtain ⟨j, hj⟩ := List.mem_iff_getElem?.mp hv
    have ke : keysOf (came ++ [(leadsTo arcs lo hi x v a, (a : Int))]) = keysOf came ++ [leadsTo arcs lo hi x v a] := by simp [keysOf]
    refine ⟨⟨?_, fun u hu => ?_, fun i p hp => ?_, fun s hs => ?_⟩, ⟨_, rfl⟩, fun _ => ?_⟩
    · rw [ke, List.nodup_append]
      refine ⟨C.nd, by simp, fun y hy z hz => ?_⟩
      rw [List.mem_singleton] at hz
      subst hz
      rintro rfl
      exact c.2 hy
    · rw [ke] at hu
      rcases List.mem_append.mp hu with hu | hu
      · exact C.rng u hu
      · rw [List.mem_singleton] at hu
        rw [hu]
        exact far
    · rcases getElem?_snoc_last hp with ⟨hi', hp⟩ | ⟨hi', rfl⟩
      · rcases C.par i p hp with h | ⟨b, h1, h2, j', q, h3, h4, h5⟩
        · exact .inl h
        · exact .inr ⟨b, h1, h2, j', q, h3, by rw [List.getElem?_append_left (by omega)]; exact h4, h5⟩
      · have jl : j < came.length := by
          have := (List.getElem?_eq_some_iff.mp hj).1
          simpa [keysOf] using this
        have hq := List.getElem?_eq_getElem jl
        have e1 := keys_get hq
        rw [hj] at e1
        have e1 := Option.some.inj e1
        refine .inr ⟨a, rfl, hl, j, came[j], by omega, by rw [List.getElem?_append_left jl]; exact hq, ?_, ?_⟩
        · rw [← e1]
        · rw [← e1]; exact ht
    · rw [ke]
      exact List.mem_append_left _ (C.st s hs)
    · rw [ke]
      exact List.mem_append_right _ (by simp)
  · rw [if_neg c]
    refine ⟨C, ⟨[], by simp⟩, fun h => ?_⟩
    exact Classical.byContradiction fun z => c ⟨h, z⟩
theorem scanL_ok {n : Nat} {arcs : List Arc} {lo hi x starts : List Int} (hg : ∀ k, k < arcs.length → Good n (arcOf arcs k)) {v : Int} : ∀ (row : List Nat) (came : Came), CameOk n arcs lo hi x starts came → v ∈ keysOf came → (∀ a ∈ row, a ∈ nearOf arcs v) →
    CameOk n arcs lo hi x starts (scanL arcs lo hi x v row came) ∧ (∃ e, scanL arcs lo hi x v row came = came ++ e) ∧ ∀ a ∈ row, 0 ≤ leadsTo arcs lo hi x v a → leadsTo arcs lo hi x v a ∈ keysOf (scanL arcs lo hi x v row came)
  | [], came, C, _, _ => ⟨C, ⟨[], by simp [scanL]⟩, fun a h => by simp at h⟩
  | a :: row, came, C, hv, hr => by
    obtain ⟨C1, ⟨e1, h1⟩, h2⟩ := scanA_ok hg C hv (hr a List.mem_cons_self)
    have hv1 : v ∈ keysOf (scanA arcs lo hi x v came a) := by
      rw [h1]
      unfold keysOf
      rw [List.map_append]
      exact List.mem_append_left _ hv
    obtain ⟨C2, ⟨e2, h3⟩, h4⟩ := scanL_ok hg row _ C1 hv1 fun b hb => hr b (List.mem_cons_of_mem _ hb)
    have s : scanL arcs lo hi x v (a :: row) came = scanL arcs lo hi x v row (scanA arcs lo hi x v came a) := rfl
    rw [s]
    refine ⟨C2, ⟨e1 ++ e2, by rw [h3, h1, List.append_assoc]⟩, fun b hb h0 => ?_⟩
    rcases List.mem_cons.mp hb with rfl | hb
    · rw [h3]
      unfold keysOf
      rw [List.map_append]
      exact List.mem_append_left _ (h2 h0)
    · exact h4 b hb h0
/-- what is known behind a search -/
def ReachRes (n : Nat) (arcs : List Arc) (lo hi x starts goals : List Int) (r : Came × Int) : Prop :=
  CameOk n arcs lo hi x starts r.1 ∧ ((r.2 = -1 ∧ (∀ v ∈ keysOf r.1, v ∉ goals) ∧ ∀ v ∈ keysOf r.1, ∀ a ∈ nearOf arcs v, 0 ≤ leadsTo arcs lo hi x v a → leadsTo arcs lo hi x v a ∈ keysOf r.1) ∨ (0 ≤ r.2 ∧ r.2 ∈ goals ∧ r.2 ∈ keysOf r.1))
theorem came_len {n : Nat} {arcs : List Arc} {lo hi x starts : List Int} {came : Came} (C : CameOk n arcs lo hi x starts came) : came.length ≤ n := by
  have := nodup_le n (keysOf came) C.nd C.rng
  simpa [keysOf] using this
theorem reach_done {n : Nat} {arcs : List Arc} {lo hi x starts goals : List Int} {at_ : Nat} {came : Came} (C : CameOk n arcs lo hi x starts came) (hl : came.length ≤ at_)
    (hp : ∀ i, i < at_ → i < came.length → part (keysOf came) i ∉ goals ∧ ∀ a ∈ nearOf arcs (part (keysOf came) i), 0 ≤ leadsTo arcs lo hi x (part (keysOf came) i) a → leadsTo arcs lo hi x (part (keysOf came) i) a ∈ keysOf came) : ReachRes n arcs lo hi x starts goals (came, -1) := by
  have key : ∀ v ∈ keysOf came, v ∉ goals ∧ ∀ a ∈ nearOf arcs v, 0 ≤ leadsTo arcs lo hi x v a → leadsTo arcs lo hi x v a ∈ keysOf came := fun v hv => by
    obtain ⟨i, hi'⟩ := List.mem_iff_getElem?.mp hv
    have il := (List.getElem?_eq_some_iff.mp hi').1
    have il2 : i < came.length := by simpa [keysOf] using il
    have := hp i (by omega) il2
    rw [part_get hi'] at this
    exact this
  exact ⟨C, .inl ⟨rfl, fun v hv => (key v hv).1, fun v hv => (key v hv).2⟩⟩
theorem reach_ok {n : Nat} {arcs : List Arc} {lo hi x starts goals : List Int} (hg : ∀ k, k < arcs.length → Good n (arcOf arcs k)) :
    ∀ (f at_ : Nat) (came : Came), CameOk n arcs lo hi x starts came → n + 1 ≤ f + at_ → (∀ i, i < at_ → i < came.length → part (keysOf came) i ∉ goals ∧ ∀ a ∈ nearOf arcs (part (keysOf came) i), 0 ≤ leadsTo arcs lo hi x (part (keysOf came) i) a → leadsTo arcs lo hi x (part (keysOf came) i) a ∈ keysOf came) →
      ReachRes n arcs lo hi x starts goals (reachF arcs lo hi x goals f at_ came)
  | 0, at_, came, C, hf, hp => reach_done C (by have := came_len C; omega) hp
  | f + 1, at_, came, C, hf, hp => by
    unfold reachF
    by_cases c : at_ < came.length
    · rw [if_pos c]
      have kl : at_ < (keysOf came).length := by simpa [keysOf] using c
      have hm : part (keysOf came) at_ ∈ keysOf came := List.mem_of_getElem? (get_part kl)
      by_cases d : part (keysOf came) at_ ∈ goals
      · rw [if_pos d]
        exact ⟨C, .inr ⟨(C.rng _ hm).1, d, hm⟩⟩
      · rw [if_neg d]
        obtain ⟨C1, ⟨e, h1⟩, h2⟩ := scanL_ok (x := x) hg (nearOf arcs (part (keysOf came) at_)) came C hm fun a ha => ha
        refine reach_ok hg f (at_ + 1) _ C1 (by omega) fun i hii hil => ?_
        have old : ∀ i, i < came.length → part (keysOf (scanL arcs lo hi x (part (keysOf came) at_) (nearOf arcs (part (keysOf came) at_)) came)) i = part (keysOf came) i := fun i hil => by
          rw [h1]
          unfold keysOf
          rw [List.map_append]
          exact part_get (by rw [List.getElem?_append_left (by simpa using hil)]; exact get_part (by simpa using hil))
        have sub : ∀ u, u ∈ keysOf came → u ∈ keysOf (scanL arcs lo hi x (part (keysOf came) at_) (nearOf arcs (part (keysOf came) at_)) came) := fun u hu => by
          rw [h1]
          unfold keysOf
          rw [List.map_append]
          exact List.mem_append_left _ hu
        rw [old i (by omega)]
        by_cases z : i = at_
        · subst z
          exact ⟨d, fun a ha h0 => h2 a ha h0⟩
        · obtain ⟨p1, p2⟩ := hp i (by omega) (by omega)
          exact ⟨p1, fun a ha h0 => sub _ (p2 a ha h0)⟩
    · rw [if_neg c]
      exact reach_done C (by omega) hp
def came0 (starts : List Int) : Came := starts.map fun s => (s, -1)
theorem came0_ok {n : Nat} {arcs : List Arc} {lo hi x starts : List Int} (nd : starts.Nodup) (rng : ∀ v ∈ starts, 0 ≤ v ∧ v < n) : CameOk n arcs lo hi x starts (came0 starts) := by
  have ke : keysOf (came0 starts) = starts := by
    unfold keysOf came0
    rw [List.map_map]
    exact List.map_id starts
  refine ⟨by rw [ke]; exact nd, by rw [ke]; exact rng, fun i p hp => .inl ?_, fun s hs => by rw [ke]; exact hs⟩
  unfold came0 at hp
  rw [List.getElem?_map] at hp
  cases h : starts[i]? with
  | none => rw [h] at hp; cases hp
  | some s =>
    rw [h] at hp
    rw [← Option.some.inj hp]
    exact ⟨rfl, List.mem_of_getElem? h⟩

/-! ### the way back -/
def cameOf (came : Came) (v : Int) : Int := ((came.find? fun p => decide (p.1 = v)).map (·.2)).getD (-1)
theorem cameOf_at {came : Came} (nd : (keysOf came).Nodup) {i : Nat} {p : Int × Int} (h : came[i]? = some p) : cameOf came p.1 = p.2 := by
  unfold cameOf
  cases e : came.find? fun q => decide (q.1 = p.1) with
  | none =>
    have := List.find?_eq_none.mp e p (List.mem_of_getElem? h)
    simp at this
  | some q =>
    have h1 : q.1 = p.1 := by simpa using List.find?_some e
    obtain ⟨j, hj⟩ := List.mem_iff_getElem?.mp (List.mem_of_find?_eq_some e)
    have k1 := keys_get hj
    have k2 := keys_get h
    obtain ⟨l1, g1⟩ := List.getElem?_eq_some_iff.mp k1
    obtain ⟨l2, g2⟩ := List.getElem?_eq_some_iff.mp k2
    have : j = i := (List.getElem_inj nd).mp (g1.trans (h1.trans g2.symm))
    subst this
    rw [hj] at h
    rw [Option.some.inj h]
    rfl
def startF (arcs : List Arc) (came : Came) : Nat → Int → Int
  | 0, v => v
  | f + 1, v => if 0 ≤ cameOf came v then startF arcs came f ((arcOf arcs (cameOf came v).toNat).1 + (arcOf arcs (cameOf came v).toNat).2 - v) else v
def wayF (arcs : List Arc) (lo hi x : List Int) (came : Came) : Nat → Int → Int → List (Nat × Int) → List (Nat × Int) × Int
  | 0, _, most, way => (way, most)
  | f + 1, v, most, way =>
    if 0 ≤ cameOf came v then
      if (arcOf arcs (cameOf came v).toNat).2 = v then
        wayF arcs lo hi x came f (arcOf arcs (cameOf came v).toNat).1 (if part hi (cameOf came v).toNat - part x (cameOf came v).toNat < most then part hi (cameOf came v).toNat - part x (cameOf came v).toNat else most) (way ++ [((cameOf came v).toNat, 1)])
      else wayF arcs lo hi x came f (arcOf arcs (cameOf came v).toNat).2 (if part x (cameOf came v).toNat - part lo (cameOf came v).toNat < most then part x (cameOf came v).toNat - part lo (cameOf came v).toNat else most) (way ++ [((cameOf came v).toNat, -1)])
    else (way, most)
def capOf (lo hi x : List Int) (q : Nat × Int) : Int := if q.2 = 1 then part hi q.1 - part x q.1 else part x q.1 - part lo q.1
/-- the way from a start to the i-th node reached -/
structure WayOk (arcs : List Arc) (lo hi x starts : List Int) (came : Came) (i : Nat) (v s : Int) (w : List (Nat × Int)) : Prop where
  ok : ∀ q ∈ w, q.1 < arcs.length ∧ (q.2 = 1 ∨ q.2 = -1) ∧ 0 < capOf lo hi x q ∧ ∃ (j : Nat) (p : Int × Int), j ≤ i ∧ came[j]? = some p ∧ p.2 = (q.1 : Int)
  nd : (w.map (·.1)).Nodup
  sum : ∀ u, fsum arcs w u = ind v u - ind s u
  st : s ∈ starts
theorem par_inj {n : Nat} {arcs : List Arc} {lo hi x starts : List Int} {came : Came} (hg : ∀ k, k < arcs.length → Good n (arcOf arcs k)) (C : CameOk n arcs lo hi x starts came) {i j : Nat} {p q : Int × Int} {a : Nat} (hi' : came[i]? = some p) (hj : came[j]? = some q) (hp : p.2 = (a : Int)) (hq : q.2 = (a : Int)) : i = j := by
  have get : ∀ {i : Nat} {p : Int × Int}, came[i]? = some p → p.2 = (a : Int) → ∃ (j : Nat) (r : Int × Int), j < i ∧ came[j]? = some r ∧ (((arcOf arcs a).1 = r.1 ∧ (arcOf arcs a).2 = p.1) ∨ ((arcOf arcs a).2 = r.1 ∧ (arcOf arcs a).1 = p.1)) := fun {i p} h e => by
    rcases C.par i p h with ⟨h1, _⟩ | ⟨b, h1, h2, j, r, h3, h4, h5, h6⟩
    · omega
    · have : b = a := by omega
      subst this
      have p0 : 0 ≤ p.1 := (C.rng p.1 (List.mem_of_getElem? (keys_get h))).1
      rcases leads_ok (hg b h2) h6 (by rw [h5]; exact p0) with ⟨e1, e2, _⟩ | ⟨e1, e2, _⟩
      · exact ⟨j, r, h3, h4, .inl ⟨e1, by rw [e2, h5]⟩⟩
      · exact ⟨j, r, h3, h4, .inr ⟨e1, by rw [e2, h5]⟩⟩
  have same : ∀ {i j : Nat} {p q : Int × Int}, came[i]? = some p → came[j]? = some q → p.1 = q.1 → i = j := fun {i j p q} h1 h2 e => by
    have k1 := keys_get h1
    have k2 := keys_get h2
    obtain ⟨l1, g1⟩ := List.getElem?_eq_some_iff.mp k1
    obtain ⟨l2, g2⟩ := List.getElem?_eq_some_iff.mp k2
    exact (List.getElem_inj C.nd).mp (g1.trans (e.trans g2.symm))
  obtain ⟨i2, r, a1, a2, a3⟩ := get hi' hp
  obtain ⟨j2, t, b1, b2, b3⟩ := get hj hq
  by_cases c : p.1 = q.1
  · exact same hi' hj c
  · have e1 : r.1 = q.1 := by rcases a3 with ⟨x1, x2⟩ | ⟨x1, x2⟩ <;> rcases b3 with ⟨y1, y2⟩ | ⟨y1, y2⟩ <;> omega
    have e2 : t.1 = p.1 := by rcases a3 with ⟨x1, x2⟩ | ⟨x1, x2⟩ <;> rcases b3 with ⟨y1, y2⟩ | ⟨y1, y2⟩ <;> omega
    have := same a2 hj e1
    have := same b2 hi' e2
    omega
theorem way_ok {n : Nat} {arcs : List Arc} {lo hi x starts : List Int} {came : Came} (hg : ∀ k, k < arcs.length → Good n (arcOf arcs k)) (C : CameOk n arcs lo hi x starts came) :
    ∀ (f i : Nat) (p : Int × Int), came[i]? = some p → i < f → ∃ w, WayOk arcs lo hi x starts came i p.1 (startF arcs came f p.1) w ∧ ∀ (most : Int) (way : List (Nat × Int)),
      (wayF arcs lo hi x came f p.1 most way).1 = way ++ w ∧ (wayF arcs lo hi x came f p.1 most way).2 ≤ most ∧ (∀ q ∈ w, (wayF arcs lo hi x came f p.1 most way).2 ≤ capOf lo hi x q) ∧ (0 < most → 0 < (wayF arcs lo hi x came f p.1 most way).2)
  | 0, i, p, _, h => by omega
  | f + 1, i, p, hi', hf => by
    have ce := cameOf_at C.nd hi'
    rcases C.par i p hi' with ⟨h1, h2⟩ | ⟨a, h1, h2, j, r, h3, h4, h5, h6⟩
    · refine ⟨[], ⟨fun q h => by simp at h, by simp, fun u => ?_, ?_⟩, fun most way => ?_⟩
      · unfold startF
        rw [ce, h1, if_neg (by omega)]
        simp [fsum]
      · unfold startF
        rw [ce, h1, if_neg (by omega)]
        exact h2
      · unfold wayF
        rw [ce, h1, if_neg (by omega)]
        exact ⟨by simp, Int.le_refl _, fun q h => by simp at h, fun h => h⟩
    · have p0 : 0 ≤ p.1 := (C.rng p.1 (List.mem_of_getElem? (keys_get hi'))).1
      have g := hg a h2
      obtain ⟨w, W, hw⟩ := way_ok hg C f j r h4 (by omega)
      have ea : (cameOf came p.1).toNat = a := by rw [ce, h1]; omega
      have c0 : 0 ≤ cameOf came p.1 := by rw [ce, h1]; omega
      have old : ∀ q ∈ w, q.1 ≠ a := fun q hq e => by
        obtain ⟨_, _, _, j2, p2, k1, k2, k3⟩ := W.ok q hq
        have := par_inj hg C k2 hi' (by rw [k3, e]) h1
        omega
      have mk : ∀ sg : Int, (sg = 1 ∨ sg = -1) → 0 < capOf lo hi x (a, sg) → (∀ u, sg * dlt (arcOf arcs a) u = ind p.1 u - ind r.1 u) → startF arcs came (f + 1) p.1 = startF arcs came f r.1 →
          WayOk arcs lo hi x starts came i p.1 (startF arcs came (f + 1) p.1) ((a, sg) :: w) := fun sg h7 h8 h9 h10 => by
        rw [h10]
        refine ⟨fun q hq => ?_, ?_, fun u => ?_, W.st⟩
        · rcases List.mem_cons.mp hq with rfl | hq
          · exact ⟨h2, h7, h8, i, p, Nat.le_refl _, hi', h1⟩
          · obtain ⟨o1, o2, o3, j2, p2, k1, k2, k3⟩ := W.ok q hq
            exact ⟨o1, o2, o3, j2, p2, by omega, k2, k3⟩
        · rw [List.map_cons, List.nodup_cons]
          refine ⟨fun hm => ?_, W.nd⟩
          obtain ⟨q, hq, e⟩ := List.mem_map.mp hm
          exact old q hq e
        · simp only [fsum]
          rw [h9 u, W.sum u]
          omega
      have sf : startF arcs came (f + 1) p.1 = startF arcs came f ((arcOf arcs a).1 + (arcOf arcs a).2 - p.1) := by
        rw [startF, if_pos c0, ea]
      rcases leads_ok g h6 (by rw [h5]; exact p0) with ⟨e1, e2, e3⟩ | ⟨e1, e2, e3⟩
      · rw [h5] at e2
        refine ⟨(a, 1) :: w, mk 1 (.inl rfl) (by unfold capOf; rw [if_pos rfl]; dsimp only; omega) (fun u => by unfold dlt; rw [e1, e2]; omega) (by rw [sf]; congr 1; omega), fun most way => ?_⟩
        have un : wayF arcs lo hi x came (f + 1) p.1 most way = wayF arcs lo hi x came f r.1 (if part hi a - part x a < most then part hi a - part x a else most) (way ++ [(a, 1)]) := by
          rw [wayF, if_pos c0, ea, if_pos e2, e1]
        rw [un]
        obtain ⟨w1, w2, w3, w4⟩ := hw (if part hi a - part x a < most then part hi a - part x a else most) (way ++ [(a, 1)])
        have m1 : (if part hi a - part x a < most then part hi a - part x a else most) ≤ most ∧ (if part hi a - part x a < most then part hi a - part x a else most) ≤ part hi a - part x a ∧ (0 < most → 0 < (if part hi a - part x a < most then part hi a - part x a else most)) := by split <;> omega
        refine ⟨by rw [w1, List.append_assoc]; rfl, by omega, fun q hq => ?_, fun h => w4 (m1.2.2 h)⟩
        rcases List.mem_cons.mp hq with rfl | hq
        · unfold capOf
          rw [if_pos rfl]
          dsimp only
          omega
        · exact w3 q hq
      · rw [h5] at e2
        have ne : (arcOf arcs a).2 ≠ p.1 := fun z => g.2.2 (by rw [z, e2])
        refine ⟨(a, -1) :: w, mk (-1) (.inr rfl) (by unfold capOf; rw [if_neg (fun z => absurd (show (-1 : Int) = 1 from z) (by decide))]; dsimp only; omega) (fun u => by unfold dlt; rw [e1, e2]; omega) (by rw [sf]; congr 1; omega), fun most way => ?_⟩
        have un : wayF arcs lo hi x came (f + 1) p.1 most way = wayF arcs lo hi x came f r.1 (if part x a - part lo a < most then part x a - part lo a else most) (way ++ [(a, -1)]) := by
          rw [wayF, if_pos c0, ea, if_neg ne, e1]
        rw [un]
        obtain ⟨w1, w2, w3, w4⟩ := hw (if part x a - part lo a < most then part x a - part lo a else most) (way ++ [(a, -1)])
        have m1 : (if part x a - part lo a < most then part x a - part lo a else most) ≤ most ∧ (if part x a - part lo a < most then part x a - part lo a else most) ≤ part x a - part lo a ∧ (0 < most → 0 < (if part x a - part lo a < most then part x a - part lo a else most)) := by split <;> omega
        refine ⟨by rw [w1, List.append_assoc]; rfl, by omega, fun q hq => ?_, fun h => w4 (m1.2.2 h)⟩
        rcases List.mem_cons.mp hq with rfl | hq
        · unfold capOf
          rw [if_neg (fun z => absurd (show (-1 : Int) = 1 from z) (by decide))]
          dsimp only
          omega
        · exact w3 q hq
/-- a way is pushed -/
theorem push_ok {arcs : List Arc} {lo hi x starts : List Int} {came : Came} {i : Nat} {v s : Int} {w : List (Nat × Int)} (B : Bn arcs lo hi x) (W : WayOk arcs lo hi x starts came i v s w) {m : Int} (h0 : 0 ≤ m) (hm : ∀ q ∈ w, m ≤ capOf lo hi x q) :
    Bn arcs lo hi (applyR x m w) ∧ ∀ u, net arcs (applyR x m w) u = net arcs x u + m * (ind v u - ind s u) := by
  have hl : ∀ q ∈ w, q.1 < x.length := fun q hq => by rw [B.lx]; exact (W.ok q hq).1
  refine ⟨⟨by rw [applyR_len, B.lx], B.ll, B.lh, fun k hk => ?_⟩, fun u => ?_⟩
  · have b := B.bd k hk
    by_cases c : k ∈ w.map (·.1)
    · obtain ⟨q, hq, rfl⟩ := List.mem_map.mp c
      rw [applyR_in m w x W.nd hl q hq]
      have cap := hm q hq
      unfold capOf at cap
      rcases (W.ok q hq).2.1 with e | e
      · rw [e] at cap ⊢
        rw [if_pos rfl] at cap
        omega
      · rw [e] at cap ⊢
        rw [if_neg (by decide)] at cap
        omega
    · rw [applyR_out m w x k c]
      exact b
  · rw [applyR_net arcs m u w x B.lx.symm fun q hq => (W.ok q hq).1, W.sum u]

/-! ### settling -/
def posN (sp : List Int) : List Nat := (List.range sp.length).filter fun k => decide (0 < part sp k)
def negN (sp : List Int) : List Nat := (List.range sp.length).filter fun k => decide (part sp k < 0)
def ints_ (l : List Nat) : List Int := l.map fun (k : Nat) => (k : Int)
def sortL (l : List Int) : List Int := l.mergeSort (fun a b => decide (a ≤ b))
theorem asc_uniq : ∀ {l m : List Int}, l.Pairwise (· < ·) → m.Pairwise (· < ·) → (∀ x, x ∈ l ↔ x ∈ m) → l = m
  | [], [], _, _, _ => rfl
  | [], y :: m, _, _, h => by have := (h y).mpr List.mem_cons_self; simp at this
  | x :: l, [], _, _, h => by have := (h x).mp List.mem_cons_self; simp at this
  | x :: l, y :: m, hl, hm, h => by
    rw [List.pairwise_cons] at hl hm
    have e : x = y := by
      have h1 := (h x).mp List.mem_cons_self
      have h2 := (h y).mpr List.mem_cons_self
      rcases List.mem_cons.mp h1 with a | a
      · exact a
      · rcases List.mem_cons.mp h2 with b | b
        · exact b.symm
        · have := hm.1 x a
          have := hl.1 y b
          omega
    subst e
    congr 1
    refine asc_uniq hl.2 hm.2 fun z => ⟨fun hz => ?_, fun hz => ?_⟩
    · rcases List.mem_cons.mp ((h z).mp (List.mem_cons_of_mem _ hz)) with a | a
      · have := hl.1 z hz
        omega
      · exact a
    · rcases List.mem_cons.mp ((h z).mpr (List.mem_cons_of_mem _ hz)) with a | a
      · have := hm.1 z hz
        omega
      · exact a
theorem sortL_ok {l : List Int} (nd : l.Nodup) : (sortL l).Pairwise (· < ·) ∧ ∀ x, x ∈ sortL l ↔ x ∈ l := by
  have p : (sortL l).Perm l := List.mergeSort_perm _ _
  have s : (sortL l).Pairwise (fun a b => decide (a ≤ b) = true) := List.pairwise_mergeSort (fun a b c h1 h2 => by simp at *; omega) (fun a b => by simp; omega) l
  refine ⟨?_, fun x => p.mem_iff⟩
  have nd2 : (sortL l).Pairwise (· ≠ ·) := p.nodup_iff.mpr nd
  refine (s.and nd2).imp fun {a b} h => ?_
  have := of_decide_eq_true h.1
  have := h.2
  omega
/-- any ascending arrangement is this one -/
theorem sortL_eq {l m : List Int} (nd : l.Nodup) (hp : m.Perm l) (hs : m.Pairwise (· ≤ ·)) : m = sortL l := by
  have nd2 : m.Pairwise (· ≠ ·) := hp.nodup_iff.mpr nd
  have sm : m.Pairwise (· < ·) := (hs.and nd2).imp fun {a b} h => by
    have := h.1
    have := h.2
    omega
  exact asc_uniq sm (sortL_ok nd).1 fun x => (hp.mem_iff).trans ((sortL_ok nd).2 x).symm
structure SetSt where
  x : List Int
  sp : List Int
  cut : Option (List Int)
def setWay (n : Nat) (arcs : List Arc) (lo hi x sp : List Int) (r : Came × Int) : List (Nat × Int) × Int :=
  wayF arcs lo hi x r.1 (n + 1) r.2 (if -part sp r.2.toNat < part sp (startF arcs r.1 (n + 1) r.2).toNat then -part sp r.2.toNat else part sp (startF arcs r.1 (n + 1) r.2).toNat) []
def setSpare (sp : List Int) (s g m : Int) : List Int := (sp.set s.toNat (part sp s.toNat - m)).set g.toNat (part (sp.set s.toNat (part sp s.toNat - m)) g.toNat + m)
def setReach (n : Nat) (arcs : List Arc) (lo hi x sp : List Int) : Came × Int := reachF arcs lo hi x (ints_ (negN sp)) (n + 1) 0 (came0 (ints_ (posN sp)))
def settleF (n : Nat) (arcs : List Arc) (lo hi : List Int) : Nat → List Int → List Int → SetSt
  | 0, x, sp => ⟨x, sp, none⟩
  | f + 1, x, sp =>
    if posN sp = [] then ⟨x, sp, none⟩
    else if (setReach n arcs lo hi x sp).2 < 0 then ⟨x, sp, some (sortL (keysOf (setReach n arcs lo hi x sp).1))⟩
    else settleF n arcs lo hi f (applyR x (setWay n arcs lo hi x sp (setReach n arcs lo hi x sp)).2 (setWay n arcs lo hi x sp (setReach n arcs lo hi x sp)).1)
      (setSpare sp (startF arcs (setReach n arcs lo hi x sp).1 (n + 1) (setReach n arcs lo hi x sp).2) (setReach n arcs lo hi x sp).2 (setWay n arcs lo hi x sp (setReach n arcs lo hi x sp)).2)
def posSum (sp : List Int) : Nat := (sp.map Int.toNat).sum
def excess (arcs : List Arc) (lo hi : List Int) (S : List Int) : Int :=
  ((List.range arcs.length).map fun k => if (arcOf arcs k).1 ∉ S ∧ (arcOf arcs k).2 ∈ S then part lo k else if (arcOf arcs k).1 ∈ S ∧ (arcOf arcs k).2 ∉ S then -part hi k else 0).sum
def netS (arcs : List Arc) (x : List Int) (S : List Int) : Int := (S.map fun v => net arcs x v).sum
def inS (S : List Int) (v : Int) : Int := if v ∈ S then 1 else 0
theorem ind_list (v : Int) : ∀ S : List Int, S.Nodup → (S.map fun u => ind v u).sum = inS S v
  | [], _ => rfl
  | u :: S, nd => by
    rw [List.nodup_cons] at nd
    rw [List.map_cons, List.sum_cons, ind_list v S nd.2]
    unfold ind inS
    by_cases c : v = u
    · subst c
      rw [if_pos rfl, if_neg nd.1, if_pos List.mem_cons_self]
      rfl
    · rw [if_neg c]
      by_cases d : v ∈ S
      · rw [if_pos d, if_pos (List.mem_cons_of_mem _ d)]; rfl
      · rw [if_neg d, if_neg]
        · rfl
        · intro h
          rcases List.mem_cons.mp h with h | h
          · exact c h
          · exact d h
theorem net_list (S : List Int) (nd : S.Nodup) : ∀ (as : List Arc) (x : List Int), as.length = x.length → netS as x S = ((List.range as.length).map fun k => part x k * (inS S (arcOf as k).2 - inS S (arcOf as k).1)).sum
  | [], [], _ => by
    unfold netS
    simp [net]
    induction S with
    | nil => rfl
    | cons u S ih => rw [List.nodup_cons] at nd; simp [ih nd.2]
  | p :: as, y :: x, hl => by
    have ih := net_list S nd as x (by simpa using hl)
    rw [List.length_cons, List.range_succ_eq_map, List.map_cons, List.sum_cons, List.map_map]
    have e : ((fun k => part (y :: x) k * (inS S (arcOf (p :: as) k).2 - inS S (arcOf (p :: as) k).1)) ∘ Nat.succ) = fun k => part x k * (inS S (arcOf as k).2 - inS S (arcOf as k).1) := rfl
    rw [e, ← ih]
    unfold netS
    have split : ∀ T : List Int, (T.map fun v => net (p :: as) (y :: x) v).sum = y * ((T.map fun u => ind p.2 u).sum - (T.map fun u => ind p.1 u).sum) + (T.map fun v => net as x v).sum := by
      intro T
      induction T with
      | nil => simp
      | cons u T ihT =>
        rw [List.map_cons, List.map_cons, List.map_cons, List.map_cons, List.sum_cons, List.sum_cons, List.sum_cons, List.sum_cons, ihT]
        have e : y * ((ind p.2 u + (T.map fun u => ind p.2 u).sum) - (ind p.1 u + (T.map fun u => ind p.1 u).sum)) = y * (ind p.2 u - ind p.1 u) + y * ((T.map fun u => ind p.2 u).sum - (T.map fun u => ind p.1 u).sum) := by
          rw [← Int.mul_add]
          congr 1
          omega
        rw [e]
        simp only [net, dlt]
        omega
    rw [split, ind_list _ S nd, ind_list _ S nd]
    rfl
  | [], _ :: _, h => by simp at h
  | _ :: _, [], h => by simp at h
theorem sum_le : ∀ {l : List Nat} {g h : Nat → Int}, (∀ k ∈ l, g k ≤ h k) → (l.map g).sum ≤ (l.map h).sum
  | [], _, _, _ => by simp
  | k :: l, g, h, e => by
    simp only [List.map_cons, List.sum_cons]
    have := e k List.mem_cons_self
    have := sum_le (l := l) fun j hj => e j (List.mem_cons_of_mem _ hj)
    omega
/-- no circulation within bounds leaves an excess -/
theorem weak {arcs : List Arc} {lo hi x S : List Int} (B : Bn arcs lo hi x) (nd : S.Nodup) : excess arcs lo hi S ≤ netS arcs x S := by
  rw [net_list S nd arcs x B.lx.symm]
  unfold excess
  refine sum_le fun k hk => ?_
  have b := B.bd k (List.mem_range.mp hk)
  unfold inS
  by_cases c1 : (arcOf arcs k).1 ∈ S <;> by_cases c2 : (arcOf arcs k).2 ∈ S <;> simp only [c1, c2, not_true, not_false_iff, and_true, true_and, and_false, false_and, if_true, if_false] <;> omega
theorem netS_zero {arcs : List Arc} {x S : List Int} (h : ∀ v, net arcs x v = 0) : netS arcs x S = 0 := by
  unfold netS
  induction S with
  | nil => rfl
  | cons u S ih => simp [h u, ih]
/-- a closed set of nodes -/
theorem strong {n : Nat} {arcs : List Arc} {lo hi x S : List Int} (hg : ∀ k, k < arcs.length → Good n (arcOf arcs k)) (B : Bn arcs lo hi x) (nd : S.Nodup) (cl : ∀ v ∈ S, ∀ a ∈ nearOf arcs v, 0 ≤ leadsTo arcs lo hi x v a → leadsTo arcs lo hi x v a ∈ S) : netS arcs x S ≤ excess arcs lo hi S := by
  rw [net_list S nd arcs x B.lx.symm]
  unfold excess
  refine sum_le fun k hk => ?_
  have hk := List.mem_range.mp hk
  have b := B.bd k hk
  have g := hg k hk
  unfold inS
  by_cases c1 : (arcOf arcs k).1 ∈ S <;> by_cases c2 : (arcOf arcs k).2 ∈ S
  · simp [c1, c2]
  · have hn : k ∈ nearOf arcs (arcOf arcs k).1 := mem_near.mpr ⟨hk, by simp [touch]⟩
    have z := cl _ c1 k hn
    have e : leadsTo arcs lo hi x (arcOf arcs k).1 k = if part x k < part hi k then (arcOf arcs k).2 else -1 := by unfold leadsTo; rw [if_pos rfl]
    rw [e] at z
    have : part x k = part hi k := by
      by_cases d : part x k < part hi k
      · rw [if_pos d] at z
        exact absurd (z g.2.1.1) c2
      · omega
    simp [c1, c2]
    omega
  · have hn : k ∈ nearOf arcs (arcOf arcs k).2 := mem_near.mpr ⟨hk, by simp [touch]⟩
    have z := cl _ c2 k hn
    have e : leadsTo arcs lo hi x (arcOf arcs k).2 k = if part lo k < part x k then (arcOf arcs k).1 else -1 := by unfold leadsTo; rw [if_neg g.2.2]
    rw [e] at z
    have : part x k = part lo k := by
      by_cases d : part lo k < part x k
      · rw [if_pos d] at z
        exact absurd (z g.1.1) c1
      · omega
    simp [c1, c2]
    omega
  · simp [c1, c2]
theorem posN_mem {sp : List Int} {k : Nat} : k ∈ posN sp ↔ k < sp.length ∧ 0 < part sp k := by unfold posN; rw [List.mem_filter, List.mem_range, decide_eq_true_eq]
theorem negN_mem {sp : List Int} {k : Nat} : k ∈ negN sp ↔ k < sp.length ∧ part sp k < 0 := by unfold negN; rw [List.mem_filter, List.mem_range, decide_eq_true_eq]
theorem mem_ints {l : List Nat} {v : Int} : v ∈ ints_ l ↔ ∃ k ∈ l, v = (k : Int) := by
  unfold ints_
  rw [List.mem_map]
  exact ⟨fun ⟨k, h1, h2⟩ => ⟨k, h1, h2.symm⟩, fun ⟨k, h1, h2⟩ => ⟨k, h1, h2.symm⟩⟩
theorem ints_nd {l : List Nat} (h : l.Nodup) : (ints_ l).Nodup := List.Pairwise.map _ (fun a b h e => h (by have e2 : (a : Int) = (b : Int) := e; omega)) h
theorem part_spare {n : Nat} {arcs : List Arc} {x : List Int} {k : Nat} (h : k < n) : part (spareL n arcs x) k = net arcs x (k : Int) := by
  have := spareL_get (n := n) (as := arcs) (xs := x) (i := (k : Int)) (by omega) (by omega)
  rw [Int.toNat_natCast] at this
  exact part_get this
theorem part_ext0 {xs ys : List Int} (hl : xs.length = ys.length) (h : ∀ k, k < xs.length → part xs k = part ys k) : xs = ys := by
  apply List.ext_getElem?
  intro i
  by_cases hi : i < xs.length
  · rw [get_part hi, get_part (by omega), h i hi]
  · rw [List.getElem?_eq_none (by omega), List.getElem?_eq_none (by omega)]
theorem posSum_set : ∀ (sp : List Int) (k : Nat) (y : Int), k < sp.length → posSum (sp.set k y) + (part sp k).toNat = posSum sp + y.toNat
  | [], k, y, h => by simp at h
  | z :: sp, 0, y, _ => by
    have e : part (z :: sp) 0 = z := rfl
    rw [List.set_cons_zero, e]
    simp only [posSum, List.map_cons, List.sum_cons]
    omega
  | z :: sp, k + 1, y, h => by
    have ih := posSum_set sp k y (by simpa using h)
    have e : part (z :: sp) (k + 1) = part sp k := rfl
    rw [List.set_cons_succ, e]
    simp only [posSum, List.map_cons, List.sum_cons] at ih ⊢
    omega
theorem sum_posN : ∀ {sp : List Int}, posSum sp = 0 → ∀ k, part sp k ≤ 0
  | [], _, k => by simp [part]
  | z :: sp, h, 0 => by
    have e : part (z :: sp) 0 = z := rfl
    simp only [posSum, List.map_cons, List.sum_cons] at h
    rw [e]
    omega
  | z :: sp, h, k + 1 => by
    have e : part (z :: sp) (k + 1) = part sp k := rfl
    simp only [posSum, List.map_cons, List.sum_cons] at h
    rw [e]
    exact sum_posN (by simp only [posSum]; omega) k
/-- one turn of settling -/
structure TurnOk (n : Nat) (arcs : List Arc) (lo hi x : List Int) (s g m : Int) (w : List (Nat × Int)) : Prop where
  s0 : 0 ≤ s ∧ s < n
  g0 : 0 ≤ g ∧ g < n
  ne : s ≠ g
  m0 : 0 < m
  ms : m ≤ net arcs x s
  mg : m ≤ -net arcs x g
  ok : ∀ q ∈ w, q.1 < arcs.length ∧ (q.2 = 1 ∨ q.2 = -1)
  bn : Bn arcs lo hi (applyR x m w)
  sp : setSpare (spareL n arcs x) s g m = spareL n arcs (applyR x m w)
  less : posSum (spareL n arcs (applyR x m w)) < posSum (spareL n arcs x)
theorem settle_turn {n : Nat} {arcs : List Arc} {lo hi x : List Int} (hg : ∀ k, k < arcs.length → Good n (arcOf arcs k)) (B : Bn arcs lo hi x) (hp : posN (spareL n arcs x) ≠ []) :
    ReachRes n arcs lo hi x (ints_ (posN (spareL n arcs x))) (ints_ (negN (spareL n arcs x))) (setReach n arcs lo hi x (spareL n arcs x)) ∧
    (¬ (setReach n arcs lo hi x (spareL n arcs x)).2 < 0 → TurnOk n arcs lo hi x (startF arcs (setReach n arcs lo hi x (spareL n arcs x)).1 (n + 1) (setReach n arcs lo hi x (spareL n arcs x)).2) (setReach n arcs lo hi x (spareL n arcs x)).2
      (setWay n arcs lo hi x (spareL n arcs x) (setReach n arcs lo hi x (spareL n arcs x))).2 (setWay n arcs lo hi x (spareL n arcs x) (setReach n arcs lo hi x (spareL n arcs x))).1) := by
  have sl := spareL_len n arcs x
  have pr : ∀ v ∈ ints_ (posN (spareL n arcs x)), 0 ≤ v ∧ v < n := fun v hv => by
    obtain ⟨k, hk, rfl⟩ := mem_ints.mp hv
    have := (posN_mem.mp hk).1
    omega
  have R : ReachRes n arcs lo hi x (ints_ (posN (spareL n arcs x))) (ints_ (negN (spareL n arcs x))) (setReach n arcs lo hi x (spareL n arcs x)) :=
    reach_ok hg (n + 1) 0 _ (came0_ok (ints_nd (List.Pairwise.filter _ List.nodup_range)) pr) (by omega) fun i hi => by omega
  refine ⟨R, fun h => ?_⟩
  unfold setWay
  revert R h
  generalize setReach n arcs lo hi x (spareL n arcs x) = r
  intro R h
  obtain ⟨C, hr⟩ := R
  rcases hr with ⟨hr, _⟩ | ⟨h0, h1, h2⟩
  · omega
  obtain ⟨i, hi'⟩ := List.mem_iff_getElem?.mp h2
  have il : i < r.1.length := by
    have := (List.getElem?_eq_some_iff.mp hi').1
    simpa [keysOf] using this
  have hp' := List.getElem?_eq_getElem il
  have e1 := keys_get hp'
  rw [hi'] at e1
  have e1 : r.2 = (r.1[i]).1 := Option.some.inj e1
  have cl := came_len C
  obtain ⟨w, W, hw⟩ := way_ok hg C (n + 1) i _ hp' (by omega)
  rw [← e1] at W hw
  have hs := W.st
  obtain ⟨ks, hks, es⟩ := mem_ints.mp hs
  obtain ⟨kg, hkg, eg⟩ := mem_ints.mp h1
  have ps := posN_mem.mp hks
  have pg := negN_mem.mp hkg
  rw [sl] at ps pg
  rw [part_spare ps.1] at ps
  rw [part_spare pg.1] at pg
  obtain ⟨w1, w2, w3, w4⟩ := hw (if -part (spareL n arcs x) r.2.toNat < part (spareL n arcs x) (startF arcs r.1 (n + 1) r.2).toNat then -part (spareL n arcs x) r.2.toNat else part (spareL n arcs x) (startF arcs r.1 (n + 1) r.2).toNat) []
  revert w1 w2 w3 w4
  generalize wayF arcs lo hi x r.1 (n + 1) r.2 (if -part (spareL n arcs x) r.2.toNat < part (spareL n arcs x) (startF arcs r.1 (n + 1) r.2).toNat then -part (spareL n arcs x) r.2.toNat else part (spareL n arcs x) (startF arcs r.1 (n + 1) r.2).toNat) [] = wm
  intro w1 w2 w3 w4
  rw [es, eg, Int.toNat_natCast, Int.toNat_natCast, part_spare ps.1, part_spare pg.1] at w2 w4
  rw [List.nil_append] at w1
  rw [w1, es, eg]
  rw [es, eg] at W
  have m0 : 0 < wm.2 := w4 (by split <;> omega)
  have ms : wm.2 ≤ net arcs x ks := by
    refine Int.le_trans w2 ?_
    split <;> omega
  have mg : wm.2 ≤ -net arcs x kg := by
    refine Int.le_trans w2 ?_
    split <;> omega
  obtain ⟨bn, nt⟩ := push_ok B W (Int.le_of_lt m0) w3
  have ne : ks ≠ kg := fun e => by rw [e] at ps; omega
  have e2 : setSpare (spareL n arcs x) (ks : Int) (kg : Int) wm.2 = spareL n arcs (applyR x wm.2 w) := by
    unfold setSpare
    rw [Int.toNat_natCast, Int.toNat_natCast, part_set_ne ne]
    refine part_ext0 (by simp [spareL_len]) fun k hk => ?_
    rw [List.length_set, List.length_set, sl] at hk
    rw [part_spare hk, nt]
    by_cases c1 : kg = k
    · subst c1
      rw [part_set_same (by rw [List.length_set, sl]; exact pg.1), part_spare pg.1]
      unfold ind
      rw [if_pos rfl, if_neg (by omega)]
      omega
    · rw [part_set_ne c1]
      by_cases c2 : ks = k
      · subst c2
        rw [part_set_same (by rw [sl]; exact ps.1), part_spare ps.1]
        unfold ind
        rw [if_neg (by omega), if_pos rfl]
        omega
      · rw [part_set_ne c2, part_spare hk]
        unfold ind
        rw [if_neg (by omega), if_neg (by omega)]
        omega
  refine ⟨⟨by omega, by omega⟩, ⟨by omega, by omega⟩, by omega, m0, ms, mg, fun q hq => ⟨(W.ok q hq).1, (W.ok q hq).2.1⟩, bn, e2, ?_⟩
  rw [← e2]
  unfold setSpare
  rw [Int.toNat_natCast, Int.toNat_natCast]
  have a1 := posSum_set (spareL n arcs x) ks (part (spareL n arcs x) ks - wm.2) (by rw [sl]; exact ps.1)
  have a2 := posSum_set ((spareL n arcs x).set ks (part (spareL n arcs x) ks - wm.2)) kg (part ((spareL n arcs x).set ks (part (spareL n arcs x) ks - wm.2)) kg + wm.2) (by rw [List.length_set, sl]; exact pg.1)
  rw [part_set_ne ne, part_spare pg.1] at a2
  rw [part_spare ps.1] at a1
  rw [part_set_ne ne, part_spare pg.1, part_spare ps.1]
  rw [part_spare ps.1] at a2
  omega
/-- what settling tells -/
def SetRes (n : Nat) (arcs : List Arc) (lo hi : List Int) (st : SetSt) : Prop :=
  Bn arcs lo hi st.x ∧ st.sp = spareL n arcs st.x ∧ ((st.cut = none ∧ ∀ v : Nat, v < n → net arcs st.x v ≤ 0) ∨ ∃ S, st.cut = some S ∧ S.Pairwise (· < ·) ∧ (∀ v ∈ S, 0 ≤ v ∧ v < n) ∧ 0 < excess arcs lo hi S)
theorem settle_ok {n : Nat} {arcs : List Arc} {lo hi : List Int} (hg : ∀ k, k < arcs.length → Good n (arcOf arcs k)) :
    ∀ (f : Nat) (x : List Int), Bn arcs lo hi x → posSum (spareL n arcs x) ≤ f → SetRes n arcs lo hi (settleF n arcs lo hi f x (spareL n arcs x))
  | 0, x, B, hf => by
    refine ⟨B, rfl, .inl ⟨rfl, fun v hv => ?_⟩⟩
    have := sum_posN (sp := spareL n arcs x) (by omega) v
    rw [part_spare hv] at this
    exact this
  | f + 1, x, B, hf => by
    unfold settleF
    by_cases c : posN (spareL n arcs x) = []
    · rw [if_pos c]
      refine ⟨B, rfl, .inl ⟨rfl, fun v hv => ?_⟩⟩
      show net arcs x v ≤ 0
      refine Classical.byContradiction fun z => ?_
      have : v ∈ posN (spareL n arcs x) := posN_mem.mpr ⟨by rw [spareL_len]; exact hv, by rw [part_spare hv]; show 0 < net arcs x v; omega⟩
      rw [c] at this
      simp at this
    · rw [if_neg c]
      obtain ⟨R, T⟩ := settle_turn hg B c
      by_cases d : (setReach n arcs lo hi x (spareL n arcs x)).2 < 0
      · rw [if_pos d]
        obtain ⟨C, hr⟩ := R
        rcases hr with ⟨_, h2, h3⟩ | ⟨h0, _⟩
        · obtain ⟨s1, s2⟩ := sortL_ok C.nd
          refine ⟨B, rfl, .inr ⟨_, rfl, s1, fun v hv => C.rng v ((s2 v).mp hv), ?_⟩⟩
          have nd : (sortL (keysOf (setReach n arcs lo hi x (spareL n arcs x)).1)).Nodup := s1.imp fun {a b} h e => by omega
          have st := strong hg B nd fun v hv a ha h0 => (s2 _).mpr (h3 v ((s2 v).mp hv) a ha h0)
          refine Int.lt_of_lt_of_le ?_ st
          -- all are at least zero, one is above
          obtain ⟨k, hk⟩ := List.exists_mem_of_ne_nil _ c
          have pk := posN_mem.mp hk
          rw [spareL_len] at pk
          rw [part_spare pk.1] at pk
          have km : (k : Int) ∈ sortL (keysOf (setReach n arcs lo hi x (spareL n arcs x)).1) := (s2 _).mpr (C.st _ (mem_ints.mpr ⟨k, hk, rfl⟩))
          have all : ∀ v ∈ sortL (keysOf (setReach n arcs lo hi x (spareL n arcs x)).1), 0 ≤ net arcs x v := fun v hv => by
            have hm := (s2 v).mp hv
            have r := C.rng v hm
            refine Classical.byContradiction fun z => h2 v hm (mem_ints.mpr ⟨v.toNat, negN_mem.mpr ⟨by rw [spareL_len]; omega, ?_⟩, by omega⟩)
            rw [part_spare (by omega), Int.toNat_of_nonneg r.1]
            omega
          unfold netS
          revert km all
          generalize sortL (keysOf (setReach n arcs lo hi x (spareL n arcs x)).1) = S
          intro km all
          clear nd s1 s2 st
          induction S with
          | nil => simp at km
          | cons u S ih =>
            rw [List.map_cons, List.sum_cons]
            have pos : 0 ≤ (S.map fun v => net arcs x v).sum := by
              clear ih km
              induction S with
              | nil => simp
              | cons t S ih2 =>
                rw [List.map_cons, List.sum_cons]
                have := all t (by simp)
                have := ih2 fun v hv => all v (by
                  rcases List.mem_cons.mp hv with e | e
                  · rw [e]; simp
                  · simp [e])
                omega
            rcases List.mem_cons.mp km with e | e
            · rw [← e]
              omega
            · have := ih e fun v hv => all v (List.mem_cons_of_mem _ hv)
              have := all u List.mem_cons_self
              omega
        · omega
      · rw [if_neg d]
        have T := T d
        rw [T.sp]
        exact settle_ok hg f _ T.bn (by have := T.less; omega)
theorem sum_net_zero {n : Nat} (as : List Arc) (x : List Int) (hl : as.length = x.length) (hg : ∀ k, k < as.length → Good n (arcOf as k)) : netS as x (ints_ (List.range n)) = 0 := by
  rw [net_list _ (ints_nd List.nodup_range) as x hl]
  have z : ∀ k ∈ List.range as.length, part x k * (inS (ints_ (List.range n)) (arcOf as k).2 - inS (ints_ (List.range n)) (arcOf as k).1) = 0 := fun k hk => by
    have g := hg k (List.mem_range.mp hk)
    have m : ∀ v : Int, 0 ≤ v → v < n → inS (ints_ (List.range n)) v = 1 := fun v h1 h2 => by
      unfold inS
      rw [if_pos (mem_ints.mpr ⟨v.toNat, List.mem_range.mpr (by omega), by omega⟩)]
    rw [m _ g.2.1.1 g.2.1.2, m _ g.1.1 g.1.2]
    omega
  have : (List.range as.length).map (fun k => part x k * (inS (ints_ (List.range n)) (arcOf as k).2 - inS (ints_ (List.range n)) (arcOf as k).1)) = (List.range as.length).map fun _ => (0 : Int) := List.map_congr_left z
  rw [this]
  generalize List.range as.length = l
  induction l with
  | nil => rfl
  | cons _ _ ih => simp [ih]
/-- where no node has too much, none lacks -/
theorem bal_of {n : Nat} {as : List Arc} {x : List Int} (hl : as.length = x.length) (hg : ∀ k, k < as.length → Good n (arcOf as k)) (h : ∀ v : Nat, v < n → net as x v ≤ 0) : ∀ v : Nat, v < n → net as x v = 0 := by
  intro v hv
  have z := sum_net_zero (n := n) as x hl hg
  refine Classical.byContradiction fun ne => ?_
  have lt : net as x v < 0 := by have := h v hv; omega
  have key : ∀ l : List Nat, (∀ k ∈ l, k < n) → netS as x (ints_ l) ≤ 0 ∧ (v ∈ l → netS as x (ints_ l) < 0) := by
    intro l
    induction l with
    | nil => intro _; simp [netS, ints_]
    | cons k l ih =>
      intro hl'
      obtain ⟨i1, i2⟩ := ih fun j hj => hl' j (List.mem_cons_of_mem _ hj)
      have hk := h k (hl' k List.mem_cons_self)
      have e : netS as x (ints_ (k :: l)) = net as x k + netS as x (ints_ l) := by simp [netS, ints_]
      rw [e]
      refine ⟨by omega, fun hm => ?_⟩
      rcases List.mem_cons.mp hm with rfl | hm
      · omega
      · have := i2 hm
        omega
  have := (key (List.range n) fun k hk => List.mem_range.mp hk).2 (List.mem_range.mpr hv)
  omega
/-- circulation(count, arcs) -/
def circF (n : Nat) (arcs : List Arc) (lo hi : List Int) : SetSt := settleF n arcs lo hi (posSum (spareL n arcs lo)) lo (spareL n arcs lo)
theorem circ_ok {n : Nat} {arcs : List Arc} {lo hi : List Int} (hg : ∀ k, k < arcs.length → Good n (arcOf arcs k)) (l1 : lo.length = arcs.length) (l2 : hi.length = arcs.length) (hb : ∀ k, k < arcs.length → part lo k ≤ part hi k) :
    ((circF n arcs lo hi).cut = none ∧ Bn arcs lo hi (circF n arcs lo hi).x ∧ ∀ v : Nat, v < n → net arcs (circF n arcs lo hi).x v = 0) ∨
    ∃ S, (circF n arcs lo hi).cut = some S ∧ S.Pairwise (· < ·) ∧ (∀ v ∈ S, 0 ≤ v ∧ v < n) ∧ 0 < excess arcs lo hi S := by
  have R := settle_ok (n := n) hg (posSum (spareL n arcs lo)) lo ⟨l1, l1, l2, fun k hk => ⟨Int.le_refl _, hb k hk⟩⟩ (Nat.le_refl _)
  obtain ⟨B, _, hr⟩ := R
  rcases hr with ⟨h1, h2⟩ | h
  · exact .inl ⟨h1, B, bal_of B.lx.symm hg h2⟩
  · exact .inr h
end Cir

/-! # Own layer: own classes: methods and makers bundled -/
namespace L2
open PySem PySem.Spec PyProof.Rows
/-- the method of this name of the class at C keeps the promise -/
def MtB (P : Program) (w : World) (K : PySem.W.Frag) (mg : Str → Option Value) (base : Heap) (CX : CXT) (k : Nat) (C : Addr) (m : Str) (ps : List Str) (sp : Sp) : Prop :=
  ∃ (f : Addr) (fd : FuncData), FnOk P w K mg base CX k f fd ps sp ∧ Meth K C m f ∧ Binds K fd ps []
/-- an instance of the class at C, named x, is made -/
def MkB (P : Program) (w : World) (K : PySem.W.Frag) (mg : Str → Option Value) (base : Heap) (CX : CXT) (k : Nat) (C : Addr) (x : Str) (ps : List Str) (sp : Sp) : Prop :=
  ∃ (f : Addr) (fd : FuncData), FnOk P w K mg base CX k f fd ps sp ∧ Mk K C f ∧ mg x = some (.ref C) ∧ Binds K fd ps []
section
variable {X : Cx} {CX : CXT} {k : Nat} {ps : List Str} {sp : Sp} {E : XK} {x m : Str} {C : Addr} {p pos apos : Pos} {o e : Expr} {es : List Expr} {t : TA} {ta : TE}
theorem pe_methB {pl : Sem Bool} (F : MtB X.prog X.w X.K X.mg X.base CX k C m ps sp) (c : Cls X.K C) (he : PE X o ta) (hr : Room k X.A) (hx : Passes CX X E) (ha : PA X (e :: es) t)
    (hst : starEach (e :: es) X.env = (false, eval e X.env) :: starEach es X.env := by rfl) (hpl : (backTo pos (starEach es X.env)).any (·.1) = false := by rfl)
    (ht : eval (.Call (.Attribute o m apos) (e :: es) [] pos) X.env = (do
      let ov ← eval o X.env
      standAt apos.atName
      let (f, first) ← holding [ov] (getMethod ov m pl)
      callWith pos f first (backTo pos (starEach (e :: es) X.env)) (backToKw pos (keywordEach [] X.env))) := by rfl) :
    PE X (.Call (.Attribute o m apos) (e :: es) [] pos) (tMeth C m sp [] E ta t) := by
  obtain ⟨f, fd, F1, hm, b⟩ := F
  exact pe_meth he c hm F1 hr b .nil hx ha hst hpl ht
theorem pe_methB0 {pl : Sem Bool} (F : MtB X.prog X.w X.K X.mg X.base CX k C m ps sp) (c : Cls X.K C) (he : PE X o ta) (hr : Room k X.A) (hx : Passes CX X E)
    (ht : eval (.Call (.Attribute o m apos) [] [] pos) X.env = (do
      let ov ← eval o X.env
      standAt apos.atName
      let (f, first) ← holding [ov] (getMethod ov m pl)
      callWith pos f first (backTo pos (starEach [] X.env)) (backToKw pos (keywordEach [] X.env))) := by rfl) :
    PE X (.Call (.Attribute o m apos) [] [] pos) (tMeth C m sp [] E ta tNil) := by
  obtain ⟨f, fd, F1, hm, b⟩ := F
  exact pe_meth0 he c hm F1 hr b .nil hx ht
theorem pe_makeB (F : MkB X.prog X.w X.K X.mg X.base CX k C x ps sp) (hr : Room (k + 1) X.A) (hg : Gl X x) (hx : Passes CX X E) (ha : PA X (e :: es) t)
    (hdb : (x == ("__debug__" : Str)) = false := by decide) (he : starEach (e :: es) X.env = (false, eval e X.env) :: starEach es X.env := by rfl) (hpl : (backTo pos (starEach es X.env)).any (·.1) = false := by rfl) :
    PE X (.Call (.Name x p) (e :: es) [] pos) (tMake C sp [] E t) := by
  obtain ⟨f, fd, F1, M, hm, b⟩ := F
  exact pe_make M F1 hr hg hm b .nil hx ha hdb he hpl
/-- an attribute, by a reading that names its written part -/
theorem pe_fldK {K : PySem.W.Frag} {f : Str} (hK : X.K = K) (he : PE X e ta) (hb : attributeBase e f X.env (eval e X.env) = eval e X.env) : PE X (.Attribute e f pos) (tFld K ta f) := by
  subst hK
  exact pe_fld he hb
end
theorem lookup_hd {f : Str} {v : V} {l : List (Str × V)} : ((f, v) :: l).lookup f = some v := by simp [List.lookup]
theorem lookup_tl {f g : Str} {v : V} {l : List (Str × V)} (h : ¬ g = f) : ((f, v) :: l).lookup g = l.lookup g := by
  rw [List.lookup_cons, beq_false_of_ne h]
end L2
namespace L2
open PySem PySem.Spec PyProof.Rows
theorem putF_new {f : Str} {v : V} : ∀ {fs : List (Str × V)}, (∀ p ∈ fs, ¬ p.1 = f) → putF f v fs = fs ++ [(f, v)]
  | [], _ => rfl
  | (g, u) :: fs, h => by
    show (if g = f then _ else (g, u) :: putF f v fs) = _
    rw [if_neg (h (g, u) List.mem_cons_self), putF_new fun p hp => h p (List.mem_cons_of_mem _ hp)]
    rfl
end L2
namespace L2
open PySem PySem.Spec PyProof.Rows
theorem op_in_seqK {X : Cx} {K : PySem.W.Frag} (hK : X.K = K) : OpR X (compareOp .In) (rIn K false) := by
  subst hK
  exact op_in_seq
theorem op_notIn_seqK {X : Cx} {K : PySem.W.Frag} (hK : X.K = K) : OpR X (compareOp .NotIn) (rIn K true) := by
  subst hK
  exact op_notIn_seq
end L2

namespace K01
open PySem PySem.Spec PyProof.Rows L2
def top (i : Nat) : Stmt := PySem.Challenge.pw_eachfloweachlink_k01_circulation_or_cut.main.body.getD i (.Pass ⟨0, 0, 0, 0⟩)
/-! _check_bounds(count, arcs): slots 0 count 1 arcs 2 k 3 tail 4 head 5 low 6 high -/
abbrev s_check_bounds : Stmt := top 5
abbrev n_check_bounds : List Str := ["count", "arcs", "k", "tail", "head", "low", "high"]
theorem sc_check_bounds : FnScope n_check_bounds ["count", "arcs"] (defScope s_check_bounds) := ⟨rfl, rfl, rfl, by decide +kernel, rfl, by decide +kernel, by decide +kernel⟩
/-! _spare(count, arcs, amounts): slots 0 count 1 arcs 2 amounts 3 spare 4 k -/
abbrev s_spare : Stmt := top 6
abbrev n_spare : List Str := ["count", "arcs", "amounts", "spare", "k"]
theorem sc_spare : FnScope n_spare ["count", "arcs", "amounts"] (defScope s_spare) := ⟨rfl, rfl, rfl, by decide +kernel, rfl, by decide +kernel, by decide +kernel⟩
/-! _near(count, arcs): slots 0 count 1 arcs 2 near 3 k 4 _ -/
abbrev s_near : Stmt := top 7
abbrev n_near : List Str := ["count", "arcs", "near", "k", "_"]
theorem sc_near : FnScope n_near ["count", "arcs"] (defScope s_near) := ⟨rfl, rfl, rfl, by decide +kernel, rfl, by decide +kernel, by decide +kernel⟩
/-! Bed.__init__(self, count, arcs): slots 0 self 1 count 2 arcs 3 arc -/
abbrev s_Bed__init : Stmt := inClass (top 8) 0
abbrev n_Bed__init : List Str := ["self", "count", "arcs", "arc"]
theorem sc_Bed__init : FnScope n_Bed__init ["self", "count", "arcs"] (defScope s_Bed__init) := ⟨rfl, rfl, rfl, by decide +kernel, rfl, by decide +kernel, by decide +kernel⟩
/-! Bed.leads(self, node, arc): slots 0 self 1 node 2 arc -/
abbrev s_Bed_leads : Stmt := inClass (top 8) 1
abbrev n_Bed_leads : List Str := ["self", "node", "arc"]
theorem sc_Bed_leads : FnScope n_Bed_leads ["self", "node", "arc"] (defScope s_Bed_leads) := ⟨rfl, rfl, rfl, by decide +kernel, rfl, by decide +kernel, by decide +kernel⟩
/-! Bed.reach(self, starts, goals): slots 0 self 1 starts 2 goals 3 came 4 row 5 node 6 at 7 arc 8 beyond -/
abbrev s_Bed_reach : Stmt := inClass (top 8) 2
abbrev n_Bed_reach : List Str := ["self", "starts", "goals", "came", "row", "node", "at", "arc", "beyond"]
theorem sc_Bed_reach : FnScope n_Bed_reach ["self", "starts", "goals"] (defScope s_Bed_reach) := ⟨rfl, rfl, rfl, by decide +kernel, rfl, by decide +kernel, by decide +kernel⟩
/-! Bed.push(self, came, goal, most): slots 0 self 1 came 2 goal 3 most 4 way 5 node 6 arc 7 sign -/
abbrev s_Bed_push : Stmt := inClass (top 8) 3
abbrev n_Bed_push : List Str := ["self", "came", "goal", "most", "way", "node", "arc", "sign"]
theorem sc_Bed_push : FnScope n_Bed_push ["self", "came", "goal", "most"] (defScope s_Bed_push) := ⟨rfl, rfl, rfl, by decide +kernel, rfl, by decide +kernel, by decide +kernel⟩
/-! Bed.settle(self): slots 0 self 1 k 2 starts 3 goals 4 came 5 goal 6 start 7 arc 8 most -/
abbrev s_Bed_settle : Stmt := inClass (top 8) 4
abbrev n_Bed_settle : List Str := ["self", "k", "starts", "goals", "came", "goal", "start", "arc", "most"]
theorem sc_Bed_settle : FnScope n_Bed_settle ["self"] (defScope s_Bed_settle) := ⟨rfl, rfl, rfl, by decide +kernel, rfl, by decide +kernel, by decide +kernel⟩
/-! circulation(count, arcs): slots 0 count 1 arcs 2 bed 3 cut -/
abbrev s_circulation : Stmt := top 9
abbrev n_circulation : List Str := ["count", "arcs", "bed", "cut"]
theorem sc_circulation : FnScope n_circulation ["count", "arcs"] (defScope s_circulation) := ⟨rfl, rfl, rfl, by decide +kernel, rfl, by decide +kernel, by decide +kernel⟩
/-! cut_holds(count, arcs, nodes): slots 0 count 1 arcs 2 nodes 3 inside 4 last 5 node 6 balance 7 tail 8 head 9 low 10 high -/
abbrev s_cut_holds : Stmt := top 10
abbrev n_cut_holds : List Str := ["count", "arcs", "nodes", "inside", "last", "node", "balance", "tail", "head", "low", "high"]
theorem sc_cut_holds : FnScope n_cut_holds ["count", "arcs", "nodes"] (defScope s_cut_holds) := ⟨rfl, rfl, rfl, by decide +kernel, rfl, by decide +kernel, by decide +kernel⟩
abbrev s_iA : Stmt := inClass (top 3) 0
theorem S_BadArc : XS.ErrSyn "BadArc.__init__" s_iA "arc" [] where
  body := ⟨_, _, _, _, _, _, _, _, _, _, _, _, _, rfl, .nil, by decide +kernel⟩
  ar := ⟨_, rfl, rfl⟩
  kind := rfl
  sup := rfl
  cls := rfl
  self := rfl
  loc := by decide +kernel
  cell := by decide +kernel
  co := rfl
  gen := rfl
  nd := by decide +kernel
  short := by decide
  bind := fun _ _ _ _ _ _ _ us hl s => match us, hl with | [_, _], _ => .of_eq rfl
/-- what the top has written -/
structure Txt (P : Program) (K : PySem.W.Frag) (mg : Str → Option Value) (CA CB : Addr) : Prop extends Blt mg where
  arc : ∃ fI, XS.ErrTxt P K mg "BadArc" "BadArc.__init__" s_iA ["arc"] CA fI
  clB : Cls K CB
  nT : NoAttr K CB "tails"
  nH : NoAttr K CB "heads"
  nL : NoAttr K CB "lows"
  nU : NoAttr K CB "highs"
  nC : NoAttr K CB "carried"
  nN : NoAttr K CB "near"
  nS : NoAttr K CB "spare"
abbrev q4 (arcs : List Cir.Arc) (lo hi : List Int) (k : Nat) : List V := [.int (Cir.arcOf arcs k).1, .int (Cir.arcOf arcs k).2, .int (Cir.part lo k), .int (Cir.part hi k)]
/-- at a: the list of these arcs with their bounds -/
def NetAt (K : PySem.W.Frag) (H : Hp) (a : Addr) (arcs : List Cir.Arc) (lo hi : List Int) : Prop :=
  ∃ ts : List Addr, SqL K H a (ts.map V.ref) ∧ ts.length = arcs.length ∧ lo.length = arcs.length ∧ hi.length = arcs.length ∧ ∀ (k : Nat) (t : Addr), ts[k]? = some t → SqT K H t (q4 arcs lo hi k)
theorem NetAt.fr {K : PySem.W.Frag} {H H' : Hp} {a : Addr} {arcs : List Cir.Arc} {lo hi : List Int} (h : NetAt K H a arcs lo hi) (e : Fr [] H H') : NetAt K H' a arcs lo hi := by
  obtain ⟨ts, h1, h2, h3, h4, h5⟩ := h
  exact ⟨ts, e.l h1, h2, h3, h4, fun k t a => e.t (h5 k t a)⟩
theorem NetAt.at {K : PySem.W.Frag} {H : Hp} {a : Addr} {arcs : List Cir.Arc} {lo hi : List Int} (h : NetAt K H a arcs lo hi) : ∃ ts : List Addr, SqL K H a (ts.map V.ref) ∧ ts.length = arcs.length ∧
    ∀ k, k < arcs.length → ∃ t, ts[k]? = some t ∧ atI (ts.map V.ref) (k : Int) = some (.ref t) ∧ SqT K H t (q4 arcs lo hi k) := by
  obtain ⟨ts, h1, h2, h3, h4, h5⟩ := h
  refine ⟨ts, h1, h2, fun k hk => ?_⟩
  have e : ts[k]? = some (ts[k]'(by omega)) := List.getElem?_eq_getElem _
  exact ⟨_, e, at_map e, h5 k _ e⟩
theorem at_part {xs : List Int} {k : Nat} (h : k < xs.length) : atI (xs.map V.int) (k : Int) = some (.int (Cir.part xs k)) := at_map (Cir.get_part h)
def GoodB (n : Nat) (arcs : List Cir.Arc) (lo hi : List Int) (k : Nat) : Prop := Cir.Good n (Cir.arcOf arcs k) ∧ Cir.part lo k ≤ Cir.part hi k
abbrev GoodN (n : Nat) (arcs : List Cir.Arc) (lo hi : List Int) : Prop := ∀ k, k < arcs.length → GoodB n arcs lo hi k
abbrev vN (k : Nat) : V := .int (k : Int)
/-- the first wrong arc -/
def spCheck (K : PySem.W.Frag) (CA : Addr) : Sp := fun vs H Q E => ∃ (n : Nat) (a : Addr) (arcs : List Cir.Arc) (lo hi : List Int), vs = [.int (n : Int), .ref a] ∧ NetAt K H a arcs lo hi ∧ arcs.length ≤ 100000 ∧
  (GoodN n arcs lo hi → Q .non H) ∧
  (∀ k, k < arcs.length → ¬ GoodB n arcs lo hi k → (∀ j, j < k → GoodB n arcs lo hi j) → ∀ d, H d = none → E (.ref CA) (some d) (upd H d (.xd [(("arc" : Str), .int (k : Int))])))
/-- what enters each node less what leaves it -/
def spSpare (K : PySem.W.Frag) : Sp := fun vs H Q _ => ∃ (n : Nat) (a am : Addr) (arcs : List Cir.Arc) (lo hi xs : List Int), vs = [.int (n : Int), .ref a, .ref am] ∧ NetAt K H a arcs lo hi ∧ SqL K H am (xs.map V.int) ∧ arcs.length = xs.length ∧ arcs.length ≤ 100000 ∧ n ≤ 100000 ∧
  (∀ k, k < arcs.length → Cir.Good n (Cir.arcOf arcs k)) ∧ ∀ (p : Addr) (H' : Hp), H p = none → Fr [] H H' → H' p = some (.lst ((Cir.spareL n arcs xs).map V.int)) → Q (.ref p) H'
/-- at p: for each node the numbers of the arcs that touch it -/
def NearAt (z : Addr → Prop) (H : Hp) (p : Addr) (n : Nat) (arcs : List Cir.Arc) : Prop :=
  ∃ rs : List Addr, rs.length = n ∧ H p = some (.lst (rs.map V.ref)) ∧ (∀ (v : Nat) (r : Addr), rs[v]? = some r → H r = some (.lst ((Cir.nearOf arcs v).map vN))) ∧ ∀ r ∈ rs, z r
theorem NearAt.fr {z : Addr → Prop} {H H' : Hp} {p : Addr} {n : Nat} {arcs : List Cir.Arc} {S : List Addr} (h : NearAt z H p n arcs) (e : Fr S H H') (hp : p ∉ S) (hz : ∀ r, z r → r ∉ S) : NearAt z H' p n arcs := by
  obtain ⟨rs, h1, h2, h3, h4⟩ := h
  exact ⟨rs, h1, e _ _ h2 hp, fun v r hr => e _ _ (h3 v r hr) (hz r (h4 r (List.mem_of_getElem? hr))), h4⟩
theorem NearAt.imp {z z' : Addr → Prop} {H : Hp} {p : Addr} {n : Nat} {arcs : List Cir.Arc} (h : NearAt z H p n arcs) (hz : ∀ r, z r → z' r) : NearAt z' H p n arcs := by
  obtain ⟨rs, h1, h2, h3, h4⟩ := h
  exact ⟨rs, h1, h2, h3, fun r hr => hz r (h4 r hr)⟩
def spNear (K : PySem.W.Frag) : Sp := fun vs H Q _ => ∃ (n : Nat) (a : Addr) (arcs : List Cir.Arc) (lo hi : List Int), vs = [.int (n : Int), .ref a] ∧ NetAt K H a arcs lo hi ∧ arcs.length ≤ 10000 ∧ n ≤ 10000 ∧
  (∀ k, k < arcs.length → Cir.Good n (Cir.arcOf arcs k)) ∧ ∀ (p : Addr) (H' : Hp), H p = none → Fr [] H H' → NearAt (fun r => H r = none) H' p n arcs → Q (.ref p) H'
section
variable {P : Program} {w : World} {K : PySem.W.Frag} {mg : Str → Option Value} {base : Heap} {CA CB : Addr}
theorem ok_check_bounds {f : Addr} {fd : FuncData} (F : Fun K "_check_bounds" "_check_bounds" s_check_bounds f fd) (T : Txt P K mg CA CB) : FnOk P w K mg base (L2.CX P w) 2 f fd ["count", "arcs"] (spCheck K CA) := by
  refine F.okX sc_check_bounds (fun vs H Q E h => ?_) (fun cdv A outer s H vs Q E hr h => ?_)
  · obtain ⟨n, a, arcs, lo, hi, rfl, _⟩ := h
    rfl
  · obtain ⟨n, a, arcs, lo, hi, rfl, hA, hl, kQ, kE⟩ := h
    obtain ⟨fI, TA⟩ := T.arc
    refine ⟨_, (pss_one (ps_for (passes_of rfl) rfl (pi_range1 (by rfl) T.m_range (pa_cons (pe_callB call_len_seq (by rfl) T.m_len (by decide +kernel) (pa_cons (pv 1) pa_nil)) pa_nil)) (pg_name (i := 2) sc_check_bounds.nd rfl (Or.inl rfl))
      (pss_cons (ps_asg (pe_ix ix_list (pv 1) (pv 2) (fun _ _ => rfl)) (pg_tup rfl (pgs_cons (pg_name (i := 3) sc_check_bounds.nd rfl (Or.inl rfl)) (pgs_cons (pg_name (i := 4) sc_check_bounds.nd rfl (Or.inl rfl)) (pgs_cons (pg_name (i := 5) sc_check_bounds.nd rfl (Or.inl rfl)) (pgs_cons (pg_name (i := 6) sc_check_bounds.nd rfl (Or.inl rfl)) pgs_nil))))))
      (pss_one (ps_if (PW.pt (pw_or (pt_not (pt_chain op_le op_lt pe_int (pv 3) (pv 0))) (pw_or (pt_not (pt_chain op_le op_lt pe_int (pv 4) (pv 0))) (pw_or (pt_cmpR op_eq (pv 3) (pv 4) (nomark _)) (pw_or1 (pt_cmpR op_gt (pv 5) (pv 6) (nomark _)))))))
        (pss_one (ps_raiseErr rfl TA S_BadArc hr (takes_of rfl rfl rfl rfl) (pa_cons (pv 2) pa_nil)))
        pss_nil))))), ?_⟩
    obtain ⟨ts, hL, hn, hT⟩ := hA.at
    refine ⟨_, rfl, _, _, rfl, .inl hL, _, rfl, (rg_ok (by simp; omega)).1, (rg_ok (by simp; omega)).2, for_rng (n := (ts.map V.ref).length) (fun i σ H' => H' = H ∧ (∀ j, j < i → GoodB n arcs lo hi j) ∧ ∃ o1 o2 o3 o4 o5 : Option V, σ = [some (.int (n : Int)), some (.ref a), o1, o2, o3, o4, o5])
      ⟨rfl, fun j hj => by omega, _, _, _, _, _, rfl⟩ ?_ ?_⟩
    · rintro i σ H' hi' ⟨rfl, hgood, o1, o2, o3, o4, o5, rfl⟩
      rw [List.length_map, hn] at hi'
      obtain ⟨t, _, e1, e2⟩ := hT i hi'
      refine ⟨_, rfl, _, rfl, _, _, _, _, rfl, rfl, hL, e1, _, _, rfl, e2, rfl, _, _, rfl, _, _, rfl, _, _, rfl, _, _, rfl, rfl, ?_⟩
      have bad : ¬ GoodB n arcs lo hi i → tRaiseE CA [("arc" : Str)] (fun cls d _ H => E cls d H) (tCons (tVar 2) tNil) noEnds [some (.int (n : Int)), some (.ref a), some (.int (i : Int)), some (.int (Cir.arcOf arcs i).1), some (.int (Cir.arcOf arcs i).2), some (.int (Cir.part lo i)), some (.int (Cir.part hi i))] H' :=
        fun hb => ⟨_, rfl, rfl, fun d hd => kE i hi' hb hgood d hd⟩
      refine ⟨_, rfl, _, _, rfl, rfl, _, rfl, dec_iff (fun g1 => ⟨_, rfl, _, _, rfl, rfl, _, rfl, ?_⟩) fun b1 => ⟨_, rfl, iteT (bad (fun g => b1 g.1.1.1))⟩⟩
      refine bool_iff (fun b2 => bad (fun g => ?_)) fun g2 => ?_
      · have := g.1.1.2
        simp [this] at b2
      refine ⟨_, rfl, _, _, rfl, rfl, _, rfl, dec_iff (fun g3 => ⟨_, rfl, _, _, rfl, rfl, _, rfl, ?_⟩) fun b1 => ⟨_, rfl, iteT (bad (fun g => b1 g.1.2.1.1))⟩⟩
      refine bool_iff (fun b2 => bad (fun g => ?_)) fun g4 => ?_
      · have := g.1.2.1.2
        simp [this] at b2
      refine ⟨_, rfl, _, rfl, rfl, _, rfl, ?_⟩
      refine dec_iff (fun b5 => bad (fun g => ?_)) fun g5 => ?_
      · exact g.1.2.2 (V.int.inj b5)
      refine ⟨_, rfl, _, rfl, _, _, rfl, rfl, _, rfl, ?_⟩
      refine dec_iff (fun b6 => bad (fun g => ?_)) fun g6 => ?_
      · have := g.2
        omega
      · refine ⟨rfl, fun j hj => ?_, _, _, _, _, _, rfl⟩
        by_cases c : j < i
        · exact hgood j c
        · have e : j = i := by omega
          subst e
          exact ⟨⟨⟨g1, by simpa using g2⟩, ⟨g3, by simpa using g4⟩, fun e => g5 (congrArg V.int e)⟩, by omega⟩
    · rintro σ H' ⟨rfl, hgood, o1, o2, o3, o4, o5, rfl⟩
      refine kQ fun k hk => hgood k ?_
      rw [List.length_map, hn]
      exact hk
theorem ok_spare {f : Addr} {fd : FuncData} (F : Fun K "_spare" "_spare" s_spare f fd) (T : Txt P K mg CA CB) : FnOk P w K mg base CX0 1 f fd ["count", "arcs", "amounts"] (spSpare K) := by
  refine F.ok sc_spare (fun vs H Q E h => ?_) (fun cdv A outer s H vs Q E hr h => ?_)
  · obtain ⟨n, a, am, arcs, lo, hi, xs, rfl, _⟩ := h
    rfl
  · obtain ⟨n, a, am, arcs, lo, hi, xs, rfl, hA, hX, hlx, hl, hn, hgood, k⟩ := h
    refine ⟨_, (pss_cons (ps_set (i := 3) sc_spare.nd rfl (Or.inl rfl) (pe_op op_rep (pe_lst (pa_cons pe_int pa_nil)) (pv 0)))
    (pss_cons (ps_for PassesOwn.never rfl (pi_range1 (by rfl) T.m_range (pa_cons (pe_callB call_len_seq (by rfl) T.m_len (by decide +kernel) (pa_cons (pv 1) pa_nil)) pa_nil)) (pg_name (i := 4) sc_spare.nd rfl (Or.inl rfl))
      (pss_cons (ps_augS (pv 3) (pe_ix ix_tup (pe_ix ix_list (pv 1) (pv 4) (fun _ _ => rfl)) pe_int (fun _ _ => rfl)) pget_list (pe_ix ix_list (pv 2) (pv 4) (fun _ _ => rfl)) ip_sub set_list)
      (pss_one (ps_augS (pv 3) (pe_ix ix_tup (pe_ix ix_list (pv 1) (pv 4) (fun _ _ => rfl)) pe_int (fun _ _ => rfl)) pget_list (pe_ix ix_list (pv 2) (pv 4) (fun _ _ => rfl)) ip_add set_list))))
    (pss_one (ps_ret (pv 3))))), ?_⟩
    obtain ⟨ts, hL, hts, hT⟩ := hA.at
    refine ⟨by show 1 ≤ sizeLine; decide, fun l0 hl0 => ⟨_, rfl, l0, _, _, rfl, rfl, upd_same, by omega, by omega, ?_, fun p hp => ?_⟩⟩
    · show 1 * (n : Int).toNat ≤ sizeLine
      rw [Nat.one_mul]
      exact len_line hn
    have np : H p = none := ((Fr.refl [] H).new hl0).free hp
    have e0 : (List.replicate (n : Int).toNat [V.int 0]).flatten = (Cir.spareL n [] []).map V.int := by
      rw [Cir.spareL_zero, List.map_replicate, rep_one]
      rfl
    rw [e0]
    refine ⟨_, rfl, _, _, rfl, .inl ?_, _, rfl, (rg_ok (by simp; omega)).1, (rg_ok (by simp; omega)).2, for_rng (n := (ts.map V.ref).length)
      (fun i σ H' => Fr [] H H' ∧ H' p = some (.lst ((Cir.spareL n (arcs.take i) (xs.take i)).map V.int)) ∧ ∃ o : Option V, σ = [some (.int (n : Int)), some (.ref a), some (.ref am), some (.ref p), o])
      ⟨((Fr.refl [] H).new hl0).new hp, upd_same, _, rfl⟩ ?_ ?_⟩
    · exact (((Fr.refl [] H).new hl0).new hp).l hL
    · rintro i σ H' hi ⟨e, h1, o, rfl⟩
      rw [List.length_map, hts] at hi
      obtain ⟨t, _, e1, e2⟩ := hT i hi
      have g := hgood i hi
      have len1 : (arcs.take i).length = (xs.take i).length := by rw [List.length_take, List.length_take, hlx]
      have i1 : (Cir.arcOf arcs i).1.toNat < (Cir.spareL n (arcs.take i) (xs.take i)).length := by rw [Cir.spareL_len]; have := g.1; omega
      have i2 : (Cir.arcOf arcs i).2.toNat < (Cir.spareL n (arcs.take i) (xs.take i)).length := by rw [Cir.spareL_len]; have := g.2.1; omega
      refine ⟨_, rfl, _, rfl, _, rfl, _, _, _, _, rfl, rfl, e.l hL, e1, _, _, _, _, rfl, rfl, e.t e2, rfl, ?_⟩
      refine ⟨_, _, _, _, rfl, rfl, SqL.of h1, at_int g.1.1 (by rw [List.getElem?_map, Cir.spareL_get g.1.1 g.1.2]; rfl), ?_⟩
      refine ⟨_, rfl, _, rfl, _, _, _, _, rfl, rfl, e.l hX, at_part (by omega), _, _, rfl, rfl, _, _, _, _, rfl, rfl, h1, ix_int g.1.1 (by rw [List.length_map, Cir.spareL_len]; exact g.1.2), ?_⟩
      have e' : Fr [] H (upd H' p (.lst (((Cir.spareL n (arcs.take i) (xs.take i)).map V.int).set (Cir.arcOf arcs i).1.toNat (.int (Cir.net (arcs.take i) (xs.take i) (Cir.arcOf arcs i).1 - Cir.part xs i))))) := e.put (.inr np)
      refine ⟨_, rfl, _, rfl, _, rfl, _, _, _, _, rfl, rfl, e'.l hL, e1, _, _, _, _, rfl, rfl, e'.t e2, rfl, ?_⟩
      refine ⟨_, _, _, _, rfl, rfl, SqL.of upd_same, at_int (v := V.int (Cir.net (arcs.take i) (xs.take i) (Cir.arcOf arcs i).2)) g.2.1.1 ?_, ?_⟩
      · rw [List.getElem?_set_ne (by have := g.1; have := g.2.1; have := g.2.2; omega), List.getElem?_map, Cir.spareL_get g.2.1.1 g.2.1.2]
        rfl
      refine ⟨_, rfl, _, rfl, _, _, _, _, rfl, rfl, e'.l hX, at_part (by omega), _, _, rfl, rfl, _, _, _, _, rfl, rfl, upd_same, ix_int g.2.1.1 (by rw [List.length_set, List.length_map, Cir.spareL_len]; exact g.2.1.2), ?_⟩
      refine ⟨e'.put (.inr np), ?_, _, rfl⟩
      rw [upd_same]
      have st := Cir.spare_step (n := n) (x := Cir.part xs i) len1 g
      rw [take_succ (Cir.get_arc hi), take_succ (Cir.get_part (by omega)), ← st, List.map_set, List.map_set]
    · rintro σ H' ⟨e, h1, o, rfl⟩
      rw [List.length_map, hts, List.take_length, hlx, List.take_length] at h1
      exact ⟨_, rfl, k p H' np e h1⟩
end
section
variable {P : Program} {w : World} {K : PySem.W.Frag} {mg : Str → Option Value} {base : Heap} {CA CB : Addr}
theorem ok_near {f : Addr} {fd : FuncData} (F : Fun K "_near" "_near" s_near f fd) (T : Txt P K mg CA CB) : FnOk P w K mg base CX0 1 f fd ["count", "arcs"] (spNear K) := by
  refine F.ok sc_near (fun vs H Q E h => ?_) (fun cdv A outer s H vs Q E hr h => ?_)
  · obtain ⟨n, a, arcs, lo, hi, rfl, _⟩ := h
    rfl
  · obtain ⟨n, a, arcs, lo, hi, rfl, hA, hl, hn, hgood, k⟩ := h
    refine ⟨_, (pss_cons (ps_setLc (i := 2) (own := [("_", 4)]) rfl sc_near.nd rfl rfl (sw_true rfl rfl rfl (by decide +kernel)) (pi_range1 (by rfl) T.m_range (pa_cons (pv 0) pa_nil)) (blkOk_by (own := [("_", 4)]) (N := n_near) (sc := defScope s_near) (by decide +kernel)) (fun _ _ _ _ _ => (pg_name (i := 4) sc_near.nd rfl (Or.inl rfl))) (fun _ _ _ _ _ => pts_nil) (fun _ _ _ _ _ => (pe_lst pa_nil)))
    (pss_cons (ps_for PassesOwn.never rfl (pi_range1 (by rfl) T.m_range (pa_cons (pe_callB call_len_seq (by rfl) T.m_len (by decide +kernel) (pa_cons (pv 1) pa_nil)) pa_nil)) (pg_name (i := 3) sc_near.nd rfl (Or.inl rfl))
      (pss_cons (ps_expr (pe_bm PySem.F.plainAttrs_list PySem.F.slot_list_append PySem.F.type_list_append mt_append (pe_ix ix_list (pv 2) (pe_ix ix_tup (pe_ix ix_list (pv 1) (pv 3) (fun _ _ => rfl)) pe_int (fun _ _ => rfl)) (fun _ _ => rfl)) (pa_cons (pv 3) pa_nil)))
      (pss_one (ps_expr (pe_bm PySem.F.plainAttrs_list PySem.F.slot_list_append PySem.F.type_list_append mt_append (pe_ix ix_list (pv 2) (pe_ix ix_tup (pe_ix ix_list (pv 1) (pv 3) (fun _ _ => rfl)) pe_int (fun _ _ => rfl)) (fun _ _ => rfl)) (pa_cons (pv 3) pa_nil))))))
    (pss_one (ps_ret (pv 2))))), ?_⟩
    obtain ⟨ts, hL, hts, hT⟩ := hA.at
    refine ⟨_, rfl, _, rfl, (rg_ok (by omega)).1, (rg_ok (by omega)).2, fun D hD => lc_rng (n := n)
      (fun i H' => ∃ rs : List Addr, rs.length = i ∧ H' D = some (.lst (rs.map V.ref)) ∧ Fr [] H H' ∧ rs.Nodup ∧ ∀ r ∈ rs, H r = none ∧ r ≠ D ∧ H' r = some (.lst [])) ⟨[], rfl, upd_same, (Fr.refl _ _).new hD, List.nodup_nil, fun r h => by simp at h⟩ ?_ ?_⟩
    · rintro i H' hi ⟨rs, h1, h2, e, nd, h3⟩
      refine ⟨rfl, by show 0 ≤ sizeLine; exact Nat.zero_le _, fun q hq => ⟨_, by rw [upd_ne (ne_of_none h2 hq)]; exact h2, len_lt (by rw [List.length_map]; omega), rs ++ [q], ?_⟩⟩
      have hqD : q ≠ D := (ne_of_none h2 hq).symm
      refine ⟨by simp [h1], ?_, (e.new hq).put (.inr hD), ?_, fun r hr => ?_⟩
      · rw [upd_same, List.map_append]
        rfl
      · rw [List.nodup_append]
        refine ⟨nd, by simp, fun x hx y hy => ?_⟩
        rw [List.mem_singleton] at hy
        subst hy
        exact ne_of_none (h3 x hx).2.2 hq
      · rcases List.mem_append.mp hr with hr | hr
        · have z := h3 r hr
          exact ⟨z.1, z.2.1, by rw [upd_ne z.2.1, upd_ne (ne_of_none z.2.2 hq)]; exact z.2.2⟩
        · rw [List.mem_singleton] at hr
          subst hr
          exact ⟨e.free hq, hqD, by rw [upd_ne hqD]; exact upd_same⟩
    · rintro H1 ⟨rs, h1, h2, e1, nd, h3⟩
      refine ⟨_, rfl, _, _, rfl, .inl (e1.l hL), _, rfl, (rg_ok (by simp; omega)).1, (rg_ok (by simp; omega)).2, for_rng (n := (ts.map V.ref).length)
        (fun i σ H' => Fr [] H H' ∧ H' D = some (.lst (rs.map V.ref)) ∧ (∀ (v : Nat) (r : Addr), rs[v]? = some r → H' r = some (.lst ((Cir.nearI arcs i v).map vN))) ∧ ∃ o1 o2 : Option V, σ = [some (.int (n : Int)), some (.ref a), some (.ref D), o1, o2])
        ⟨e1, h2, fun v r hr => (h3 r (List.mem_of_getElem? hr)).2.2, _, _, rfl⟩ ?_ ?_⟩
      · rintro i σ H' hi ⟨e, g1, g2, o1, o2, rfl⟩
        rw [List.length_map, hts] at hi
        obtain ⟨t, _, a1, a2⟩ := hT i hi
        have g := hgood i hi
        have b1 : (Cir.arcOf arcs i).1.toNat < rs.length := by have := g.1; omega
        have b2 : (Cir.arcOf arcs i).2.toNat < rs.length := by have := g.2.1; omega
        have c1 := List.getElem?_eq_getElem b1
        have c2 := List.getElem?_eq_getElem b2
        generalize rs[(Cir.arcOf arcs i).1.toNat] = r1 at c1
        generalize rs[(Cir.arcOf arcs i).2.toNat] = r2 at c2
        have n12 : r1 ≠ r2 := fun z => by
          subst z
          obtain ⟨p1, q1⟩ := List.getElem?_eq_some_iff.mp c1
          obtain ⟨p2, q2⟩ := List.getElem?_eq_some_iff.mp c2
          have := (List.getElem_inj nd).mp (q1.trans q2.symm)
          have := g.1; have := g.2.1; have := g.2.2
          omega
        have m1 := h3 r1 (List.mem_of_getElem? c1)
        have m2 := h3 r2 (List.mem_of_getElem? c2)
        have f1 := g2 _ r1 c1
        have f2 := g2 _ r2 c2
        refine ⟨_, rfl, _, rfl, _, rfl, _, _, _, _, rfl, rfl, e.l hL, a1, _, _, _, _, rfl, rfl, e.t a2, rfl, _, _, _, _, rfl, rfl, SqL.of g1, at_int (v := V.ref r1) g.1.1 (by rw [List.getElem?_map, c1]; rfl), ?_⟩
        refine ⟨.inl ⟨rfl, _, SqL.of f1⟩, _, rfl, _, _, _, rfl, rfl, f1, len_lt (by rw [List.length_map]; have := Cir.nearI_len arcs i (((Cir.arcOf arcs i).1.toNat : Nat) : Int); omega), ?_⟩
        have e' := e.put (p := r1) (o := .lst ((Cir.nearI arcs i (((Cir.arcOf arcs i).1.toNat : Nat) : Int)).map vN ++ [.int (i : Int)])) (.inr m1.1)
        have g1' : (upd H' r1 (.lst ((Cir.nearI arcs i (((Cir.arcOf arcs i).1.toNat : Nat) : Int)).map vN ++ [.int (i : Int)]))) D = some (.lst (rs.map V.ref)) := by rw [upd_ne (Ne.symm m1.2.1)]; exact g1
        have f2' : (upd H' r1 (.lst ((Cir.nearI arcs i (((Cir.arcOf arcs i).1.toNat : Nat) : Int)).map vN ++ [.int (i : Int)]))) r2 = some (.lst ((Cir.nearI arcs i (((Cir.arcOf arcs i).2.toNat : Nat) : Int)).map vN)) := by rw [upd_ne (Ne.symm n12)]; exact f2
        refine ⟨_, rfl, _, rfl, _, rfl, _, _, _, _, rfl, rfl, e'.l hL, a1, _, _, _, _, rfl, rfl, e'.t a2, rfl, _, _, _, _, rfl, rfl, SqL.of g1', at_int (v := V.ref r2) g.2.1.1 (by rw [List.getElem?_map, c2]; rfl), ?_⟩
        refine ⟨.inl ⟨rfl, _, SqL.of f2'⟩, _, rfl, _, _, _, rfl, rfl, f2', len_lt (by rw [List.length_map]; have := Cir.nearI_len arcs i (((Cir.arcOf arcs i).2.toNat : Nat) : Int); omega), ?_⟩
        refine ⟨e'.put (.inr m2.1), by rw [upd_ne (Ne.symm m2.2.1)]; exact g1', fun v r hv => ?_, _, _, rfl⟩
        have pos1 : (((Cir.arcOf arcs i).1.toNat : Nat) : Int) = (Cir.arcOf arcs i).1 := Int.toNat_of_nonneg g.1.1
        have pos2 : (((Cir.arcOf arcs i).2.toNat : Nat) : Int) = (Cir.arcOf arcs i).2 := Int.toNat_of_nonneg g.2.1.1
        have same : ∀ {u v : Nat} {r : Addr}, rs[u]? = some r → rs[v]? = some r → u = v := fun {u v r} x y => by
          obtain ⟨p1, q1⟩ := List.getElem?_eq_some_iff.mp x
          obtain ⟨p2, q2⟩ := List.getElem?_eq_some_iff.mp y
          exact (List.getElem_inj nd).mp (q1.trans q2.symm)
        rw [Cir.nearI_succ]
        by_cases z2 : r = r2
        · subst z2
          have ev := same c2 hv
          subst ev
          rw [upd_same, pos2]
          have : Cir.touch (Cir.arcOf arcs i) (Cir.arcOf arcs i).2 = true := by simp [Cir.touch]
          rw [if_pos this, List.map_append]
          rfl
        · rw [upd_ne z2]
          by_cases z1 : r = r1
          · subst z1
            have ev := same c1 hv
            subst ev
            rw [upd_same, pos1]
            have : Cir.touch (Cir.arcOf arcs i) (Cir.arcOf arcs i).1 = true := by simp [Cir.touch]
            rw [if_pos this, List.map_append]
            rfl
          · rw [upd_ne z1, g2 v r hv]
            have : ¬ Cir.touch (Cir.arcOf arcs i) (v : Int) = true := fun h => by
              unfold Cir.touch at h
              simp only [Bool.or_eq_true, decide_eq_true_eq] at h
              rcases h with h | h
              · have : v = (Cir.arcOf arcs i).1.toNat := by omega
                rw [this, c1] at hv
                exact z1 (Option.some.inj hv).symm
              · have : v = (Cir.arcOf arcs i).2.toNat := by omega
                rw [this, c2] at hv
                exact z2 (Option.some.inj hv).symm
            rw [if_neg this, List.append_nil]
      · rintro σ H' ⟨e, g1, g2, o1, o2, rfl⟩
        refine ⟨_, rfl, k D H' hD e ⟨rs, h1, g1, fun v r hr => ?_, fun r hr => (h3 r hr).1⟩⟩
        rw [List.length_map, hts] at g2
        exact g2 v r hr
end
/-! ### the bed -/
structure BedA where
  p : Addr
  t : Addr
  h : Addr
  l : Addr
  u : Addr
  c : Addr
  n : Addr
  s : Addr
def flds (b : BedA) : List (Str × V) := [("tails", .ref b.t), ("heads", .ref b.h), ("lows", .ref b.l), ("highs", .ref b.u), ("carried", .ref b.c), ("near", .ref b.n), ("spare", .ref b.s)]
/-- a bed stands at b.p -/
structure BedAt (C : Addr) (H : Hp) (b : BedA) (n : Nat) (arcs : List Cir.Arc) (lo hi x sp : List Int) : Prop where
  ob : ∃ dx, H b.p = some (.ins C dx (flds b))
  tl : H b.t = some (.lst (arcs.map fun a => V.int a.1))
  hd : H b.h = some (.lst (arcs.map fun a => V.int a.2))
  lw : H b.l = some (.lst (lo.map V.int))
  ug : H b.u = some (.lst (hi.map V.int))
  cr : H b.c = some (.lst (x.map V.int))
  nr : NearAt (fun r => r ≠ b.c ∧ r ≠ b.s) H b.n n arcs
  sr : H b.s = some (.lst (sp.map V.int))
  ds : ∀ a ∈ [b.p, b.t, b.h, b.l, b.u, b.n], a ≠ b.c ∧ a ≠ b.s
  cs : b.c ≠ b.s
theorem BedAt.fr {C : Addr} {H H' : Hp} {b : BedA} {n : Nat} {arcs : List Cir.Arc} {lo hi x sp : List Int} (B : BedAt C H b n arcs lo hi x sp) (e : Fr [] H H') : BedAt C H' b n arcs lo hi x sp := by
  obtain ⟨⟨dx, h0⟩, h1, h2, h3, h4, h5, h6, h7, h8, h9⟩ := B
  exact ⟨⟨dx, e _ _ h0 (by simp)⟩, e _ _ h1 (by simp), e _ _ h2 (by simp), e _ _ h3 (by simp), e _ _ h4 (by simp), e _ _ h5 (by simp), h6.fr e (by simp) (fun _ _ => by simp), e _ _ h7 (by simp), h8, h9⟩
theorem BedAt.putC {C : Addr} {H : Hp} {b : BedA} {n : Nat} {arcs : List Cir.Arc} {lo hi x sp : List Int} (B : BedAt C H b n arcs lo hi x sp) (y : List Int) : BedAt C (upd H b.c (.lst (y.map V.int))) b n arcs lo hi y sp := by
  obtain ⟨⟨dx, h0⟩, h1, h2, h3, h4, h5, h6, h7, h8, h9⟩ := B
  have g := fun a ha => (h8 a ha).1
  simp only [List.mem_cons, List.not_mem_nil, or_false, forall_eq_or_imp, forall_eq] at g
  obtain ⟨g0, g1, g2, g3, g4, g6⟩ := g
  exact ⟨⟨dx, by rw [upd_ne g0]; exact h0⟩, by rw [upd_ne g1]; exact h1, by rw [upd_ne g2]; exact h2, by rw [upd_ne g3]; exact h3, by rw [upd_ne g4]; exact h4, upd_same,
    h6.fr (S := [b.c]) ((Fr.refl _ H).put (.inl (by simp))) (by simpa using g6) (fun r hr => by simpa using hr.1), by rw [upd_ne h9.symm]; exact h7, h8, h9⟩
theorem BedAt.putS {C : Addr} {H : Hp} {b : BedA} {n : Nat} {arcs : List Cir.Arc} {lo hi x sp : List Int} (B : BedAt C H b n arcs lo hi x sp) (y : List Int) : BedAt C (upd H b.s (.lst (y.map V.int))) b n arcs lo hi x y := by
  obtain ⟨⟨dx, h0⟩, h1, h2, h3, h4, h5, h6, h7, h8, h9⟩ := B
  have g := fun a ha => (h8 a ha).2
  simp only [List.mem_cons, List.not_mem_nil, or_false, forall_eq_or_imp, forall_eq] at g
  obtain ⟨g0, g1, g2, g3, g4, g6⟩ := g
  exact ⟨⟨dx, by rw [upd_ne g0]; exact h0⟩, by rw [upd_ne g1]; exact h1, by rw [upd_ne g2]; exact h2, by rw [upd_ne g3]; exact h3, by rw [upd_ne g4]; exact h4, by rw [upd_ne h9]; exact h5,
    h6.fr (S := [b.s]) ((Fr.refl _ H).put (.inl (by simp))) (by simpa using g6) (fun r hr => by simpa using hr.2), upd_same, h8, h9⟩
theorem fl_t (b : BedA) : (flds b).lookup ("tails" : Str) = some (.ref b.t) := lookup_hd
theorem fl_h (b : BedA) : (flds b).lookup ("heads" : Str) = some (.ref b.h) := by
  unfold flds
  rw [lookup_tl (by decide +kernel)]
  exact lookup_hd
theorem fl_l (b : BedA) : (flds b).lookup ("lows" : Str) = some (.ref b.l) := by
  unfold flds
  rw [lookup_tl (by decide +kernel), lookup_tl (by decide +kernel)]
  exact lookup_hd
theorem fl_u (b : BedA) : (flds b).lookup ("highs" : Str) = some (.ref b.u) := by
  unfold flds
  rw [lookup_tl (by decide +kernel), lookup_tl (by decide +kernel), lookup_tl (by decide +kernel)]
  exact lookup_hd
theorem fl_c (b : BedA) : (flds b).lookup ("carried" : Str) = some (.ref b.c) := by
  unfold flds
  rw [lookup_tl (by decide +kernel), lookup_tl (by decide +kernel), lookup_tl (by decide +kernel), lookup_tl (by decide +kernel)]
  exact lookup_hd
theorem fl_n (b : BedA) : (flds b).lookup ("near" : Str) = some (.ref b.n) := by
  unfold flds
  rw [lookup_tl (by decide +kernel), lookup_tl (by decide +kernel), lookup_tl (by decide +kernel), lookup_tl (by decide +kernel), lookup_tl (by decide +kernel)]
  exact lookup_hd
theorem fl_s (b : BedA) : (flds b).lookup ("spare" : Str) = some (.ref b.s) := by
  unfold flds
  rw [lookup_tl (by decide +kernel), lookup_tl (by decide +kernel), lookup_tl (by decide +kernel), lookup_tl (by decide +kernel), lookup_tl (by decide +kernel), lookup_tl (by decide +kernel)]
  exact lookup_hd
theorem fl_no (b : BedA) {m : Str} (h : ∀ f ∈ (["tails", "heads", "lows", "highs", "carried", "near", "spare"] : List Str), ¬ m = f) : (flds b).lookup m = none := by
  simp only [List.mem_cons, List.not_mem_nil, or_false, forall_eq_or_imp, forall_eq] at h
  obtain ⟨h1, h2, h3, h4, h5, h6, h7⟩ := h
  unfold flds
  rw [lookup_tl h1, lookup_tl h2, lookup_tl h3, lookup_tl h4, lookup_tl h5, lookup_tl h6, lookup_tl h7]
  rfl
section
variable {P : Program} {K : PySem.W.Frag} {mg : Str → Option Value} {CA CB : Addr} {H : Hp} {b : BedA} {n : Nat} {arcs : List Cir.Arc} {lo hi x sp : List Int} {Q : V → Prop}
theorem BedAt.xT (B : BedAt CB H b n arcs lo hi x sp) (T : Txt P K mg CA CB) (q : Q (.ref b.t)) : ∃ a C dx fs v, V.ref b.p = V.ref a ∧ H a = some (.ins C dx fs) ∧ Cls K C ∧ NoAttr K C "tails" ∧ fs.lookup ("tails" : Str) = some v ∧ Q v := by
  obtain ⟨dx, h⟩ := B.ob
  exact ⟨b.p, CB, dx, _, _, rfl, h, T.clB, T.nT, fl_t b, q⟩
theorem BedAt.xH (B : BedAt CB H b n arcs lo hi x sp) (T : Txt P K mg CA CB) (q : Q (.ref b.h)) : ∃ a C dx fs v, V.ref b.p = V.ref a ∧ H a = some (.ins C dx fs) ∧ Cls K C ∧ NoAttr K C "heads" ∧ fs.lookup ("heads" : Str) = some v ∧ Q v := by
  obtain ⟨dx, h⟩ := B.ob
  exact ⟨b.p, CB, dx, _, _, rfl, h, T.clB, T.nH, fl_h b, q⟩
theorem BedAt.xL (B : BedAt CB H b n arcs lo hi x sp) (T : Txt P K mg CA CB) (q : Q (.ref b.l)) : ∃ a C dx fs v, V.ref b.p = V.ref a ∧ H a = some (.ins C dx fs) ∧ Cls K C ∧ NoAttr K C "lows" ∧ fs.lookup ("lows" : Str) = some v ∧ Q v := by
  obtain ⟨dx, h⟩ := B.ob
  exact ⟨b.p, CB, dx, _, _, rfl, h, T.clB, T.nL, fl_l b, q⟩
theorem BedAt.xU (B : BedAt CB H b n arcs lo hi x sp) (T : Txt P K mg CA CB) (q : Q (.ref b.u)) : ∃ a C dx fs v, V.ref b.p = V.ref a ∧ H a = some (.ins C dx fs) ∧ Cls K C ∧ NoAttr K C "highs" ∧ fs.lookup ("highs" : Str) = some v ∧ Q v := by
  obtain ⟨dx, h⟩ := B.ob
  exact ⟨b.p, CB, dx, _, _, rfl, h, T.clB, T.nU, fl_u b, q⟩
theorem BedAt.xC (B : BedAt CB H b n arcs lo hi x sp) (T : Txt P K mg CA CB) (q : Q (.ref b.c)) : ∃ a C dx fs v, V.ref b.p = V.ref a ∧ H a = some (.ins C dx fs) ∧ Cls K C ∧ NoAttr K C "carried" ∧ fs.lookup ("carried" : Str) = some v ∧ Q v := by
  obtain ⟨dx, h⟩ := B.ob
  exact ⟨b.p, CB, dx, _, _, rfl, h, T.clB, T.nC, fl_c b, q⟩
theorem BedAt.xN (B : BedAt CB H b n arcs lo hi x sp) (T : Txt P K mg CA CB) (q : Q (.ref b.n)) : ∃ a C dx fs v, V.ref b.p = V.ref a ∧ H a = some (.ins C dx fs) ∧ Cls K C ∧ NoAttr K C "near" ∧ fs.lookup ("near" : Str) = some v ∧ Q v := by
  obtain ⟨dx, h⟩ := B.ob
  exact ⟨b.p, CB, dx, _, _, rfl, h, T.clB, T.nN, fl_n b, q⟩
theorem BedAt.xS (B : BedAt CB H b n arcs lo hi x sp) (T : Txt P K mg CA CB) (q : Q (.ref b.s)) : ∃ a C dx fs v, V.ref b.p = V.ref a ∧ H a = some (.ins C dx fs) ∧ Cls K C ∧ NoAttr K C "spare" ∧ fs.lookup ("spare" : Str) = some v ∧ Q v := by
  obtain ⟨dx, h⟩ := B.ob
  exact ⟨b.p, CB, dx, _, _, rfl, h, T.clB, T.nS, fl_s b, q⟩
end
theorem at_1 {arcs : List Cir.Arc} {k : Nat} (h : k < arcs.length) : atI (arcs.map fun a => V.int a.1) (k : Int) = some (.int (Cir.arcOf arcs k).1) := at_map (Cir.get_arc h)
theorem at_2 {arcs : List Cir.Arc} {k : Nat} (h : k < arcs.length) : atI (arcs.map fun a => V.int a.2) (k : Int) = some (.int (Cir.arcOf arcs k).2) := at_map (Cir.get_arc h)
/-- __init__ -/
def spInit (K : PySem.W.Frag) (C : Addr) : Sp := fun vs H Q _ => ∃ (p dx a : Addr) (n : Nat) (arcs : List Cir.Arc) (lo hi : List Int), vs = [.ref p, .int (n : Int), .ref a] ∧ H p = some (.ins C dx []) ∧ NetAt K H a arcs lo hi ∧ arcs.length ≤ 10000 ∧ n ≤ 10000 ∧
  (∀ k, k < arcs.length → Cir.Good n (Cir.arcOf arcs k)) ∧ ∀ (b : BedA) (H' : Hp), b.p = p → H b.c = none → H b.s = none → Fr [p] H H' → BedAt C H' b n arcs lo hi lo (Cir.spareL n arcs lo) → Q .non H'
def spLeads (C : Addr) : Sp := fun vs H Q _ => ∃ (b : BedA) (n : Nat) (arcs : List Cir.Arc) (lo hi x sp : List Int) (v : Int) (a : Nat), vs = [.ref b.p, .int v, .int (a : Int)] ∧ BedAt C H b n arcs lo hi x sp ∧ Cir.Bn arcs lo hi x ∧ a < arcs.length ∧ Q (.int (Cir.leadsTo arcs lo hi x v a)) H
/-- at o: attributes are stored at a new instance -/
theorem netLen {K : PySem.W.Frag} {H : Hp} {a : Addr} {arcs : List Cir.Arc} {lo hi : List Int} (h : NetAt K H a arcs lo hi) : lo.length = arcs.length ∧ hi.length = arcs.length := by
  obtain ⟨ts, h1, h2, h3, h4, h5⟩ := h
  exact ⟨h3, h4⟩
theorem sql1 {K : PySem.W.Frag} {H H' : Hp} {p a C dx : Addr} {fs : List (Str × V)} {xs : List V} (h : SqL K H a xs) (e : Fr [p] H H') (hp : H p = some (.ins C dx fs)) : SqL K H' a xs := by
  rcases h with (h | ⟨o, h⟩) | h
  · exact .inl (.inl (e _ _ h (by rw [List.mem_singleton]; rintro rfl; rw [hp] at h; cases h)))
  · exact .inl (.inr ⟨o, e _ _ h (by rw [List.mem_singleton]; rintro rfl; rw [hp] at h; cases h)⟩)
  · exact .inr h
theorem sqt1 {K : PySem.W.Frag} {H H' : Hp} {p a C dx : Addr} {fs : List (Str × V)} {xs : List V} (h : SqT K H a xs) (e : Fr [p] H H') (hp : H p = some (.ins C dx fs)) : SqT K H' a xs := by
  rcases h with (h | ⟨o, h⟩) | h
  · exact .inl (.inl (e _ _ h (by rw [List.mem_singleton]; rintro rfl; rw [hp] at h; cases h)))
  · exact .inl (.inr ⟨o, e _ _ h (by rw [List.mem_singleton]; rintro rfl; rw [hp] at h; cases h)⟩)
  · exact .inr h
theorem NetAt.fr1 {K : PySem.W.Frag} {H H' : Hp} {p a C dx : Addr} {fs : List (Str × V)} {arcs : List Cir.Arc} {lo hi : List Int} (h : NetAt K H a arcs lo hi) (e : Fr [p] H H') (hp : H p = some (.ins C dx fs)) : NetAt K H' a arcs lo hi := by
  obtain ⟨ts, h1, h2, h3, h4, h5⟩ := h
  exact ⟨ts, sql1 h1 e hp, h2, h3, h4, fun k t ht => sqt1 (h5 k t ht) e hp⟩
section
variable {P : Program} {w : World} {K : PySem.W.Frag} {mg : Str → Option Value} {base : Heap} {CA CB : Addr}
theorem ok_leads {f : Addr} {fd : FuncData} (F : Fun K "leads" "Bed.leads" s_Bed_leads f fd) (T : Txt P K mg CA CB) : FnOk P w K mg base CX0 1 f fd ["self", "node", "arc"] (spLeads CB) := by
  refine F.ok sc_Bed_leads (fun vs H Q E h => ?_) (fun cdv A outer s H vs Q E hr h => ?_)
  · obtain ⟨b, n, arcs, lo, hi, x, sp, v, a, rfl, _⟩ := h
    rfl
  · obtain ⟨b, n, arcs, lo, hi, x, sp, v, a, rfl, B, N, ha, k⟩ := h
    refine ⟨_, (Evl.pss_cut (ps_if (pt_cmpR op_eq (pe_ix ix_list (pe_fld (pv 0) rfl) (pv 2) (fun _ _ => rfl)) (pv 1) (nomark _))
      (pss_one (ps_if (pt_cmpR op_lt (pe_ix ix_list (pe_fld (pv 0) rfl) (pv 2) (fun _ _ => rfl)) (pe_ix ix_list (pe_fld (pv 0) rfl) (pv 2) (fun _ _ => rfl)) (nomark _))
        (pss_one (ps_ret (pe_ix ix_list (pe_fld (pv 0) rfl) (pv 2) (fun _ _ => rfl))))
        pss_nil))
      (pss_one (ps_if (pt_cmpR op_gt (pe_ix ix_list (pe_fld (pv 0) rfl) (pv 2) (fun _ _ => rfl)) (pe_ix ix_list (pe_fld (pv 0) rfl) (pv 2) (fun _ _ => rfl)) (nomark _))
        (pss_one (ps_ret (pe_ix ix_list (pe_fld (pv 0) rfl) (pv 2) (fun _ _ => rfl))))
        pss_nil)))
    (pss_one (ps_ret (pe_un un_neg pe_int)))), ?_⟩
    have hx : a < x.length := by rw [N.lx]; exact ha
    have hlo : a < lo.length := by rw [N.ll]; exact ha
    have hhi : a < hi.length := by rw [N.lh]; exact ha
    unfold Cir.leadsTo at k
    refine ⟨fun σ' H' => σ' = [some (.ref b.p), some (.int v), some (.int (a : Int))] ∧ H' = H ∧ ((Cir.arcOf arcs a).1 = v → ¬ Cir.part x a < Cir.part hi a) ∧ ((Cir.arcOf arcs a).1 ≠ v → ¬ Cir.part lo a < Cir.part x a), ?_, ?_⟩
    · refine ⟨_, rfl, B.xT T ⟨_, rfl, _, _, _, _, rfl, rfl, SqL.of B.tl, at_1 ha, _, rfl, rfl, _, rfl, eq_if (fun c => ?_) fun c => ?_⟩⟩
      · rw [if_pos c] at k
        refine ⟨_, rfl, B.xC T ⟨_, rfl, _, _, _, _, rfl, rfl, SqL.of B.cr, at_part hx, _, rfl, B.xU T ⟨_, rfl, _, _, _, _, rfl, rfl, SqL.of B.ug, at_part hhi, _, _, rfl, rfl, _, rfl, dec_iff (fun d => ?_) fun d => ?_⟩⟩⟩
        · rw [if_pos d] at k
          exact ⟨_, rfl, B.xH T ⟨_, rfl, _, _, _, _, rfl, rfl, SqL.of B.hd, at_2 ha, k⟩⟩
        · exact ⟨rfl, rfl, fun _ => d, fun z => absurd c z⟩
      · rw [if_neg c] at k
        refine ⟨_, rfl, B.xC T ⟨_, rfl, _, _, _, _, rfl, rfl, SqL.of B.cr, at_part hx, _, rfl, B.xL T ⟨_, rfl, _, _, _, _, rfl, rfl, SqL.of B.lw, at_part hlo, _, _, rfl, rfl, _, rfl, dec_iff (fun d => ?_) fun d => ?_⟩⟩⟩
        · rw [if_pos d] at k
          exact ⟨_, rfl, B.xT T ⟨_, rfl, _, _, _, _, rfl, rfl, SqL.of B.tl, at_1 ha, k⟩⟩
        · exact ⟨rfl, rfl, fun z => absurd z c, fun _ => d⟩
    · rintro σ' H' ⟨rfl, rfl, c1, c2⟩
      refine ⟨_, rfl, ?_⟩
      by_cases c : (Cir.arcOf arcs a).1 = v
      · rw [if_pos c, if_neg (c1 c)] at k
        exact k
      · rw [if_neg c, if_neg (c2 c)] at k
        exact k
end
section
variable {P : Program} {w : World} {K : PySem.W.Frag} {mg : Str → Option Value} {base : Heap} {CA CB : Addr}
theorem ok_init {f : Addr} {fd : FuncData} (F : Fun K "__init__" "Bed.__init__" s_Bed__init f fd) (T : Txt P K mg CA CB) (F_near : FnB P w K mg base CX0 1 "_near" ["count", "arcs"] (spNear K)) (F_spare : FnB P w K mg base CX0 1 "_spare" ["count", "arcs", "amounts"] (spSpare K)) :
    FnOk P w K mg base CX0 2 f fd ["self", "count", "arcs"] (spInit K CB) := by
  refine F.ok sc_Bed__init (fun vs H Q E h => ?_) (fun cdv A outer s H vs Q E hr h => ?_)
  · obtain ⟨p, dx, a, n, arcs, lo, hi, rfl, _⟩ := h
    rfl
  · obtain ⟨p, dx, a, n, arcs, lo, hi, rfl, hp, hA, hl, hn, hgood, k⟩ := h
    obtain ⟨ll, lh⟩ := netLen hA
    refine ⟨_, (pss_cons (ps_fld (pv 0) (pe_lc (own := [("arc", 3)]) rfl sc_Bed__init.nd (pi_list (pv 2)) (blkOk_by (own := [("arc", 3)]) (N := n_Bed__init) (sc := defScope s_Bed__init) (by decide +kernel)) (fun _ _ _ _ _ => (pg_name (i := 3) sc_Bed__init.nd rfl (Or.inl rfl))) (fun _ _ _ _ _ => pts_nil) (fun _ _ _ _ _ => (pe_ix (r := rIxT K) ix_tup (pv 3) pe_int (fun _ _ => rfl)))) rfl)
    (pss_cons (ps_fld (pv 0) (pe_lc (own := [("arc", 3)]) rfl sc_Bed__init.nd (pi_list (pv 2)) (blkOk_by (own := [("arc", 3)]) (N := n_Bed__init) (sc := defScope s_Bed__init) (by decide +kernel)) (fun _ _ _ _ _ => (pg_name (i := 3) sc_Bed__init.nd rfl (Or.inl rfl))) (fun _ _ _ _ _ => pts_nil) (fun _ _ _ _ _ => (pe_ix (r := rIxT K) ix_tup (pv 3) pe_int (fun _ _ => rfl)))) rfl)
    (pss_cons (ps_fld (pv 0) (pe_lc (own := [("arc", 3)]) rfl sc_Bed__init.nd (pi_list (pv 2)) (blkOk_by (own := [("arc", 3)]) (N := n_Bed__init) (sc := defScope s_Bed__init) (by decide +kernel)) (fun _ _ _ _ _ => (pg_name (i := 3) sc_Bed__init.nd rfl (Or.inl rfl))) (fun _ _ _ _ _ => pts_nil) (fun _ _ _ _ _ => (pe_ix (r := rIxT K) ix_tup (pv 3) pe_int (fun _ _ => rfl)))) rfl)
    (pss_cons (ps_fld (pv 0) (pe_lc (own := [("arc", 3)]) rfl sc_Bed__init.nd (pi_list (pv 2)) (blkOk_by (own := [("arc", 3)]) (N := n_Bed__init) (sc := defScope s_Bed__init) (by decide +kernel)) (fun _ _ _ _ _ => (pg_name (i := 3) sc_Bed__init.nd rfl (Or.inl rfl))) (fun _ _ _ _ _ => pts_nil) (fun _ _ _ _ _ => (pe_ix (r := rIxT K) ix_tup (pv 3) pe_int (fun _ _ => rfl)))) rfl)
    (pss_cons (ps_fld (pv 0) (pe_lc (own := [("arc", 3)]) rfl sc_Bed__init.nd (pi_list (pv 2)) (blkOk_by (own := [("arc", 3)]) (N := n_Bed__init) (sc := defScope s_Bed__init) (by decide +kernel)) (fun _ _ _ _ _ => (pg_name (i := 3) sc_Bed__init.nd rfl (Or.inl rfl))) (fun _ _ _ _ _ => pts_nil) (fun _ _ _ _ _ => (pe_ix (r := rIxT K) ix_tup (pv 3) pe_int (fun _ _ => rfl)))) rfl)
    (pss_cons (ps_fld (pv 0) (pe_callF F_near (hr.mono (by decide)) rfl pass0 (pa_cons (pv 1) (pa_cons (pv 2) pa_nil))) rfl)
    (pss_one (ps_fld (pv 0) (pe_callF F_spare (hr.mono (by decide)) rfl pass0 (pa_cons (pv 1) (pa_cons (pv 2) (pa_cons (pe_fld (pv 0) rfl) pa_nil)))) rfl)))))))), ?_⟩
    -- self.tails
    obtain ⟨ts0, hL0, hts0, hT0⟩ := (hA.fr1 (Fr.refl [p] H) hp).at
    refine ⟨_, rfl, a, rfl, ⟨_, hL0⟩, fun pt hpt => lc_list (K := K) (a := a) (xs := ts0.map V.ref) (fun i H' => H' = upd H pt (.lst ((arcs.take i).map fun a => V.int a.1))) rfl (fun i H' _ z => by rw [z]; exact ((Fr.refl [] _).new hpt).l hL0) ?_ ?_⟩
    · rintro i y H' hy rfl
      obtain ⟨t, ht, rfl⟩ := get_mapf hy
      have hi' : i < arcs.length := by rw [← hts0]; exact (List.getElem?_eq_some_iff.mp ht).1
      obtain ⟨t', ht', _, q⟩ := hT0 i hi'
      rw [ht] at ht'
      cases ht'
      have q' := ((Fr.refl [] H).new (o := .lst ((arcs.take i).map fun a => V.int a.1)) hpt).t q
      refine ⟨rfl, _, rfl, _, _, _, _, rfl, rfl, q', rfl, _, upd_same, len_lt ?_, ?_⟩
      · rw [List.length_map, List.length_take]
        omega
      · rw [upd_upd, take_succ (Cir.get_arc hi'), List.map_append]
        rfl
    rw [List.length_map, hts0, List.take_length]
    rintro _ rfl
    have npt : p ≠ pt := ne_of_none hp hpt
    refine ⟨_, rfl, p, CB, dx, _, rfl, (by rw [upd_ne npt]; exact hp), T.clB, T.nT, (by simp), ?_⟩
    rw [putF_new (by decide +kernel)]
    have e1 : Fr [p] H (upd (upd H pt (.lst (arcs.map fun a => V.int a.1))) p (.ins CB dx ([("tails", V.ref pt)] : List (Str × V)))) := ((Fr.refl [p] H).new hpt).put (.inl (by simp))
    have o1 : (upd (upd H pt (.lst (arcs.map fun a => V.int a.1))) p (.ins CB dx ([("tails", V.ref pt)] : List (Str × V)))) p = some (.ins CB dx ([("tails", V.ref pt)] : List (Str × V))) := upd_same
    have gt1 : (upd (upd H pt (.lst (arcs.map fun a => V.int a.1))) p (.ins CB dx ([("tails", V.ref pt)] : List (Str × V)))) pt = some (.lst (arcs.map fun a => V.int a.1)) := by rw [upd_ne npt.symm]; exact upd_same
    have zt : H pt = none := (show Fr [p] H H from (Fr.refl [p] H)).free1 hp hpt
    show tSeq _ _ _ _ (upd (upd H pt (.lst (arcs.map fun a => V.int a.1))) p (.ins CB dx ([("tails", V.ref pt)] : List (Str × V))))
    revert e1 o1 gt1
    generalize (upd (upd H pt (.lst (arcs.map fun a => V.int a.1))) p (.ins CB dx ([("tails", V.ref pt)] : List (Str × V)))) = H1
    intro e1 o1 gt1
    -- self.heads
    obtain ⟨ts1, hL1, hts1, hT1⟩ := (hA.fr1 e1 hp).at
    refine ⟨_, rfl, a, rfl, ⟨_, hL1⟩, fun ph hph => lc_list (K := K) (a := a) (xs := ts1.map V.ref) (fun i H' => H' = upd H1 ph (.lst ((arcs.take i).map fun a => V.int a.2))) rfl (fun i H' _ z => by rw [z]; exact ((Fr.refl [] _).new hph).l hL1) ?_ ?_⟩
    · rintro i y H' hy rfl
      obtain ⟨t, ht, rfl⟩ := get_mapf hy
      have hi' : i < arcs.length := by rw [← hts1]; exact (List.getElem?_eq_some_iff.mp ht).1
      obtain ⟨t', ht', _, q⟩ := hT1 i hi'
      rw [ht] at ht'
      cases ht'
      have q' := ((Fr.refl [] H1).new (o := .lst ((arcs.take i).map fun a => V.int a.2)) hph).t q
      refine ⟨rfl, _, rfl, _, _, _, _, rfl, rfl, q', rfl, _, upd_same, len_lt ?_, ?_⟩
      · rw [List.length_map, List.length_take]
        omega
      · rw [upd_upd, take_succ (Cir.get_arc hi'), List.map_append]
        rfl
    rw [List.length_map, hts1, List.take_length]
    rintro _ rfl
    have nph : p ≠ ph := ne_of_none o1 hph
    refine ⟨_, rfl, p, CB, dx, _, rfl, (by rw [upd_ne nph]; exact o1), T.clB, T.nH, (by simp), ?_⟩
    rw [putF_new (fun q hq => by simp only [List.mem_cons, List.not_mem_nil, or_false] at hq; rcases hq with rfl <;> (dsimp only; decide +kernel))]
    have e2 : Fr [p] H (upd (upd H1 ph (.lst (arcs.map fun a => V.int a.2))) p (.ins CB dx ([("tails", V.ref pt), ("heads", V.ref ph)] : List (Str × V)))) := (e1.new hph).put (.inl (by simp))
    have o2 : (upd (upd H1 ph (.lst (arcs.map fun a => V.int a.2))) p (.ins CB dx ([("tails", V.ref pt), ("heads", V.ref ph)] : List (Str × V)))) p = some (.ins CB dx ([("tails", V.ref pt), ("heads", V.ref ph)] : List (Str × V))) := upd_same
    have gt2 : (upd (upd H1 ph (.lst (arcs.map fun a => V.int a.2))) p (.ins CB dx ([("tails", V.ref pt), ("heads", V.ref ph)] : List (Str × V)))) pt = some (.lst (arcs.map fun a => V.int a.1)) := by rw [upd_ne npt.symm, upd_ne (ne_of_none gt1 hph)]; exact gt1
    have gh2 : (upd (upd H1 ph (.lst (arcs.map fun a => V.int a.2))) p (.ins CB dx ([("tails", V.ref pt), ("heads", V.ref ph)] : List (Str × V)))) ph = some (.lst (arcs.map fun a => V.int a.2)) := by rw [upd_ne nph.symm]; exact upd_same
    have dth : pt ≠ ph := ne_of_none gt1 hph
    have zh : H ph = none := (show Fr [p] H H1 from e1).free1 o1 hph
    show tSeq _ _ _ _ (upd (upd H1 ph (.lst (arcs.map fun a => V.int a.2))) p (.ins CB dx ([("tails", V.ref pt), ("heads", V.ref ph)] : List (Str × V))))
    revert e2 o2 gt2 gh2
    generalize (upd (upd H1 ph (.lst (arcs.map fun a => V.int a.2))) p (.ins CB dx ([("tails", V.ref pt), ("heads", V.ref ph)] : List (Str × V)))) = H2
    intro e2 o2 gt2 gh2
    -- self.lows
    obtain ⟨ts2, hL2, hts2, hT2⟩ := (hA.fr1 e2 hp).at
    refine ⟨_, rfl, a, rfl, ⟨_, hL2⟩, fun pl hpl => lc_list (K := K) (a := a) (xs := ts2.map V.ref) (fun i H' => H' = upd H2 pl (.lst ((lo.take i).map V.int))) rfl (fun i H' _ z => by rw [z]; exact ((Fr.refl [] _).new hpl).l hL2) ?_ ?_⟩
    · rintro i y H' hy rfl
      obtain ⟨t, ht, rfl⟩ := get_mapf hy
      have hi' : i < arcs.length := by rw [← hts2]; exact (List.getElem?_eq_some_iff.mp ht).1
      obtain ⟨t', ht', _, q⟩ := hT2 i hi'
      rw [ht] at ht'
      cases ht'
      have q' := ((Fr.refl [] H2).new (o := .lst ((lo.take i).map V.int)) hpl).t q
      refine ⟨rfl, _, rfl, _, _, _, _, rfl, rfl, q', rfl, _, upd_same, len_lt ?_, ?_⟩
      · rw [List.length_map, List.length_take]
        omega
      · rw [upd_upd, take_succ (Cir.get_part (by omega : i < lo.length)), List.map_append]
        rfl
    rw [List.length_map, hts2, ← ll, List.take_length]
    rintro _ rfl
    have npl : p ≠ pl := ne_of_none o2 hpl
    refine ⟨_, rfl, p, CB, dx, _, rfl, (by rw [upd_ne npl]; exact o2), T.clB, T.nL, (by simp), ?_⟩
    rw [putF_new (fun q hq => by simp only [List.mem_cons, List.not_mem_nil, or_false] at hq; rcases hq with rfl | rfl <;> (dsimp only; decide +kernel))]
    have e3 : Fr [p] H (upd (upd H2 pl (.lst (lo.map V.int))) p (.ins CB dx ([("tails", V.ref pt), ("heads", V.ref ph), ("lows", V.ref pl)] : List (Str × V)))) := (e2.new hpl).put (.inl (by simp))
    have o3 : (upd (upd H2 pl (.lst (lo.map V.int))) p (.ins CB dx ([("tails", V.ref pt), ("heads", V.ref ph), ("lows", V.ref pl)] : List (Str × V)))) p = some (.ins CB dx ([("tails", V.ref pt), ("heads", V.ref ph), ("lows", V.ref pl)] : List (Str × V))) := upd_same
    have gt3 : (upd (upd H2 pl (.lst (lo.map V.int))) p (.ins CB dx ([("tails", V.ref pt), ("heads", V.ref ph), ("lows", V.ref pl)] : List (Str × V)))) pt = some (.lst (arcs.map fun a => V.int a.1)) := by rw [upd_ne npt.symm, upd_ne (ne_of_none gt2 hpl)]; exact gt2
    have gh3 : (upd (upd H2 pl (.lst (lo.map V.int))) p (.ins CB dx ([("tails", V.ref pt), ("heads", V.ref ph), ("lows", V.ref pl)] : List (Str × V)))) ph = some (.lst (arcs.map fun a => V.int a.2)) := by rw [upd_ne nph.symm, upd_ne (ne_of_none gh2 hpl)]; exact gh2
    have gl3 : (upd (upd H2 pl (.lst (lo.map V.int))) p (.ins CB dx ([("tails", V.ref pt), ("heads", V.ref ph), ("lows", V.ref pl)] : List (Str × V)))) pl = some (.lst (lo.map V.int)) := by rw [upd_ne npl.symm]; exact upd_same
    have dtl : pt ≠ pl := ne_of_none gt2 hpl
    have dhl : ph ≠ pl := ne_of_none gh2 hpl
    have zl : H pl = none := (show Fr [p] H H2 from e2).free1 o2 hpl
    show tSeq _ _ _ _ (upd (upd H2 pl (.lst (lo.map V.int))) p (.ins CB dx ([("tails", V.ref pt), ("heads", V.ref ph), ("lows", V.ref pl)] : List (Str × V))))
    revert e3 o3 gt3 gh3 gl3
    generalize (upd (upd H2 pl (.lst (lo.map V.int))) p (.ins CB dx ([("tails", V.ref pt), ("heads", V.ref ph), ("lows", V.ref pl)] : List (Str × V)))) = H3
    intro e3 o3 gt3 gh3 gl3
    -- self.highs
    obtain ⟨ts3, hL3, hts3, hT3⟩ := (hA.fr1 e3 hp).at
    refine ⟨_, rfl, a, rfl, ⟨_, hL3⟩, fun pu hpu => lc_list (K := K) (a := a) (xs := ts3.map V.ref) (fun i H' => H' = upd H3 pu (.lst ((hi.take i).map V.int))) rfl (fun i H' _ z => by rw [z]; exact ((Fr.refl [] _).new hpu).l hL3) ?_ ?_⟩
    · rintro i y H' hy rfl
      obtain ⟨t, ht, rfl⟩ := get_mapf hy
      have hi' : i < arcs.length := by rw [← hts3]; exact (List.getElem?_eq_some_iff.mp ht).1
      obtain ⟨t', ht', _, q⟩ := hT3 i hi'
      rw [ht] at ht'
      cases ht'
      have q' := ((Fr.refl [] H3).new (o := .lst ((hi.take i).map V.int)) hpu).t q
      refine ⟨rfl, _, rfl, _, _, _, _, rfl, rfl, q', rfl, _, upd_same, len_lt ?_, ?_⟩
      · rw [List.length_map, List.length_take]
        omega
      · rw [upd_upd, take_succ (Cir.get_part (by omega : i < hi.length)), List.map_append]
        rfl
    rw [List.length_map, hts3, ← lh, List.take_length]
    rintro _ rfl
    have npu : p ≠ pu := ne_of_none o3 hpu
    refine ⟨_, rfl, p, CB, dx, _, rfl, (by rw [upd_ne npu]; exact o3), T.clB, T.nU, (by simp), ?_⟩
    rw [putF_new (fun q hq => by simp only [List.mem_cons, List.not_mem_nil, or_false] at hq; rcases hq with rfl | rfl | rfl <;> (dsimp only; decide +kernel))]
    have e4 : Fr [p] H (upd (upd H3 pu (.lst (hi.map V.int))) p (.ins CB dx ([("tails", V.ref pt), ("heads", V.ref ph), ("lows", V.ref pl), ("highs", V.ref pu)] : List (Str × V)))) := (e3.new hpu).put (.inl (by simp))
    have o4 : (upd (upd H3 pu (.lst (hi.map V.int))) p (.ins CB dx ([("tails", V.ref pt), ("heads", V.ref ph), ("lows", V.ref pl), ("highs", V.ref pu)] : List (Str × V)))) p = some (.ins CB dx ([("tails", V.ref pt), ("heads", V.ref ph), ("lows", V.ref pl), ("highs", V.ref pu)] : List (Str × V))) := upd_same
    have gt4 : (upd (upd H3 pu (.lst (hi.map V.int))) p (.ins CB dx ([("tails", V.ref pt), ("heads", V.ref ph), ("lows", V.ref pl), ("highs", V.ref pu)] : List (Str × V)))) pt = some (.lst (arcs.map fun a => V.int a.1)) := by rw [upd_ne npt.symm, upd_ne (ne_of_none gt3 hpu)]; exact gt3
    have gh4 : (upd (upd H3 pu (.lst (hi.map V.int))) p (.ins CB dx ([("tails", V.ref pt), ("heads", V.ref ph), ("lows", V.ref pl), ("highs", V.ref pu)] : List (Str × V)))) ph = some (.lst (arcs.map fun a => V.int a.2)) := by rw [upd_ne nph.symm, upd_ne (ne_of_none gh3 hpu)]; exact gh3
    have gl4 : (upd (upd H3 pu (.lst (hi.map V.int))) p (.ins CB dx ([("tails", V.ref pt), ("heads", V.ref ph), ("lows", V.ref pl), ("highs", V.ref pu)] : List (Str × V)))) pl = some (.lst (lo.map V.int)) := by rw [upd_ne npl.symm, upd_ne (ne_of_none gl3 hpu)]; exact gl3
    have gu4 : (upd (upd H3 pu (.lst (hi.map V.int))) p (.ins CB dx ([("tails", V.ref pt), ("heads", V.ref ph), ("lows", V.ref pl), ("highs", V.ref pu)] : List (Str × V)))) pu = some (.lst (hi.map V.int)) := by rw [upd_ne npu.symm]; exact upd_same
    have dtu : pt ≠ pu := ne_of_none gt3 hpu
    have dhu : ph ≠ pu := ne_of_none gh3 hpu
    have dlu : pl ≠ pu := ne_of_none gl3 hpu
    have zu : H pu = none := (show Fr [p] H H3 from e3).free1 o3 hpu
    show tSeq _ _ _ _ (upd (upd H3 pu (.lst (hi.map V.int))) p (.ins CB dx ([("tails", V.ref pt), ("heads", V.ref ph), ("lows", V.ref pl), ("highs", V.ref pu)] : List (Str × V))))
    revert e4 o4 gt4 gh4 gl4 gu4
    generalize (upd (upd H3 pu (.lst (hi.map V.int))) p (.ins CB dx ([("tails", V.ref pt), ("heads", V.ref ph), ("lows", V.ref pl), ("highs", V.ref pu)] : List (Str × V)))) = H4
    intro e4 o4 gt4 gh4 gl4 gu4
    -- self.carried
    obtain ⟨ts4, hL4, hts4, hT4⟩ := (hA.fr1 e4 hp).at
    refine ⟨_, rfl, a, rfl, ⟨_, hL4⟩, fun pc hpc => lc_list (K := K) (a := a) (xs := ts4.map V.ref) (fun i H' => H' = upd H4 pc (.lst ((lo.take i).map V.int))) rfl (fun i H' _ z => by rw [z]; exact ((Fr.refl [] _).new hpc).l hL4) ?_ ?_⟩
    · rintro i y H' hy rfl
      obtain ⟨t, ht, rfl⟩ := get_mapf hy
      have hi' : i < arcs.length := by rw [← hts4]; exact (List.getElem?_eq_some_iff.mp ht).1
      obtain ⟨t', ht', _, q⟩ := hT4 i hi'
      rw [ht] at ht'
      cases ht'
      have q' := ((Fr.refl [] H4).new (o := .lst ((lo.take i).map V.int)) hpc).t q
      refine ⟨rfl, _, rfl, _, _, _, _, rfl, rfl, q', rfl, _, upd_same, len_lt ?_, ?_⟩
      · rw [List.length_map, List.length_take]
        omega
      · rw [upd_upd, take_succ (Cir.get_part (by omega : i < lo.length)), List.map_append]
        rfl
    rw [List.length_map, hts4, ← ll, List.take_length]
    rintro _ rfl
    have npc : p ≠ pc := ne_of_none o4 hpc
    refine ⟨_, rfl, p, CB, dx, _, rfl, (by rw [upd_ne npc]; exact o4), T.clB, T.nC, (by simp), ?_⟩
    rw [putF_new (fun q hq => by simp only [List.mem_cons, List.not_mem_nil, or_false] at hq; rcases hq with rfl | rfl | rfl | rfl <;> (dsimp only; decide +kernel))]
    have e5 : Fr [p] H (upd (upd H4 pc (.lst (lo.map V.int))) p (.ins CB dx ([("tails", V.ref pt), ("heads", V.ref ph), ("lows", V.ref pl), ("highs", V.ref pu), ("carried", V.ref pc)] : List (Str × V)))) := (e4.new hpc).put (.inl (by simp))
    have o5 : (upd (upd H4 pc (.lst (lo.map V.int))) p (.ins CB dx ([("tails", V.ref pt), ("heads", V.ref ph), ("lows", V.ref pl), ("highs", V.ref pu), ("carried", V.ref pc)] : List (Str × V)))) p = some (.ins CB dx ([("tails", V.ref pt), ("heads", V.ref ph), ("lows", V.ref pl), ("highs", V.ref pu), ("carried", V.ref pc)] : List (Str × V))) := upd_same
    have gt5 : (upd (upd H4 pc (.lst (lo.map V.int))) p (.ins CB dx ([("tails", V.ref pt), ("heads", V.ref ph), ("lows", V.ref pl), ("highs", V.ref pu), ("carried", V.ref pc)] : List (Str × V)))) pt = some (.lst (arcs.map fun a => V.int a.1)) := by rw [upd_ne npt.symm, upd_ne (ne_of_none gt4 hpc)]; exact gt4
    have gh5 : (upd (upd H4 pc (.lst (lo.map V.int))) p (.ins CB dx ([("tails", V.ref pt), ("heads", V.ref ph), ("lows", V.ref pl), ("highs", V.ref pu), ("carried", V.ref pc)] : List (Str × V)))) ph = some (.lst (arcs.map fun a => V.int a.2)) := by rw [upd_ne nph.symm, upd_ne (ne_of_none gh4 hpc)]; exact gh4
    have gl5 : (upd (upd H4 pc (.lst (lo.map V.int))) p (.ins CB dx ([("tails", V.ref pt), ("heads", V.ref ph), ("lows", V.ref pl), ("highs", V.ref pu), ("carried", V.ref pc)] : List (Str × V)))) pl = some (.lst (lo.map V.int)) := by rw [upd_ne npl.symm, upd_ne (ne_of_none gl4 hpc)]; exact gl4
    have gu5 : (upd (upd H4 pc (.lst (lo.map V.int))) p (.ins CB dx ([("tails", V.ref pt), ("heads", V.ref ph), ("lows", V.ref pl), ("highs", V.ref pu), ("carried", V.ref pc)] : List (Str × V)))) pu = some (.lst (hi.map V.int)) := by rw [upd_ne npu.symm, upd_ne (ne_of_none gu4 hpc)]; exact gu4
    have gc5 : (upd (upd H4 pc (.lst (lo.map V.int))) p (.ins CB dx ([("tails", V.ref pt), ("heads", V.ref ph), ("lows", V.ref pl), ("highs", V.ref pu), ("carried", V.ref pc)] : List (Str × V)))) pc = some (.lst (lo.map V.int)) := by rw [upd_ne npc.symm]; exact upd_same
    have dtc : pt ≠ pc := ne_of_none gt4 hpc
    have dhc : ph ≠ pc := ne_of_none gh4 hpc
    have dlc : pl ≠ pc := ne_of_none gl4 hpc
    have duc : pu ≠ pc := ne_of_none gu4 hpc
    have zc : H pc = none := (show Fr [p] H H4 from e4).free1 o4 hpc
    show tSeq _ _ _ _ (upd (upd H4 pc (.lst (lo.map V.int))) p (.ins CB dx ([("tails", V.ref pt), ("heads", V.ref ph), ("lows", V.ref pl), ("highs", V.ref pu), ("carried", V.ref pc)] : List (Str × V))))
    revert e5 o5 gt5 gh5 gl5 gu5 gc5
    generalize (upd (upd H4 pc (.lst (lo.map V.int))) p (.ins CB dx ([("tails", V.ref pt), ("heads", V.ref ph), ("lows", V.ref pl), ("highs", V.ref pu), ("carried", V.ref pc)] : List (Str × V)))) = H5
    intro e5 o5 gt5 gh5 gl5 gu5 gc5
    -- self.near
    refine ⟨_, rfl, _, rfl, n, a, arcs, lo, hi, rfl, hA.fr1 e5 hp, hl, hn, hgood, fun pn H6' hpn e6' N6' => ?_⟩
    have o6' := e6' _ _ o5 (by simp)
    obtain ⟨rs, r1, r2, r3, r4⟩ := N6'
    have npn : p ≠ pn := ne_of_none o5 hpn
    refine ⟨_, rfl, p, CB, dx, _, rfl, o6', T.clB, T.nN, (by simp), ?_⟩
    rw [putF_new (fun q hq => by simp only [List.mem_cons, List.not_mem_nil, or_false] at hq; rcases hq with rfl | rfl | rfl | rfl | rfl <;> (dsimp only; decide +kernel))]
    have e6 : Fr [p] H (upd H6' p (.ins CB dx ([("tails", V.ref pt), ("heads", V.ref ph), ("lows", V.ref pl), ("highs", V.ref pu), ("carried", V.ref pc), ("near", V.ref pn)] : List (Str × V)))) := (e5.trans (e6'.sub (by simp))).put (.inl (by simp))
    have o6 : (upd H6' p (.ins CB dx ([("tails", V.ref pt), ("heads", V.ref ph), ("lows", V.ref pl), ("highs", V.ref pu), ("carried", V.ref pc), ("near", V.ref pn)] : List (Str × V)))) p = some (.ins CB dx ([("tails", V.ref pt), ("heads", V.ref ph), ("lows", V.ref pl), ("highs", V.ref pu), ("carried", V.ref pc), ("near", V.ref pn)] : List (Str × V))) := upd_same
    have gt6 : (upd H6' p (.ins CB dx ([("tails", V.ref pt), ("heads", V.ref ph), ("lows", V.ref pl), ("highs", V.ref pu), ("carried", V.ref pc), ("near", V.ref pn)] : List (Str × V)))) pt = some (.lst (arcs.map fun a => V.int a.1)) := by rw [upd_ne npt.symm]; exact e6' _ _ gt5 (by simp)
    have dtn : pt ≠ pn := ne_of_none gt5 hpn
    have gh6 : (upd H6' p (.ins CB dx ([("tails", V.ref pt), ("heads", V.ref ph), ("lows", V.ref pl), ("highs", V.ref pu), ("carried", V.ref pc), ("near", V.ref pn)] : List (Str × V)))) ph = some (.lst (arcs.map fun a => V.int a.2)) := by rw [upd_ne nph.symm]; exact e6' _ _ gh5 (by simp)
    have dhn : ph ≠ pn := ne_of_none gh5 hpn
    have gl6 : (upd H6' p (.ins CB dx ([("tails", V.ref pt), ("heads", V.ref ph), ("lows", V.ref pl), ("highs", V.ref pu), ("carried", V.ref pc), ("near", V.ref pn)] : List (Str × V)))) pl = some (.lst (lo.map V.int)) := by rw [upd_ne npl.symm]; exact e6' _ _ gl5 (by simp)
    have dln : pl ≠ pn := ne_of_none gl5 hpn
    have gu6 : (upd H6' p (.ins CB dx ([("tails", V.ref pt), ("heads", V.ref ph), ("lows", V.ref pl), ("highs", V.ref pu), ("carried", V.ref pc), ("near", V.ref pn)] : List (Str × V)))) pu = some (.lst (hi.map V.int)) := by rw [upd_ne npu.symm]; exact e6' _ _ gu5 (by simp)
    have dun : pu ≠ pn := ne_of_none gu5 hpn
    have gc6 : (upd H6' p (.ins CB dx ([("tails", V.ref pt), ("heads", V.ref ph), ("lows", V.ref pl), ("highs", V.ref pu), ("carried", V.ref pc), ("near", V.ref pn)] : List (Str × V)))) pc = some (.lst (lo.map V.int)) := by rw [upd_ne npc.symm]; exact e6' _ _ gc5 (by simp)
    have dcn : pc ≠ pn := ne_of_none gc5 hpn
    have N6 : NearAt (fun r => r ≠ pc ∧ r ≠ p) (upd H6' p (.ins CB dx ([("tails", V.ref pt), ("heads", V.ref ph), ("lows", V.ref pl), ("highs", V.ref pu), ("carried", V.ref pc), ("near", V.ref pn)] : List (Str × V)))) pn n arcs := by
      have hz : ∀ r ∈ rs, r ≠ p := fun r hr z => by
        have := r4 r hr
        rw [z, o5] at this
        cases this
      exact ⟨rs, r1, by rw [upd_ne npn.symm]; exact r2, fun v r hr => by rw [upd_ne (hz r (List.mem_of_getElem? hr))]; exact r3 v r hr, fun r hr => ⟨(fun z => by
        have := r4 r hr
        rw [z, gc5] at this
        cases this), hz r hr⟩⟩
    show tSeq _ _ _ _ (upd H6' p (.ins CB dx ([("tails", V.ref pt), ("heads", V.ref ph), ("lows", V.ref pl), ("highs", V.ref pu), ("carried", V.ref pc), ("near", V.ref pn)] : List (Str × V))))
    revert e6 o6 gt6 gh6 gl6 gu6 gc6 N6
    generalize (upd H6' p (.ins CB dx ([("tails", V.ref pt), ("heads", V.ref ph), ("lows", V.ref pl), ("highs", V.ref pu), ("carried", V.ref pc), ("near", V.ref pn)] : List (Str × V)))) = H6
    intro e6 o6 gt6 gh6 gl6 gu6 gc6 N6
    -- self.spare
    have NA6 := hA.fr1 e6 hp
    refine ⟨_, rfl, _, rfl, _, rfl, p, CB, dx, _, _, rfl, o6, T.clB, T.nC, ?_, n, a, pc, arcs, lo, hi, lo, rfl, NA6, SqL.of gc6, ll.symm, by omega, by omega, hgood, fun ps H7' hps e7' s7 => ?_⟩
    · rw [lookup_tl (by decide +kernel), lookup_tl (by decide +kernel), lookup_tl (by decide +kernel), lookup_tl (by decide +kernel)]
      exact lookup_hd
    obtain ⟨rs, r1, r2, r3, r4⟩ := N6
    have nps : p ≠ ps := ne_of_none o6 hps
    refine ⟨_, rfl, p, CB, dx, _, rfl, e7' _ _ o6 (by simp), T.clB, T.nS, (by simp), ?_⟩
    rw [putF_new (fun q hq => by simp only [List.mem_cons, List.not_mem_nil, or_false] at hq; rcases hq with rfl | rfl | rfl | rfl | rfl | rfl <;> (dsimp only; decide +kernel))]
    have zs : H ps = none := (show Fr [p] H H6 from e6).free1 o6 hps
    have nrs : ∀ r ∈ rs, r ≠ ps := fun r hr => by
      obtain ⟨v, hv⟩ := List.mem_iff_getElem?.mp hr
      exact ne_of_none (r3 v r hv) hps
    refine k ⟨p, pt, ph, pl, pu, pc, pn, ps⟩ _ rfl zc zs ((e6.trans (e7'.sub (by simp))).put (.inl (by simp))) ⟨⟨dx, upd_same⟩, ?_, ?_, ?_, ?_, ?_, ⟨rs, r1, ?_, fun v r hr => ?_, fun r hr => ⟨(r4 r hr).1, nrs r hr⟩⟩, ?_, ?_, ?_⟩
    · show upd _ _ _ pt = _
      rw [upd_ne npt.symm]; exact e7' _ _ gt6 (by simp)
    · show upd _ _ _ ph = _
      rw [upd_ne nph.symm]; exact e7' _ _ gh6 (by simp)
    · show upd _ _ _ pl = _
      rw [upd_ne npl.symm]; exact e7' _ _ gl6 (by simp)
    · show upd _ _ _ pu = _
      rw [upd_ne npu.symm]; exact e7' _ _ gu6 (by simp)
    · show upd _ _ _ pc = _
      rw [upd_ne npc.symm]; exact e7' _ _ gc6 (by simp)
    · show upd _ _ _ pn = _
      rw [upd_ne npn.symm]; exact e7' _ _ r2 (by simp)
    · rw [upd_ne (r4 r (List.mem_of_getElem? hr)).2]; exact e7' _ _ (r3 v r hr) (by simp)
    · show upd _ _ _ ps = _
      rw [upd_ne nps.symm]; exact s7
    · intro z hz
      simp only [List.mem_cons, List.not_mem_nil, or_false] at hz
      rcases hz with rfl | rfl | rfl | rfl | rfl | rfl
      · exact ⟨npc, nps⟩
      · exact ⟨dtc, ne_of_none gt6 hps⟩
      · exact ⟨dhc, ne_of_none gh6 hps⟩
      · exact ⟨dlc, ne_of_none gl6 hps⟩
      · exact ⟨duc, ne_of_none gu6 hps⟩
      · exact ⟨dcn.symm, ne_of_none r2 hps⟩
    · exact ne_of_none gc6 hps
end
/-! ### the search -/
def kvC (came : Cir.Came) : List (Key × V) := came.map fun p => (Sum.inl p.1, V.int p.2)
theorem kvC_len (came : Cir.Came) : (kvC came).length = came.length := by simp [kvC]
theorem kvC_val (v : Int) : ∀ came : Cir.Came, valV (kvC came) (Sum.inl v : Key) = if v ∈ Cir.keysOf came then some (V.int (Cir.cameOf came v)) else none
  | [] => rfl
  | p :: came => by
    have ih := kvC_val v came
    by_cases c : p.1 = v
    · have e1 : valV (kvC (p :: came)) (Sum.inl v : Key) = some (V.int p.2) := valV_pos (p := ((Sum.inl p.1 : Key), V.int p.2)) (by rw [c])
      rw [e1, if_pos (by rw [← c]; exact List.mem_cons_self)]
      unfold Cir.cameOf
      rw [List.find?_cons, decide_eq_true c]
      rfl
    · have e1 : valV (kvC (p :: came)) (Sum.inl v : Key) = valV (kvC came) (Sum.inl v : Key) := valV_neg (p := ((Sum.inl p.1 : Key), V.int p.2)) (fun z => c (Sum.inl.inj z))
      rw [e1, ih]
      have e2 : Cir.cameOf (p :: came) v = Cir.cameOf came v := by
        unfold Cir.cameOf
        rw [List.find?_cons, decide_eq_false c]
      rw [e2]
      have e3 : v ∈ Cir.keysOf (p :: came) ↔ v ∈ Cir.keysOf came := by
        show v ∈ p.1 :: Cir.keysOf came ↔ _
        rw [List.mem_cons]
        exact ⟨fun h => h.resolve_left fun z => c z.symm, .inr⟩
      by_cases d : v ∈ Cir.keysOf came
      · rw [if_pos d, if_pos (e3.mpr d)]
      · rw [if_neg d, if_neg fun z => d (e3.mp z)]
theorem kvC_put {came : Cir.Came} {v a : Int} (h : v ∉ Cir.keysOf came) : putK (kvC came) (Sum.inl v : Key) (V.int a) = kvC (came ++ [(v, a)]) := by
  rw [putK_new _ (by rw [kvC_val, if_neg h])]
  unfold kvC
  rw [List.map_append]
  rfl
theorem keys_snoc (came : Cir.Came) (v a : Int) : Cir.keysOf (came ++ [(v, a)]) = Cir.keysOf came ++ [v] := by simp [Cir.keysOf]
/-- a dict whose keys are these -/
def KeysAt (H : Hp) (p : Addr) (ks : List Int) : Prop := ∃ kvs : List (Key × V), H p = some (.dK kvs) ∧ ∀ v : Int, (valV kvs (Sum.inl v : Key)).isSome = decide (v ∈ ks)
theorem KeysAt.fr {H H' : Hp} {p : Addr} {ks : List Int} (h : KeysAt H p ks) (e : Fr [] H H') : KeysAt H' p ks := by
  obtain ⟨kvs, h1, h2⟩ := h
  exact ⟨kvs, e _ _ h1 (by simp), h2⟩
def spReach (K : PySem.W.Frag) (C : Addr) : Sp := fun vs H Q _ => ∃ (b : BedA) (n : Nat) (arcs : List Cir.Arc) (lo hi x sp : List Int) (st gd : Addr) (starts goals : List Int), vs = [.ref b.p, .ref st, .ref gd] ∧ BedAt C H b n arcs lo hi x sp ∧ Cir.Bn arcs lo hi x ∧ n ≤ 1000 ∧ arcs.length ≤ 10000 ∧
  (∀ k, k < arcs.length → Cir.Good n (Cir.arcOf arcs k)) ∧ SqL K H st (starts.map V.int) ∧ KeysAt H gd goals ∧ starts.Nodup ∧ (∀ v ∈ starts, 0 ≤ v ∧ v < n) ∧
  ∀ (t cm : Addr) (H' : Hp), H t = none → H cm = none → Fr [] H H' → H' t = some (.tup [.ref cm, .int (Cir.reachF arcs lo hi x goals (n + 1) 0 (Cir.came0 starts)).2]) → H' cm = some (.dK (kvC (Cir.reachF arcs lo hi x goals (n + 1) 0 (Cir.came0 starts)).1)) → Q (.ref t) H'
theorem scanL_snoc (arcs : List Cir.Arc) (lo hi x : List Int) (v : Int) (row : List Nat) (a : Nat) (came : Cir.Came) : Cir.scanL arcs lo hi x v (row ++ [a]) came = Cir.scanA arcs lo hi x v (Cir.scanL arcs lo hi x v row came) a := by
  unfold Cir.scanL
  rw [List.foldl_append]
  rfl
theorem reach_stop {arcs : List Cir.Arc} {lo hi x goals : List Int} {f at_ : Nat} {came : Cir.Came} (h : ¬ at_ < came.length) : Cir.reachF arcs lo hi x goals f at_ came = (came, -1) := by
  cases f with
  | zero => rfl
  | succ f =>
    unfold Cir.reachF
    rw [if_neg h]
theorem reach_turn {arcs : List Cir.Arc} {lo hi x goals : List Int} {f at_ : Nat} {came : Cir.Came} (h : at_ < came.length) : Cir.reachF arcs lo hi x goals (f + 1) at_ came =
    if Cir.part (Cir.keysOf came) at_ ∈ goals then (came, Cir.part (Cir.keysOf came) at_) else Cir.reachF arcs lo hi x goals f (at_ + 1) (Cir.scanL arcs lo hi x (Cir.part (Cir.keysOf came) at_) (Cir.nearOf arcs (Cir.part (Cir.keysOf came) at_)) came) := by
  show (if at_ < came.length then _ else _) = _
  rw [if_pos h]
section
variable {P : Program} {w : World} {K : PySem.W.Frag} {mg : Str → Option Value} {base : Heap} {CA CB : Addr}
theorem ok_reach {f : Addr} {fd : FuncData} (F : Fun K "reach" "Bed.reach" s_Bed_reach f fd) (T : Txt P K mg CA CB) (F_leads : MtB P w K mg base CX0 1 CB "leads" ["self", "node", "arc"] (spLeads CB)) : FnOk P w K mg base CX0 2 f fd ["self", "starts", "goals"] (spReach K CB) := by
  refine F.ok sc_Bed_reach (fun vs H Q E h => ?_) (fun cdv A outer s H vs Q E hr h => ?_)
  · obtain ⟨b, n, arcs, lo, hi, x, sp, st, gd, starts, goals, rfl, _⟩ := h
    rfl
  · obtain ⟨b, n, arcs, lo, hi, x, sp, st, gd, starts, goals, rfl, B, N, hn, hl, hgood, hS, hG, snd, srng, k⟩ := h
    have hu := hu_of hr
    refine ⟨_, (pss_cons (ps_set (i := 3) sc_Bed_reach.nd rfl (Or.inl rfl) pe_dnewK)
    (pss_cons (ps_set (i := 4) sc_Bed_reach.nd rfl (Or.inl rfl) (pe_lst pa_nil))
    (pss_cons (ps_for PassesOwn.never rfl (pi_list (pv 1)) (pg_name (i := 5) sc_Bed_reach.nd rfl (Or.inl rfl))
      (pss_cons (ps_dput hu (pv 3) (pv 5) (pe_un un_neg pe_int) rfl)
      (pss_one (ps_expr (pe_bm PySem.F.plainAttrs_list PySem.F.slot_list_append PySem.F.type_list_append mt_append (pv 4) (pa_cons (pv 5) pa_nil))))))
    (pss_cons (ps_set (i := 6) sc_Bed_reach.nd rfl (Or.inl rfl) pe_int)
    (pss_cons (ps_while PassesOwn.never (pt_cmpR op_lt (pv 6) (pe_callB call_len_seq (by rfl) T.m_len (by decide +kernel) (pa_cons (pv 4) pa_nil)) (nomark _))
      (pss_cons (ps_set (i := 5) sc_Bed_reach.nd rfl (Or.inl rfl) (pe_ix ix_list (pv 4) (pv 6) (fun _ _ => rfl)))
      (pss_cons (ps_aug (i := 6) sc_Bed_reach.nd rfl (Or.inl rfl) pe_int ip_add)
      (pss_cons (ps_if (pt_cmp (pc_din hu (pv 5) (pv 2)))
        (pss_one (ps_ret (pe_tup (pa_cons (pv 3) (pa_cons (pv 5) pa_nil)))))
        pss_nil)
      (pss_one (ps_for PassesOwn.never rfl (pi_list (pe_ix ix_list (pe_fld (pv 0) rfl) (pv 5) (fun _ _ => rfl))) (pg_name (i := 7) sc_Bed_reach.nd rfl (Or.inl rfl))
        (pss_cons (ps_set (i := 8) sc_Bed_reach.nd rfl (Or.inl rfl) (pe_methB F_leads T.clB (pv 0) (hr.mono (by decide)) pass0 (pa_cons (pv 5) (pa_cons (pv 7) pa_nil))))
        (pss_one (ps_if (PW.pt (pw_and (pt_cmpR op_ge (pv 8) pe_int (nomark _)) (pw_and1 (pt_cmp (pc_dnotin hu (pv 8) (pv 3))))))
          (pss_cons (ps_dput hu (pv 3) (pv 8) (pv 7) rfl)
          (pss_one (ps_expr (pe_bm PySem.F.plainAttrs_list PySem.F.slot_list_append PySem.F.type_list_append mt_append (pv 4) (pa_cons (pv 8) pa_nil)))))
          pss_nil)))))))))
    (pss_one (ps_ret (pe_tup (pa_cons (pv 3) (pa_cons (pe_un un_neg pe_int) pa_nil)))))))))), ?_⟩
    intro cm hcm
    refine ⟨by show 0 ≤ sizeLine; exact Nat.zero_le _, fun rw_ hrw => ?_⟩
    have ncr : cm ≠ rw_ := ne_of_none upd_same hrw
    have zr : H rw_ = none := ((Fr.refl [] H).new hcm).free hrw
    have slen : starts.length ≤ n := Cir.nodup_le n starts snd srng
    -- for node in starts
    refine ⟨_, rfl, st, rfl, ⟨_, (((Fr.refl [] H).new hcm).new hrw).l hS⟩, for_list (K := K) (a := st) (xs := starts.map V.int) (fun i σ H' => Fr [] H H' ∧ H' cm = some (.dK (kvC (Cir.came0 (starts.take i)))) ∧ H' rw_ = some (.lst ((starts.take i).map V.int)) ∧
        ∃ o1 o2 o3 o4 : Option V, σ = [some (.ref b.p), some (.ref st), some (.ref gd), some (.ref cm), some (.ref rw_), o1, o2, o3, o4])
      ⟨((Fr.refl [] H).new hcm).new hrw, by rw [upd_ne ncr]; exact upd_same, upd_same, _, _, _, _, rfl⟩ (fun i σ H' _ z => z.1.l hS) ?_ ?_⟩
    · rintro i y σ H' hy ⟨e, h1, h2, o1, o2, o3, o4, rfl⟩
      obtain ⟨v, hv, rfl⟩ := get_map_int hy
      have il := (List.getElem?_eq_some_iff.mp hv).1
      have hnv : v ∉ Cir.keysOf (Cir.came0 (starts.take i)) := by
        have ke : Cir.keysOf (Cir.came0 (starts.take i)) = starts.take i := by
          unfold Cir.keysOf Cir.came0
          rw [List.map_map]
          exact List.map_id _
        rw [ke]
        intro hm
        obtain ⟨j, hj⟩ := List.mem_iff_getElem?.mp hm
        rw [List.getElem?_take] at hj
        split at hj
        · rename_i hji
          obtain ⟨l1, g1⟩ := List.getElem?_eq_some_iff.mp hj
          obtain ⟨l2, g2⟩ := List.getElem?_eq_some_iff.mp hv
          have := (List.getElem_inj snd).mp (g1.trans g2.symm)
          omega
        · cases hj
      refine ⟨_, rfl, _, rfl, _, rfl, cm, _, rfl, DPut.k (k := Sum.inl v) h1 (by rw [kvC_len]; unfold Cir.came0; rw [List.length_map, List.length_take]; exact len_lt (by omega)), ?_⟩
      rw [kvC_put hnv]
      have h2' : (upd H' cm (.dK (kvC (Cir.came0 (starts.take i) ++ [(v, -1)])))) rw_ = some (.lst ((starts.take i).map V.int)) := by rw [upd_ne ncr.symm]; exact h2
      refine ⟨_, rfl, .inl ⟨rfl, _, SqL.of h2'⟩, _, rfl, _, _, _, rfl, rfl, h2', len_lt (by rw [List.length_map, List.length_take]; omega), ?_⟩
      refine ⟨(e.put (.inr hcm)).put (.inr zr), ?_, ?_, _, _, _, _, rfl⟩
      · rw [upd_ne ncr, upd_same, take_succ hv]
        unfold Cir.came0
        rw [List.map_append]
        rfl
      · rw [upd_same, take_succ hv, List.map_append]
        rfl
    rintro σ H1 ⟨e1, c1, r1, o1, o2, o3, o4, rfl⟩
    rw [List.length_map, List.take_length] at c1 r1
    have ke0 : Cir.keysOf (Cir.came0 starts) = starts := by
      unfold Cir.keysOf Cir.came0
      rw [List.map_map]
      exact List.map_id _
    -- at = 0; while at < len(row)
    have C0 := Cir.came0_ok (arcs := arcs) (lo := lo) (hi := hi) (x := x) snd srng
    refine ⟨fun m σ H' => ∃ (f at_ : Nat) (came : Cir.Came), m = f ∧ f + at_ = n + 1 ∧ Fr [] H H' ∧ H' cm = some (.dK (kvC came)) ∧ H' rw_ = some (.lst ((Cir.keysOf came).map V.int)) ∧ Cir.CameOk n arcs lo hi x starts came ∧
        Cir.reachF arcs lo hi x goals f at_ came = Cir.reachF arcs lo hi x goals (n + 1) 0 (Cir.came0 starts) ∧ ∃ o1 o3 o4 : Option V, σ = [some (.ref b.p), some (.ref st), some (.ref gd), some (.ref cm), some (.ref rw_), o1, some (.int (at_ : Int)), o3, o4],
      ⟨n + 1, n + 1, 0, Cir.came0 starts, rfl, by omega, e1, c1, by rw [ke0]; exact r1, C0, rfl, _, _, _, rfl⟩, ?_⟩
    rintro m σ H2 ⟨f, at_, came, rfl, hf, e2, c2, r2, C2, hres, o1, o3, o4, rfl⟩
    have clen := Cir.came_len C2
    have klen : (Cir.keysOf came).length = came.length := by simp [Cir.keysOf]
    refine ⟨_, rfl, _, rfl, _, _, rfl, .inl (SqL.of r2), _, _, rfl, rfl, _, rfl, dec_iff (fun c => ?_) fun c => ?_⟩
    · rw [List.length_map, klen] at c
      have c : at_ < came.length := by omega
      obtain ⟨m, rfl⟩ : ∃ m', m = m' + 1 := ⟨m - 1, by omega⟩
      refine ⟨_, fun σ' H' h => h, ?_⟩
      have hvm : Cir.part (Cir.keysOf came) at_ ∈ Cir.keysOf came := List.mem_of_getElem? (Cir.get_part (by omega))
      refine ⟨_, rfl, _, rfl, _, _, _, _, rfl, rfl, SqL.of r2, at_part (by omega), ?_⟩
      have hres1 := hres
      rw [reach_turn c] at hres1
      revert hvm hres1
      generalize Cir.part (Cir.keysOf came) at_ = v
      intro hvm hres1
      have vr := C2.rng v hvm
      refine ⟨_, rfl, _, _, rfl, rfl, ?_⟩
      obtain ⟨gk, g1, g2⟩ := hG
      refine ⟨_, rfl, _, rfl, gd, _, rfl, DGet.k (k := Sum.inl v) (e2 _ _ g1 (by simp)), _, rfl, ?_⟩
      rw [g2]
      refine dec_iff (fun hm => ?_) fun hm => ?_
      · rw [if_pos hm] at hres1
        refine ⟨_, rfl, _, rfl, by show 2 ≤ sizeLine; decide, fun t ht => ?_⟩
        have e3 := e2.new (o := .tup [.ref cm, .int v]) ht
        refine k t cm _ (e2.free ht) hcm e3 ?_ ?_
        · rw [upd_same, ← hres1]
        · rw [upd_ne (ne_of_none c2 ht), ← hres1]
          exact c2
      · rw [if_neg hm] at hres1
        have B2 := B.fr e2
        obtain ⟨rs, n1, n2, n3, n4⟩ := B.nr
        have hv1 : v.toNat < rs.length := by omega
        have hv2 := List.getElem?_eq_getElem hv1
        generalize rs[v.toNat] = rr at hv2
        have hrow := e2 _ _ (n3 _ _ hv2) (by simp)
        have ev : ((v.toNat : Nat) : Int) = v := Int.toNat_of_nonneg vr.1
        rw [ev] at hrow
        refine ⟨_, rfl, B2.xN T ⟨_, rfl, _, _, _, _, rfl, rfl, SqL.of (e2 _ _ n2 (by simp)), at_int (v := V.ref rr) vr.1 (by rw [List.getElem?_map, hv2]; rfl), rr, rfl, ⟨_, SqL.of hrow⟩, for_list (K := K) (a := rr) (xs := (Cir.nearOf arcs v).map vN)
          (fun i σ H' => Fr [] H H' ∧ Fr [cm, rw_] H2 H' ∧ H' cm = some (.dK (kvC (Cir.scanL arcs lo hi x v ((Cir.nearOf arcs v).take i) came))) ∧ H' rw_ = some (.lst ((Cir.keysOf (Cir.scanL arcs lo hi x v ((Cir.nearOf arcs v).take i) came)).map V.int)) ∧
            ∃ o3 o4 : Option V, σ = [some (.ref b.p), some (.ref st), some (.ref gd), some (.ref cm), some (.ref rw_), some (.int v), some (.int ((at_ : Int) + 1)), o3, o4])
          ⟨e2, Fr.refl _ _, c2, r2, _, _, rfl⟩ (fun i σ H' _ z => SqL.of (z.2.1 _ _ hrow ?_)) ?_ ?_⟩⟩
        · rw [List.mem_cons, List.mem_singleton]
          rintro (z | z)
          · rw [z, c2] at hrow
            cases hrow
          · rw [z] at hv2
            have := n3 _ _ hv2
            rw [zr] at this
            cases this
        · rintro i y σ H3 hy ⟨e3, e3', c3, r3, o3, o4, rfl⟩
          obtain ⟨a, ha, rfl⟩ := get_mapf hy
          have ham := List.mem_of_getElem? ha
          have hal := (Cir.mem_near.mp ham).1
          have B3 := B.fr e3
          obtain ⟨dx3, ob3⟩ := B3.ob
          refine ⟨_, rfl, b.p, dx3, _, rfl, ob3, fl_no b (by decide +kernel), _, rfl, _, rfl, b, n, arcs, lo, hi, x, sp, v, a, rfl, B3, N, hal, ?_⟩
          have hsc : Cir.scanL arcs lo hi x v ((Cir.nearOf arcs v).take (i + 1)) came = Cir.scanA arcs lo hi x v (Cir.scanL arcs lo hi x v ((Cir.nearOf arcs v).take i) came) a := by rw [take_succ ha, scanL_snoc]
          have C3 := (Cir.scanL_ok hgood ((Cir.nearOf arcs v).take i) came C2 hvm fun u hu => List.mem_of_mem_take hu).1
          have l3 := Cir.came_len C3
          have k3 : (Cir.keysOf (Cir.scanL arcs lo hi x v ((Cir.nearOf arcs v).take i) came)).length = (Cir.scanL arcs lo hi x v ((Cir.nearOf arcs v).take i) came).length := by simp [Cir.keysOf]
          rw [hsc]
          revert c3 r3 C3 l3 k3
          generalize Cir.scanL arcs lo hi x v ((Cir.nearOf arcs v).take i) came = ca
          intro c3 r3 C3 l3 k3
          unfold Cir.scanA
          generalize Cir.leadsTo arcs lo hi x v a = be
          refine ⟨_, rfl, _, _, rfl, rfl, _, rfl, dec_iff (fun c => ⟨_, rfl, _, rfl, cm, _, rfl, DGet.k (k := Sum.inl be) c3, _, rfl, ?_⟩) fun c => ?_⟩
          · rw [kvC_val]
            by_cases d : be ∈ Cir.keysOf ca
            · rw [if_pos d]
              refine iteF ?_
              rw [if_neg fun z => z.2 d]
              exact ⟨e3, e3', c3, r3, _, _, rfl⟩
            · rw [if_neg d]
              refine iteT ?_
              rw [if_pos ⟨c, d⟩]
              refine ⟨_, rfl, _, rfl, _, rfl, cm, _, rfl, DPut.k (k := Sum.inl be) c3 (by rw [kvC_len]; exact len_lt (by omega)), ?_⟩
              rw [kvC_put d]
              have r4 : (upd H3 cm (.dK (kvC (ca ++ [(be, (a : Int))])))) rw_ = some (.lst ((Cir.keysOf ca).map V.int)) := by rw [upd_ne ncr.symm]; exact r3
              refine ⟨_, rfl, .inl ⟨rfl, _, SqL.of r4⟩, _, rfl, _, _, _, rfl, rfl, r4, len_lt (by rw [List.length_map]; omega), ?_⟩
              refine ⟨(e3.put (.inr hcm)).put (.inr zr), (e3'.put (.inl (by simp))).put (.inl (by simp)), ?_, ?_, _, _, rfl⟩
              · rw [upd_ne ncr]
                exact upd_same
              · rw [upd_same, keys_snoc, List.map_append]
                rfl
          · rw [if_neg fun z => c z.1]
            exact ⟨e3, e3', c3, r3, _, _, rfl⟩
        · rintro σ H3 ⟨e3, e3', c3, r3, o3, o4, rfl⟩
          rw [List.length_map, List.take_length] at c3 r3
          refine ⟨m, by omega, m, at_ + 1, _, rfl, by omega, e3, c3, r3, (Cir.scanL_ok hgood (Cir.nearOf arcs v) came C2 hvm fun u hu => hu).1, hres1, some (.int v), o3, o4, rfl⟩
    · have hstop := reach_stop (arcs := arcs) (lo := lo) (hi := hi) (x := x) (goals := goals) (f := m) (at_ := at_) (came := came) (by rw [List.length_map, klen] at c; omega)
      rw [hstop] at hres
      refine ⟨_, rfl, _, rfl, by show 2 ≤ sizeLine; decide, fun t ht => ?_⟩
      refine k t cm _ (e2.free ht) hcm (e2.new ht) ?_ ?_
      · rw [upd_same, ← hres]
      · rw [upd_ne (ne_of_none c2 ht), ← hres]
        exact c2
end
/-! ### pushing -/
/-- at p: a list of these pairs -/
def PairsAt (H : Hp) (p : Addr) (f : List (Nat × Int)) : Prop :=
  ∃ ts : List Addr, H p = some (.lst (ts.map V.ref)) ∧ ts.length = f.length ∧ ∀ (k : Nat) (t : Addr) (q : Nat × Int), ts[k]? = some t → f[k]? = some q → H t = some (.tup [.int (q.1 : Int), .int q.2])
theorem pairs_snoc {H : Hp} {wa tt : Addr} {ts : List Addr} {f : List (Nat × Int)} {q : Nat × Int} (h1 : H wa = some (.lst (ts.map V.ref))) (h2 : ts.length = f.length) (h3 : ∀ (k : Nat) (t : Addr) (q : Nat × Int), ts[k]? = some t → f[k]? = some q → H t = some (.tup [.int (q.1 : Int), .int q.2])) (ht : H tt = none) :
    PairsAt (upd (upd H tt (.tup [.int (q.1 : Int), .int q.2])) wa (.lst (ts.map V.ref ++ [.ref tt]))) wa (f ++ [q]) := by
  refine ⟨ts ++ [tt], by rw [upd_same, List.map_append]; rfl, by simp [h2], fun k t r hk hr => ?_⟩
  rcases Cir.getElem?_snoc_last hr with ⟨h, hr⟩ | ⟨h, rfl⟩
  · rw [List.getElem?_append_left (by omega)] at hk
    have z := h3 k t r hk hr
    rw [upd_ne (ne_of z h1 (by intro y; cases y)), upd_ne (ne_of_none z ht)]
    exact z
  · rw [h, ← h2, List.getElem?_append_right (Nat.le_refl _)] at hk
    have : t = tt := by simpa using hk.symm
    rw [this, upd_ne (ne_of_none h1 ht).symm, upd_same]
theorem par_get {n : Nat} {arcs : List Cir.Arc} {lo hi x starts : List Int} {came : Cir.Came} (hg : ∀ k, k < arcs.length → Cir.Good n (Cir.arcOf arcs k)) (C : Cir.CameOk n arcs lo hi x starts came) {i : Nat} {p : Int × Int} (h : came[i]? = some p) (h0 : 0 ≤ p.2) :
    ∃ (a j : Nat) (q : Int × Int), p.2 = (a : Int) ∧ a < arcs.length ∧ j < i ∧ came[j]? = some q ∧ (((Cir.arcOf arcs a).1 = q.1 ∧ (Cir.arcOf arcs a).2 = p.1) ∨ ((Cir.arcOf arcs a).2 = q.1 ∧ (Cir.arcOf arcs a).1 = p.1)) := by
  rcases C.par i p h with ⟨h1, _⟩ | ⟨b, h1, h2, j, r, h3, h4, h5, h6⟩
  · omega
  · have p0 : 0 ≤ p.1 := (C.rng p.1 (List.mem_of_getElem? (Cir.keys_get h))).1
    rcases Cir.leads_ok (hg b h2) h6 (by rw [h5]; exact p0) with ⟨e1, e2, _⟩ | ⟨e1, e2, _⟩
    · exact ⟨b, j, r, h1, h2, h3, h4, .inl ⟨e1, by rw [e2, h5]⟩⟩
    · exact ⟨b, j, r, h1, h2, h3, h4, .inr ⟨e1, by rw [e2, h5]⟩⟩
theorem kvC_at {n : Nat} {arcs : List Cir.Arc} {lo hi x starts : List Int} {came : Cir.Came} (C : Cir.CameOk n arcs lo hi x starts came) {i : Nat} {p : Int × Int} (h : came[i]? = some p) : valV (kvC came) (Sum.inl p.1 : Key) = some (V.int p.2) := by
  rw [kvC_val, if_pos (List.mem_of_getElem? (Cir.keys_get h)), Cir.cameOf_at C.nd h]
theorem dget_came {H : Hp} {cm : Addr} {n : Nat} {arcs : List Cir.Arc} {lo hi x starts : List Int} {came : Cir.Came} (hc : H cm = some (.dK (kvC came))) (C : Cir.CameOk n arcs lo hi x starts came) {i : Nat} {p : Int × Int} (h : came[i]? = some p) : DGet H cm (.int p.1) (some (V.int p.2)) := by
  have := DGet.k (k := (Sum.inl p.1 : Key)) hc
  rw [kvC_at C h] at this
  exact this
theorem applyR_snoc (x : List Int) (m : Int) (f : List (Nat × Int)) (q : Nat × Int) : Cir.applyR x m (f ++ [q]) = (Cir.applyR x m f).set q.1 (Cir.part (Cir.applyR x m f) q.1 + q.2 * m) := by
  unfold Cir.applyR
  rw [List.foldl_append]
  rfl
def spPush (C : Addr) : Sp := fun vs H Q _ => ∃ (b : BedA) (n : Nat) (arcs : List Cir.Arc) (lo hi x sp : List Int) (cm : Addr) (starts : List Int) (came : Cir.Came) (i : Nat) (p : Int × Int) (m0 : Int), vs = [.ref b.p, .ref cm, .int p.1, .int m0] ∧ BedAt C H b n arcs lo hi x sp ∧ Cir.Bn arcs lo hi x ∧ n ≤ 1000 ∧
  (∀ k, k < arcs.length → Cir.Good n (Cir.arcOf arcs k)) ∧ H cm = some (.dK (kvC came)) ∧ Cir.CameOk n arcs lo hi x starts came ∧ came[i]? = some p ∧
  ∀ H' : Hp, Fr [b.c] H H' → BedAt C H' b n arcs lo hi (Cir.applyR x (Cir.wayF arcs lo hi x came (n + 1) p.1 m0 []).2 (Cir.wayF arcs lo hi x came (n + 1) p.1 m0 []).1) sp → Q (.int (Cir.wayF arcs lo hi x came (n + 1) p.1 m0 []).2) H'
section
variable {P : Program} {w : World} {K : PySem.W.Frag} {mg : Str → Option Value} {base : Heap} {CA CB : Addr}
theorem ok_push {f : Addr} {fd : FuncData} (F : Fun K "push" "Bed.push" s_Bed_push f fd) (T : Txt P K mg CA CB) : FnOk P w K mg base CX0 1 f fd ["self", "came", "goal", "most"] (spPush CB) := by
  refine F.ok sc_Bed_push (fun vs H Q E h => ?_) (fun cdv A outer s H vs Q E hr h => ?_)
  · obtain ⟨b, n, arcs, lo, hi, x, sp, cm, starts, came, i, p, m0, rfl, _⟩ := h
    rfl
  · obtain ⟨b, n, arcs, lo, hi, x, sp, cm, starts, came, i, p, m0, rfl, B, N, hn, hgood, hc, C, hi', k⟩ := h
    have hu := hu_of hr
    refine ⟨_, (pss_cons (ps_set (i := 4) sc_Bed_push.nd rfl (Or.inl rfl) (pe_lst pa_nil))
    (pss_cons (ps_set (i := 5) sc_Bed_push.nd rfl (Or.inl rfl) (pv 2))
    (pss_cons (ps_while PassesOwn.never (pt_cmpR op_ge (pe_dget hu (pv 1) (pv 5) (fun _ _ => rfl)) pe_int (nomark _))
      (pss_cons (ps_set (i := 6) sc_Bed_push.nd rfl (Or.inl rfl) (pe_dget hu (pv 1) (pv 5) (fun _ _ => rfl)))
      (pss_one (ps_if (pt_cmpR op_eq (pe_ix ix_list (pe_fld (pv 0) rfl) (pv 6) (fun _ _ => rfl)) (pv 5) (nomark _))
        (pss_cons (ps_set (i := 3) sc_Bed_push.nd rfl (Or.inl rfl) (pe_callB (call_min2 rfl) (by rfl) T.m_min (by decide +kernel) (pa_cons (pv 3) (pa_cons (pe_op op_sub (pe_ix ix_list (pe_fld (pv 0) rfl) (pv 6) (fun _ _ => rfl)) (pe_ix ix_list (pe_fld (pv 0) rfl) (pv 6) (fun _ _ => rfl))) pa_nil))))
        (pss_cons (ps_expr (pe_bm PySem.F.plainAttrs_list PySem.F.slot_list_append PySem.F.type_list_append mt_append (pv 4) (pa_cons (pe_tup (pa_cons (pv 6) (pa_cons pe_int pa_nil))) pa_nil)))
        (pss_one (ps_set (i := 5) sc_Bed_push.nd rfl (Or.inl rfl) (pe_ix ix_list (pe_fld (pv 0) rfl) (pv 6) (fun _ _ => rfl))))))
        (pss_cons (ps_set (i := 3) sc_Bed_push.nd rfl (Or.inl rfl) (pe_callB (call_min2 rfl) (by rfl) T.m_min (by decide +kernel) (pa_cons (pv 3) (pa_cons (pe_op op_sub (pe_ix ix_list (pe_fld (pv 0) rfl) (pv 6) (fun _ _ => rfl)) (pe_ix ix_list (pe_fld (pv 0) rfl) (pv 6) (fun _ _ => rfl))) pa_nil))))
        (pss_cons (ps_expr (pe_bm PySem.F.plainAttrs_list PySem.F.slot_list_append PySem.F.type_list_append mt_append (pv 4) (pa_cons (pe_tup (pa_cons (pv 6) (pa_cons (pe_un un_neg pe_int) pa_nil))) pa_nil)))
        (pss_one (ps_set (i := 5) sc_Bed_push.nd rfl (Or.inl rfl) (pe_ix ix_list (pe_fld (pv 0) rfl) (pv 6) (fun _ _ => rfl))))))))))
    (pss_cons (ps_for PassesOwn.never rfl (pi_list (pv 4)) (pg_tup rfl (pgs_cons (pg_name (i := 6) sc_Bed_push.nd rfl (Or.inl rfl)) (pgs_cons (pg_name (i := 7) sc_Bed_push.nd rfl (Or.inl rfl)) pgs_nil)))
      (pss_one (ps_augS (pe_fld (pv 0) rfl) (pv 6) pget_list (pe_op op_mul (pv 7) (pv 3)) ip_add set_list)))
    (pss_one (ps_ret (pv 3))))))), ?_⟩
    have clen := Cir.came_len C
    have hil := (List.getElem?_eq_some_iff.mp hi').1
    refine ⟨by show 0 ≤ sizeLine; exact Nat.zero_le _, fun wa hwa => ?_⟩
    refine ⟨_, rfl, ?_⟩
    -- while came[node] >= 0
    refine ⟨fun m σ H' => ∃ (j : Nat) (q : Int × Int) (most : Int) (way : List (Nat × Int)), j < m ∧ m + way.length ≤ n + 1 ∧ came[j]? = some q ∧ Fr [] H H' ∧ PairsAt H' wa way ∧ Cir.wayF arcs lo hi x came m q.1 most way = Cir.wayF arcs lo hi x came (n + 1) p.1 m0 [] ∧
        ∃ o6 o7 : Option V, σ = [some (.ref b.p), some (.ref cm), some (.int p.1), some (.int most), some (.ref wa), some (.int q.1), o6, o7],
      ⟨n + 1, i, p, m0, [], by omega, by simp, hi', (Fr.refl _ _).new hwa, ⟨[], upd_same, rfl, fun k t q h => by simp at h⟩, rfl, _, _, rfl⟩, ?_⟩
    rintro m σ H' ⟨j, q, most, way, hjm, hml, hq, e, hP, hres, o6, o7, rfl⟩
    have hcq := dget_came (e _ _ hc (by simp)) C hq
    have ce := Cir.cameOf_at C.nd hq
    obtain ⟨m, rfl⟩ : ∃ m', m = m' + 1 := ⟨m - 1, by omega⟩
    have B1 := B.fr e
    have hres1 := hres
    rw [show Cir.wayF arcs lo hi x came (m + 1) q.1 most way = (if 0 ≤ Cir.cameOf came q.1 then _ else (way, most)) from rfl, ce] at hres1
    refine ⟨_, rfl, _, rfl, cm, _, rfl, hcq, _, _, rfl, rfl, _, rfl, dec_iff (fun c => ?_) fun c => ?_⟩
    · have c0 : 0 ≤ q.2 := c
      rw [if_pos c0] at hres1
      obtain ⟨a, j2, r, ha, hal, hj2, hr2, hcase⟩ := par_get hgood C hq c0
      have hx : a < x.length := by rw [N.lx]; exact hal
      have hlo : a < lo.length := by rw [N.ll]; exact hal
      have hhi : a < hi.length := by rw [N.lh]; exact hal
      have g := hgood a hal
      rw [ha] at hcq hres1
      rw [Int.toNat_natCast] at hres1
      refine ⟨_, fun σ' H' h => h, ?_⟩
      refine ⟨_, rfl, _, rfl, cm, _, rfl, hcq, ?_⟩
      refine ⟨_, rfl, B1.xH T ⟨_, rfl, _, _, _, _, rfl, rfl, SqL.of B1.hd, at_2 hal, _, rfl, rfl, _, rfl, eq_if (fun d => ?_) fun d => ?_⟩⟩
      · rw [if_pos d] at hres1
        have er : (Cir.arcOf arcs a).1 = r.1 := by
          rcases hcase with z | z
          · exact z.1
          · exact absurd (z.2.trans d.symm) g.2.2
        refine ⟨_, rfl, _, rfl, B1.xU T ⟨_, rfl, _, _, _, _, rfl, rfl, SqL.of B1.ug, at_part hhi, _, rfl, B1.xC T ⟨_, rfl, _, _, _, _, rfl, rfl, SqL.of B1.cr, at_part hx, _, _, rfl, rfl, _, _, rfl, ?_⟩⟩⟩
        obtain ⟨ts, t1, t2, t3⟩ := hP
        refine ⟨_, rfl, .inl ⟨rfl, _, SqL.of t1⟩, _, rfl, by show 2 ≤ sizeLine; decide, fun tt htt => ⟨_, _, _, rfl, rfl, by rw [upd_ne (ne_of_none t1 htt)]; exact t1, len_lt (by rw [List.length_map]; omega), ?_⟩⟩
        have e3 : Fr [] H (upd (upd H' tt (.tup [.int (a : Int), .int (1)])) wa (.lst (ts.map V.ref ++ [.ref tt]))) := (e.new htt).put (.inr hwa)
        have P3 : PairsAt (upd (upd H' tt (.tup [.int (a : Int), .int (1)])) wa (.lst (ts.map V.ref ++ [.ref tt]))) wa (way ++ [(a, 1)]) := pairs_snoc (q := (a, 1)) t1 t2 t3 htt
        have B3 := B.fr e3
        refine ⟨_, rfl, B3.xT T ⟨_, rfl, _, _, _, _, rfl, rfl, SqL.of B3.tl, at_1 hal, ?_⟩⟩
        refine ⟨m, by omega, j2, r, if Cir.part hi a - Cir.part x a < most then Cir.part hi a - Cir.part x a else most, way ++ [(a, 1)], by omega, by rw [List.length_append]; simp; omega, hr2, e3, P3, ?_, some (.int (a : Int)), o7, ?_⟩
        · rw [← hres1, ← er]
        · rw [← er]
          rfl
      · rw [if_neg d] at hres1
        have er : (Cir.arcOf arcs a).2 = r.1 := by
          rcases hcase with z | z
          · exact absurd z.2 d
          · exact z.1
        refine ⟨_, rfl, _, rfl, B1.xC T ⟨_, rfl, _, _, _, _, rfl, rfl, SqL.of B1.cr, at_part hx, _, rfl, B1.xL T ⟨_, rfl, _, _, _, _, rfl, rfl, SqL.of B1.lw, at_part hlo, _, _, rfl, rfl, _, _, rfl, ?_⟩⟩⟩
        obtain ⟨ts, t1, t2, t3⟩ := hP
        refine ⟨_, rfl, .inl ⟨rfl, _, SqL.of t1⟩, _, rfl, _, rfl, by show 2 ≤ sizeLine; decide, fun tt htt => ⟨_, _, _, rfl, rfl, by rw [upd_ne (ne_of_none t1 htt)]; exact t1, len_lt (by rw [List.length_map]; omega), ?_⟩⟩
        have e3 : Fr [] H (upd (upd H' tt (.tup [.int (a : Int), .int (-1)])) wa (.lst (ts.map V.ref ++ [.ref tt]))) := (e.new htt).put (.inr hwa)
        have P3 : PairsAt (upd (upd H' tt (.tup [.int (a : Int), .int (-1)])) wa (.lst (ts.map V.ref ++ [.ref tt]))) wa (way ++ [(a, -1)]) := pairs_snoc (q := (a, -1)) t1 t2 t3 htt
        have B3 := B.fr e3
        refine ⟨_, rfl, B3.xH T ⟨_, rfl, _, _, _, _, rfl, rfl, SqL.of B3.hd, at_2 hal, ?_⟩⟩
        refine ⟨m, by omega, j2, r, if Cir.part x a - Cir.part lo a < most then Cir.part x a - Cir.part lo a else most, way ++ [(a, -1)], by omega, by rw [List.length_append]; simp; omega, hr2, e3, P3, ?_, some (.int (a : Int)), o7, ?_⟩
        · rw [← hres1, ← er]
        · rw [← er]
          rfl
    · rw [if_neg (by omega)] at hres1
      rw [← hres1] at k
      dsimp only at k
      obtain ⟨wy, W, hw⟩ := Cir.way_ok hgood C (n + 1) i p hi' (by omega)
      have hwy : way = wy := by
        have := (hw m0 []).1
        rw [← hres1] at this
        simpa using this
      subst hwy
      obtain ⟨ts, t1, t2, t3⟩ := hP
      have nwc : b.c ≠ wa := ne_of_none B.cr hwa
      refine ⟨_, rfl, wa, rfl, ⟨_, SqL.of t1⟩, for_list (K := K) (a := wa) (xs := ts.map V.ref) (fun i σ H2 => Fr [b.c] H' H2 ∧ BedAt CB H2 b n arcs lo hi (Cir.applyR x most (way.take i)) sp ∧
          ∃ o6 o7 : Option V, σ = [some (.ref b.p), some (.ref cm), some (.int p.1), some (.int most), some (.ref wa), some (.int q.1), o6, o7]) ⟨Fr.refl _ _, B1, _, _, rfl⟩
        (fun i σ H2 _ z => SqL.of (z.1 _ _ t1 (by simpa using nwc.symm))) ?_ ?_⟩
      · rintro i y σ H2 hy ⟨f2, B2, o6, o7, rfl⟩
        obtain ⟨t, ht, rfl⟩ := get_mapf hy
        have hil2 := (List.getElem?_eq_some_iff.mp ht).1
        have hq2 : way[i]? = some way[i] := List.getElem?_eq_getElem (by omega)
        have wok := W.ok _ (List.mem_of_getElem? hq2)
        have z := t3 i t _ ht hq2
        revert z wok hq2
        generalize way[i] = qq
        intro hq2 wok z
        have z2 := f2 _ _ z (by rw [List.mem_singleton]; exact ne_of z B1.cr (by intro y; cases y))
        have hx2 : qq.1 < (Cir.applyR x most (way.take i)).length := by
          rw [Cir.applyR_len, N.lx]
          exact wok.1
        refine ⟨_, _, rfl, SqT.of z2, rfl, _, _, rfl, _, _, rfl, rfl, ?_⟩
        refine ⟨_, rfl, B2.xC T ⟨_, rfl, _, _, _, _, rfl, rfl, SqL.of B2.cr, at_part hx2, _, rfl, _, rfl, _, _, rfl, rfl, .inl ?_, _, _, rfl, rfl, _, _, _, _, rfl, rfl, B2.cr, ix_nat (by rw [List.length_map]; exact hx2), ?_⟩⟩
        · rcases wok.2.1 with z | z <;> rw [z] <;> decide
        · have B4 := B2.putC ((Cir.applyR x most (way.take i)).set qq.1 (Cir.part (Cir.applyR x most (way.take i)) qq.1 + qq.2 * most))
          rw [List.map_set, ← applyR_snoc, ← take_succ hq2] at B4
          exact ⟨f2.put (.inl (by simp)), B4, _, _, rfl⟩
      · rintro σ H2 ⟨f2, B2, o6, o7, rfl⟩
        rw [List.length_map, t2, List.take_length] at B2
        exact ⟨_, rfl, k H2 ((e.sub (by simp)).trans f2) B2⟩
end
/-! ### settling -/
theorem settle_none {n : Nat} {arcs : List Cir.Arc} {lo hi x sp : List Int} (f : Nat) (h : Cir.posN sp = []) : Cir.settleF n arcs lo hi f x sp = ⟨x, sp, none⟩ := by
  cases f with
  | zero => rfl
  | succ f =>
    show (if Cir.posN sp = [] then _ else _) = _
    rw [if_pos h]
theorem settle_turnF {n : Nat} {arcs : List Cir.Arc} {lo hi x sp : List Int} (f : Nat) (h : ¬ Cir.posN sp = []) : Cir.settleF n arcs lo hi (f + 1) x sp =
    if (Cir.setReach n arcs lo hi x sp).2 < 0 then ⟨x, sp, some (Cir.sortL (Cir.keysOf (Cir.setReach n arcs lo hi x sp).1))⟩
    else Cir.settleF n arcs lo hi f (Cir.applyR x (Cir.setWay n arcs lo hi x sp (Cir.setReach n arcs lo hi x sp)).2 (Cir.setWay n arcs lo hi x sp (Cir.setReach n arcs lo hi x sp)).1)
      (Cir.setSpare sp (Cir.startF arcs (Cir.setReach n arcs lo hi x sp).1 (n + 1) (Cir.setReach n arcs lo hi x sp).2) (Cir.setReach n arcs lo hi x sp).2 (Cir.setWay n arcs lo hi x sp (Cir.setReach n arcs lo hi x sp)).2) := by
  show (if Cir.posN sp = [] then _ else _) = _
  rw [if_neg h]
theorem ints_map (l : List Nat) : (Cir.ints_ l).map V.int = l.map vN := by
  unfold Cir.ints_
  rw [List.map_map]
  rfl
theorem filter_succ (p : Nat → Bool) (i : Nat) : (List.range (i + 1)).filter p = (List.range i).filter p ++ (if p i = true then [i] else []) := by
  rw [List.range_succ, List.filter_append, List.filter_cons]
  rfl
def spSettle (C : Addr) : Sp := fun vs H Q _ => ∃ (b : BedA) (n : Nat) (arcs : List Cir.Arc) (lo hi x : List Int), vs = [.ref b.p] ∧ BedAt C H b n arcs lo hi x (Cir.spareL n arcs x) ∧ Cir.Bn arcs lo hi x ∧ n < 64 ∧ arcs.length ≤ 10000 ∧
  (∀ k, k < arcs.length → Cir.Good n (Cir.arcOf arcs k)) ∧ ∀ H' : Hp, Fr [b.c, b.s] H H' →
    BedAt C H' b n arcs lo hi (Cir.settleF n arcs lo hi (Cir.posSum (Cir.spareL n arcs x)) x (Cir.spareL n arcs x)).x (Cir.settleF n arcs lo hi (Cir.posSum (Cir.spareL n arcs x)) x (Cir.spareL n arcs x)).sp →
    ((Cir.settleF n arcs lo hi (Cir.posSum (Cir.spareL n arcs x)) x (Cir.spareL n arcs x)).cut = none → Q .non H') ∧
    (∀ S, (Cir.settleF n arcs lo hi (Cir.posSum (Cir.spareL n arcs x)) x (Cir.spareL n arcs x)).cut = some S → ∀ l, H l = none → H' l = some (.lst (S.map V.int)) → Q (.ref l) H')
theorem putK_le (kvs : List (Key × V)) (k : Key) (v : V) : (putK kvs k v).length ≤ kvs.length + 1 := by
  unfold putK
  by_cases e : (kvs.any fun kv => decide (kv.1 = k)) = true
  · rw [if_pos e, List.length_map]
    omega
  · rw [if_neg e, List.length_append]
    simp
section
variable {P : Program} {w : World} {K : PySem.W.Frag} {mg : Str → Option Value} {base : Heap} {CA CB : Addr}
theorem ok_settle {f : Addr} {fd : FuncData} (F : Fun K "settle" "Bed.settle" s_Bed_settle f fd) (T : Txt P K mg CA CB) (F_reach : MtB P w K mg base CX0 2 CB "reach" ["self", "starts", "goals"] (spReach K CB))
    (F_push : MtB P w K mg base CX0 1 CB "push" ["self", "came", "goal", "most"] (spPush CB)) : FnOk P w K mg base CX0 3 f fd ["self"] (spSettle CB) := by
  refine F.ok sc_Bed_settle (fun vs H Q E h => ?_) (fun cdv A outer s H vs Q E hr h => ?_)
  · obtain ⟨b, n, arcs, lo, hi, x, rfl, _⟩ := h
    rfl
  · obtain ⟨b, n, arcs, lo, hi, x0, rfl, B0, N0, hn, hl, hgood, k⟩ := h
    have hu := hu_of hr
    refine ⟨_, (pss_one (ps_while PassesOwn.never (pt_val pe_bl)
      (pss_cons (ps_setLc (i := 2) (own := [("k", 1)]) rfl sc_Bed_settle.nd rfl rfl (sw_true rfl rfl rfl (by decide +kernel)) (pi_range1 (by rfl) T.m_range (pa_cons (pe_callB call_len_seq (by rfl) T.m_len (by decide +kernel) (pa_cons (pe_fld (pv 0) rfl) pa_nil)) pa_nil)) (blkOk_by (own := [("k", 1)]) (N := n_Bed_settle) (sc := defScope s_Bed_settle) (by decide +kernel)) (fun _ _ _ _ _ => (pg_name (i := 1) sc_Bed_settle.nd rfl (Or.inl rfl))) (fun _ _ _ _ _ => pts_one (pt_cmpR op_gt (pe_ix (r := rIxL K) ix_list (pe_fldK (K := K) rfl (pv 0) rfl) (pv 1) (fun _ _ => rfl)) pe_int (nomark _))) (fun _ _ _ _ _ => (pv 1)))
      (pss_cons (ps_if (pt_not (pt_truth (pv 2) (by intro _; rfl)))
        (pss_one (ps_ret pe_non))
        pss_nil)
      (pss_cons (ps_set (i := 3) sc_Bed_settle.nd rfl (Or.inl rfl) pe_dnewK)
      (pss_cons (ps_for PassesOwn.never rfl (pi_range1 (by rfl) T.m_range (pa_cons (pe_callB call_len_seq (by rfl) T.m_len (by decide +kernel) (pa_cons (pe_fld (pv 0) rfl) pa_nil)) pa_nil)) (pg_name (i := 1) sc_Bed_settle.nd rfl (Or.inl rfl))
        (pss_one (ps_if (pt_cmpR op_lt (pe_ix ix_list (pe_fld (pv 0) rfl) (pv 1) (fun _ _ => rfl)) pe_int (nomark _))
          (pss_one (ps_dput hu (pv 3) (pv 1) pe_bl rfl))
          pss_nil)))
      (pss_cons (ps_asg (pe_methB F_reach T.clB (pv 0) (hr.mono (by decide)) pass0 (pa_cons (pv 2) (pa_cons (pv 3) pa_nil))) (pg_tup rfl (pgs_cons (pg_name (i := 4) sc_Bed_settle.nd rfl (Or.inl rfl)) (pgs_cons (pg_name (i := 5) sc_Bed_settle.nd rfl (Or.inl rfl)) pgs_nil))))
      (pss_cons (ps_if (pt_cmpR op_lt (pv 5) pe_int (nomark _))
        (pss_one (ps_ret (pe_callB (call_sortedDI rfl) (by rfl) T.m_sorted (by decide +kernel) (pa_cons (pv 4) pa_nil))))
        pss_nil)
      (pss_cons (ps_set (i := 6) sc_Bed_settle.nd rfl (Or.inl rfl) (pv 5))
      (pss_cons (ps_while PassesOwn.never (pt_cmpR op_ge (pe_dget hu (pv 4) (pv 6) (fun _ _ => rfl)) pe_int (nomark _))
        (pss_cons (ps_set (i := 7) sc_Bed_settle.nd rfl (Or.inl rfl) (pe_dget hu (pv 4) (pv 6) (fun _ _ => rfl)))
        (pss_one (ps_set (i := 6) sc_Bed_settle.nd rfl (Or.inl rfl) (pe_op op_sub (pe_op op_add (pe_ix ix_list (pe_fld (pv 0) rfl) (pv 7) (fun _ _ => rfl)) (pe_ix ix_list (pe_fld (pv 0) rfl) (pv 7) (fun _ _ => rfl))) (pv 6))))))
      (pss_cons (ps_set (i := 8) sc_Bed_settle.nd rfl (Or.inl rfl) (pe_methB F_push T.clB (pv 0) (hr.mono (by decide)) pass0 (pa_cons (pv 4) (pa_cons (pv 5) (pa_cons (pe_callB (call_min2 rfl) (by rfl) T.m_min (by decide +kernel) (pa_cons (pe_ix ix_list (pe_fld (pv 0) rfl) (pv 6) (fun _ _ => rfl)) (pa_cons (pe_un un_neg (pe_ix ix_list (pe_fld (pv 0) rfl) (pv 5) (fun _ _ => rfl))) pa_nil))) pa_nil)))))
      (pss_cons (ps_augS (pe_fld (pv 0) rfl) (pv 6) pget_list (pv 8) ip_sub set_list)
      (pss_one (ps_augS (pe_fld (pv 0) rfl) (pv 5) pget_list (pv 8) ip_add set_list)))))))))))))), ?_⟩
    refine while_true (fun m σ H' => ∃ x : List Int, Cir.Bn arcs lo hi x ∧ Cir.posSum (Cir.spareL n arcs x) ≤ m ∧ Cir.settleF n arcs lo hi m x (Cir.spareL n arcs x) = Cir.settleF n arcs lo hi (Cir.posSum (Cir.spareL n arcs x0)) x0 (Cir.spareL n arcs x0) ∧ Fr [b.c, b.s] H H' ∧ BedAt CB H' b n arcs lo hi x (Cir.spareL n arcs x) ∧
        ∃ o1 o2 o3 o4 o5 o6 o7 o8 : Option V, σ = [some (.ref b.p), o1, o2, o3, o4, o5, o6, o7, o8])
      (Cir.posSum (Cir.spareL n arcs x0)) ⟨x0, N0, Nat.le_refl _, rfl, Fr.refl _ _, B0, _, _, _, _, _, _, _, _, rfl⟩ ?_
    rintro m σ H' ⟨x, N, hm, hres, e, B, o1, o2, o3, o4, o5, o6, o7, o8, rfl⟩
    have sl : (Cir.spareL n arcs x).length = n := Cir.spareL_len n arcs x
    -- starts
    refine ⟨_, rfl, B.xS T ⟨_, _, rfl, .inl (SqL.of B.sr), _, rfl, (rg_ok (by rw [List.length_map, sl]; omega)).1, (rg_ok (by rw [List.length_map, sl]; omega)).2, fun st hst => lc_rng (n := ((Cir.spareL n arcs x).map V.int).length)
      (fun i H2 => H2 = upd H' st (.lst (((List.range i).filter fun k => decide (0 < Cir.part (Cir.spareL n arcs x) k)).map vN))) rfl ?_ ?_⟩⟩
    · rintro i H2 hi' rfl
      rw [List.length_map] at hi'
      have B2 := B.fr ((Fr.refl [] H').new (o := .lst (((List.range i).filter fun k => decide (0 < Cir.part (Cir.spareL n arcs x) k)).map vN)) hst)
      refine ⟨rfl, _, rfl, B2.xS T ⟨_, rfl, _, _, _, _, rfl, rfl, SqL.of B2.sr, at_part hi', _, _, rfl, rfl, _, rfl, dec_iff (fun c => ?_) fun c => ?_⟩⟩
      · refine ⟨_, rfl, _, upd_same, len_lt ?_, ?_⟩
        · rw [List.length_map]
          refine Nat.lt_of_le_of_lt (List.length_filter_le _ _) ?_
          rw [List.length_range]
          omega
        · rw [upd_upd, filter_succ, if_pos (decide_eq_true c), List.map_append]
          rfl
      · rw [filter_succ, if_neg (by simpa using c), List.append_nil]
    rintro H2 rfl
    rw [List.length_map]
    have hst2 : (upd H' st (.lst ((Cir.posN (Cir.spareL n arcs x)).map vN))) st = some (.lst ((Cir.posN (Cir.spareL n arcs x)).map vN)) := upd_same
    have f2 : Fr [] H' (upd H' st (.lst ((Cir.posN (Cir.spareL n arcs x)).map vN))) := (Fr.refl [] H').new hst
    show tSeq _ _ _ _ (upd H' st (.lst ((Cir.posN (Cir.spareL n arcs x)).map vN)))
    revert hst2 f2
    generalize upd H' st (.lst ((Cir.posN (Cir.spareL n arcs x)).map vN)) = H2
    intro hst2 f2
    have B2 := B.fr f2
    -- if not starts
    refine ⟨_, rfl, _, .inl ⟨_, SqL.of hst2, rfl⟩, ?_⟩
    by_cases hp : Cir.posN (Cir.spareL n arcs x) = []
    · rw [hp]
      refine iteT ?_
      rw [settle_none m hp] at hres
      rw [← hres] at k
      exact (k H2 (e.trans (f2.sub (by simp))) B2).1 rfl
    have hne : (((Cir.posN (Cir.spareL n arcs x)).map vN).isEmpty) = false := by
      cases hz : Cir.posN (Cir.spareL n arcs x) with
      | nil => exact absurd hz hp
      | cons a l => rfl
    rw [hne]
    refine iteF ?_
    obtain ⟨m, rfl⟩ : ∃ m', m = m' + 1 := by
      refine ⟨m - 1, ?_⟩
      have : m ≠ 0 := fun z => hp (by
        have h0 := Cir.sum_posN (sp := Cir.spareL n arcs x) (by omega)
        unfold Cir.posN
        rw [List.filter_eq_nil_iff]
        intro a _
        have := h0 a
        simp
        omega)
      omega
    rw [settle_turnF m hp] at hres
    obtain ⟨R, TO⟩ := Cir.settle_turn hgood N hp
    -- goals
    intro gd hgd
    refine ⟨_, rfl, (B2.fr ((Fr.refl [] H2).new hgd)).xS T ⟨_, _, rfl, .inl (SqL.of (B2.fr ((Fr.refl [] H2).new hgd)).sr), _, rfl, (rg_ok (by rw [List.length_map, sl]; omega)).1, (rg_ok (by rw [List.length_map, sl]; omega)).2, for_rng (n := ((Cir.spareL n arcs x).map V.int).length)
      (fun i σ H3 => Fr [] H2 H3 ∧ (∃ kvs : List (Key × V), H3 gd = some (.dK kvs) ∧ kvs.length ≤ i ∧ ∀ v : Int, (valV kvs (Sum.inl v : Key)).isSome = decide (v ∈ Cir.ints_ ((List.range i).filter fun k => decide (Cir.part (Cir.spareL n arcs x) k < 0)))) ∧
        ∃ o1 : Option V, σ = [some (.ref b.p), o1, some (.ref st), some (.ref gd), o4, o5, o6, o7, o8])
      ⟨(Fr.refl [] H2).new hgd, ⟨[], upd_same, Nat.le_refl _, fun v => rfl⟩, _, rfl⟩ ?_ ?_⟩⟩
    · rintro i σ H3 hi' ⟨f3, ⟨kvs, g1, g2, g3⟩, o1, rfl⟩
      rw [List.length_map] at hi'
      have B3 := B2.fr f3
      refine ⟨_, rfl, B3.xS T ⟨_, rfl, _, _, _, _, rfl, rfl, SqL.of B3.sr, at_part hi', _, _, rfl, rfl, _, rfl, dec_iff (fun c => ?_) fun c => ?_⟩⟩
      · refine ⟨_, rfl, _, rfl, gd, _, rfl, DPut.k (k := Sum.inl (i : Int)) g1 (len_lt (by omega)), ?_⟩
        refine ⟨f3.put (.inr hgd), ⟨_, upd_same, Nat.le_trans (putK_le _ _ _) (by omega), fun v => ?_⟩, _, rfl⟩
        rw [valV_put, filter_succ, if_pos (decide_eq_true c)]
        unfold Cir.ints_
        rw [List.map_append]
        by_cases d : v = (i : Int)
        · rw [d, if_pos rfl]
          simp
        · rw [if_neg (fun z => d (Sum.inl.inj z)), g3 v]
          unfold Cir.ints_
          congr 1
          simp [d]
      · refine ⟨f3, ⟨kvs, g1, by omega, fun v => ?_⟩, _, rfl⟩
        rw [g3 v, filter_succ, if_neg (by simpa using c), List.append_nil]
    rintro σ H3 ⟨f3, ⟨kvs, g1, g2, g3⟩, o1, rfl⟩
    rw [List.length_map] at g3
    have hG : KeysAt H3 gd (Cir.ints_ (Cir.negN (Cir.spareL n arcs x))) := ⟨kvs, g1, g3⟩
    have B3 := B2.fr f3
    have hst3 := f3 _ _ hst2 (by simp)
    -- came, goal = self.reach(starts, goals)
    obtain ⟨dx3, ob3⟩ := B3.ob
    have snd : (Cir.ints_ (Cir.posN (Cir.spareL n arcs x))).Nodup := Cir.ints_nd (List.Pairwise.filter _ List.nodup_range)
    have srng : ∀ v ∈ Cir.ints_ (Cir.posN (Cir.spareL n arcs x)), 0 ≤ v ∧ v < n := fun v hv => by
      obtain ⟨k, hk, rfl⟩ := Cir.mem_ints.mp hv
      have := (Cir.posN_mem.mp hk).1
      omega
    refine ⟨_, rfl, b.p, dx3, _, rfl, ob3, fl_no b (by decide +kernel), _, rfl, _, rfl, b, n, arcs, lo, hi, x, Cir.spareL n arcs x, st, gd, Cir.ints_ (Cir.posN (Cir.spareL n arcs x)), Cir.ints_ (Cir.negN (Cir.spareL n arcs x)), rfl, B3, N, by omega, hl, hgood, ?_, hG, snd, srng, fun t cm H4 ht hcm f4 ht4 hcm4 => ?_⟩
    · rw [ints_map]
      exact SqL.of hst3
    have rdef : Cir.reachF arcs lo hi x (Cir.ints_ (Cir.negN (Cir.spareL n arcs x))) (n + 1) 0 (Cir.came0 (Cir.ints_ (Cir.posN (Cir.spareL n arcs x)))) = Cir.setReach n arcs lo hi x (Cir.spareL n arcs x) := rfl
    rw [rdef] at ht4 hcm4
    refine ⟨_, _, rfl, SqT.of ht4, rfl, _, _, rfl, _, _, rfl, rfl, ?_⟩
    -- if goal < 0
    have B4 := B3.fr f4
    have H4e : Fr [b.c, b.s] H H4 := e.trans ((f2.trans (f3.trans f4)).sub (by simp))
    revert hres R TO ht4 hcm4
    generalize hr_ : Cir.setReach n arcs lo hi x (Cir.spareL n arcs x) = r
    intro hres R TO ht4 hcm4
    obtain ⟨C, hrc⟩ := R
    have clen := Cir.came_len C
    refine ⟨_, rfl, _, _, rfl, rfl, _, rfl, dec_iff (fun c => ?_) fun c => ?_⟩
    · rw [if_pos c] at hres
      rw [← hres] at k
      refine ⟨_, rfl, cm, kvC r.1, Cir.keysOf r.1, rfl, .inl hcm4, ?_, ?_, fun ys q hys hs hq => ?_⟩
      · unfold kvC Cir.keysOf
        rw [List.map_map, List.map_map]
        rfl
      · unfold Cir.keysOf
        rw [List.length_map]
        omega
      · rw [Cir.sortL_eq C.nd hys hs]
        have nq : H q = none := by
          cases z : H q with
          | none => rfl
          | some o =>
            exfalso
            by_cases z1 : q = b.c
            · rw [z1, B4.cr] at hq
              cases hq
            · by_cases z2 : q = b.s
              · rw [z2, B4.sr] at hq
                cases hq
              · rw [H4e q o z (by simp [z1, z2])] at hq
                cases hq
        exact (k _ (H4e.put (.inr nq)) (B4.fr ((Fr.refl [] H4).new hq))).2 _ rfl q nq upd_same
    rw [if_neg c] at hres
    have TO := TO c
    rcases hrc with ⟨z, _⟩ | ⟨_, _, hkm⟩
    · omega
    obtain ⟨i, hi'⟩ := List.mem_iff_getElem?.mp hkm
    have il : i < r.1.length := by
      have := (List.getElem?_eq_some_iff.mp hi').1
      simpa [Cir.keysOf] using this
    have hp' := List.getElem?_eq_getElem il
    have e1 := Cir.keys_get hp'
    rw [hi'] at e1
    have e1 : r.2 = (r.1[i]).1 := Option.some.inj e1
    -- start
    refine ⟨_, rfl, ?_⟩
    refine ⟨fun m' σ H' => H' = H4 ∧ ∃ (j : Nat) (q : Int × Int), j < m' ∧ r.1[j]? = some q ∧ Cir.startF arcs r.1 m' q.1 = Cir.startF arcs r.1 (n + 1) r.2 ∧
        ∃ o1 o7 : Option V, σ = [some (.ref b.p), o1, some (.ref st), some (.ref gd), some (.ref cm), some (.int r.2), some (.int q.1), o7, o8],
      ⟨n + 1, rfl, i, r.1[i], by omega, hp', by rw [e1], o1, o7, by rw [← e1]; rfl⟩, ?_⟩
    rintro m' σ H5 ⟨rfl, j, q, hjm, hq, hst', o1, o7, rfl⟩
    have hcq := dget_came hcm4 C hq
    have ce := Cir.cameOf_at C.nd hq
    obtain ⟨m', rfl⟩ : ∃ m'', m' = m'' + 1 := ⟨m' - 1, by omega⟩
    have hs1 := hst'
    rw [show Cir.startF arcs r.1 (m' + 1) q.1 = (if 0 ≤ Cir.cameOf r.1 q.1 then Cir.startF arcs r.1 m' ((Cir.arcOf arcs (Cir.cameOf r.1 q.1).toNat).1 + (Cir.arcOf arcs (Cir.cameOf r.1 q.1).toNat).2 - q.1) else q.1) from rfl, ce] at hs1
    refine ⟨_, rfl, _, rfl, cm, _, rfl, hcq, _, _, rfl, rfl, _, rfl, dec_iff (fun c1 => ?_) fun c1 => ?_⟩
    · have c0 : 0 ≤ q.2 := c1
      rw [if_pos c0] at hs1
      obtain ⟨a, j2, q2, ha, hal, hj2, hr2, hcase⟩ := par_get hgood C hq c0
      rw [ha] at hcq hs1
      rw [Int.toNat_natCast] at hs1
      refine ⟨_, fun σ' H' h => h, ?_⟩
      refine ⟨_, rfl, _, rfl, cm, _, rfl, hcq, ?_⟩
      refine ⟨_, rfl, B4.xT T ⟨_, rfl, _, _, _, _, rfl, rfl, SqL.of B4.tl, at_1 hal, _, rfl, B4.xH T ⟨_, rfl, _, _, _, _, rfl, rfl, SqL.of B4.hd, at_2 hal, _, _, rfl, rfl, _, rfl, _, _, rfl, rfl, ?_⟩⟩⟩
      have e2 : (Cir.arcOf arcs a).1 + (Cir.arcOf arcs a).2 - q.1 = q2.1 := by rcases hcase with z | z <;> omega
      rw [e2] at hs1
      refine ⟨m', by omega, rfl, j2, q2, by omega, hr2, hs1, o1, some (.int (a : Int)), ?_⟩
      dsimp only
      rw [e2]
      rfl
    rw [if_neg (by omega)] at hs1
    -- push
    have s0 := TO.s0
    have g0 := TO.g0
    rw [← hs1] at TO s0 hres
    have sgl : q.1.toNat < (Cir.spareL n arcs x).length := by rw [sl]; omega
    have ggl : r.2.toNat < (Cir.spareL n arcs x).length := by rw [sl]; omega
    have qk : q.1 = q.1 := rfl
    obtain ⟨dx4, ob4⟩ := B4.ob
    refine ⟨_, rfl, b.p, dx4, _, rfl, ob4, fl_no b (by decide +kernel), _, rfl, _, rfl, _, rfl, B4.xS T ⟨_, rfl, _, _, _, _, rfl, rfl, SqL.of B4.sr, at_int (v := V.int (Cir.part (Cir.spareL n arcs x) q.1.toNat)) s0.1 (by rw [List.getElem?_map, Cir.get_part sgl]; rfl), _, rfl, B4.xS T ⟨_, rfl, _, _, _, _, rfl, rfl, SqL.of B4.sr, at_int (v := V.int (Cir.part (Cir.spareL n arcs x) r.2.toNat)) g0.1 (by rw [List.getElem?_map, Cir.get_part ggl]; rfl), _, rfl, _, _, rfl,
      b, n, arcs, lo, hi, x, Cir.spareL n arcs x, cm, _, r.1, i, r.1[i], (if -Cir.part (Cir.spareL n arcs x) r.2.toNat < Cir.part (Cir.spareL n arcs x) q.1.toNat then -Cir.part (Cir.spareL n arcs x) r.2.toNat else Cir.part (Cir.spareL n arcs x) q.1.toNat), by rw [← e1]; rfl, B4, N, by omega, hgood, hcm4, C, hp', fun H6 f6 B6 => ?_⟩⟩⟩
    have wdef : Cir.wayF arcs lo hi x r.1 (n + 1) r.1[i].1 (if -Cir.part (Cir.spareL n arcs x) r.2.toNat < Cir.part (Cir.spareL n arcs x) q.1.toNat then -Cir.part (Cir.spareL n arcs x) r.2.toNat else Cir.part (Cir.spareL n arcs x) q.1.toNat) [] = Cir.setWay n arcs lo hi x (Cir.spareL n arcs x) r := by
      unfold Cir.setWay
      rw [← e1, ← hs1]
    rw [wdef] at B6 ⊢
    revert hres TO B6
    generalize Cir.setWay n arcs lo hi x (Cir.spareL n arcs x) r = wm
    intro hres TO B6
    refine ⟨_, rfl, B6.xS T ⟨_, rfl, _, _, _, _, rfl, rfl, SqL.of B6.sr, at_int (v := V.int (Cir.part (Cir.spareL n arcs x) q.1.toNat)) s0.1 (by rw [List.getElem?_map, Cir.get_part sgl]; rfl), _, rfl, _, _, rfl, rfl, _, _, _, _, rfl, rfl, B6.sr, ix_int s0.1 (by rw [List.length_map]; omega), ?_⟩⟩
    have B7 := B6.putS ((Cir.spareL n arcs x).set q.1.toNat (Cir.part (Cir.spareL n arcs x) q.1.toNat - wm.2))
    rw [List.map_set] at B7
    have f7 : Fr [b.c, b.s] H (upd H6 b.s (.lst (((Cir.spareL n arcs x).map V.int).set q.1.toNat (.int (Cir.part (Cir.spareL n arcs x) q.1.toNat - wm.2))))) := (H4e.trans (f6.sub (by simp))).put (.inl (by simp))
    have ggl2 : r.2.toNat < ((Cir.spareL n arcs x).set q.1.toNat (Cir.part (Cir.spareL n arcs x) q.1.toNat - wm.2)).length := by rw [List.length_set]; exact ggl
    have sr7 : (upd H6 b.s (.lst (((Cir.spareL n arcs x).map V.int).set q.1.toNat (.int (Cir.part (Cir.spareL n arcs x) q.1.toNat - wm.2))))) b.s = some (.lst (((Cir.spareL n arcs x).set q.1.toNat (Cir.part (Cir.spareL n arcs x) q.1.toNat - wm.2)).map V.int)) := B7.sr
    refine ⟨_, rfl, B7.xS T ⟨_, rfl, _, _, _, _, rfl, rfl, SqL.of sr7, at_int (v := V.int (Cir.part ((Cir.spareL n arcs x).set q.1.toNat (Cir.part (Cir.spareL n arcs x) q.1.toNat - wm.2)) r.2.toNat)) g0.1 (by rw [List.getElem?_map, Cir.get_part ggl2]; rfl), _, rfl, _, _, rfl, rfl, _, _, _, _, rfl, rfl, sr7, ix_int g0.1 (by rw [List.length_map, List.length_set]; omega), ?_⟩⟩
    have B8 := B7.putS (Cir.setSpare (Cir.spareL n arcs x) q.1 r.2 wm.2)
    rw [TO.sp] at B8 hres
    have eS : ((((Cir.spareL n arcs x).set q.1.toNat (Cir.part (Cir.spareL n arcs x) q.1.toNat - wm.2)).map V.int).set r.2.toNat (.int (Cir.part ((Cir.spareL n arcs x).set q.1.toNat (Cir.part (Cir.spareL n arcs x) q.1.toNat - wm.2)) r.2.toNat + wm.2))) = (Cir.spareL n arcs (Cir.applyR x wm.2 wm.1)).map V.int := by
      rw [← TO.sp]
      unfold Cir.setSpare
      simp only [List.map_set]
    refine ⟨m, by omega, Cir.applyR x wm.2 wm.1, TO.bn, by have := TO.less; omega, hres, f7.put (.inl (by simp)), ?_, _, _, _, _, _, _, _, _, rfl⟩
    rw [eS]
    exact B8
end
/-! ### circulation, cut_holds -/
theorem Fr.drop {S : List Addr} {H H2 H3 : Hp} (e1 : Fr [] H H2) (e2 : Fr S H2 H3) (hS : ∀ a ∈ S, H a = none) : Fr [] H H3 := fun a o ha _ => e2 a o (e1 a o ha (by simp)) fun z => by
  rw [hS a z] at ha
  cases ha
def wordOf (st : Cir.SetSt) : Str := if st.cut.isSome then "cut" else "whole"
def ansOf (st : Cir.SetSt) : List Int := st.cut.getD st.x
abbrev Bad (n : Nat) (arcs : List Cir.Arc) (lo hi : List Int) (k : Nat) : Prop := k < arcs.length ∧ ¬ GoodB n arcs lo hi k ∧ ∀ j, j < k → GoodB n arcs lo hi j
def spCirc (K : PySem.W.Frag) (CA : Addr) : Sp := fun vs H Q E => ∃ (n : Nat) (a : Addr) (arcs : List Cir.Arc) (lo hi : List Int), vs = [.int (n : Int), .ref a] ∧ NetAt K H a arcs lo hi ∧ arcs.length ≤ 10000 ∧ n < 64 ∧
  (GoodN n arcs lo hi → ∀ (p l : Addr) (H' : Hp), H p = none → H l = none → Fr [] H H' → H' p = some (.tup [.str (wordOf (Cir.circF n arcs lo hi)), .ref l]) → H' l = some (.lst ((ansOf (Cir.circF n arcs lo hi)).map V.int)) → Q (.ref p) H') ∧
  (∀ k, Bad n arcs lo hi k → ∀ (d : Addr) (H' : Hp), Fr [] H H' → H' d = some (.xd [(("arc" : Str), .int (k : Int))]) → E (.ref CA) (some d) H')
def ascF (n : Int) : Int → List Int → Bool
  | _, [] => true
  | last, v :: r => decide (last < v) && (decide (v < n) && ascF n v r)
def cutF (n : Nat) (arcs : List Cir.Arc) (lo hi : List Int) (nodes : List Int) : Bool := ascF n (-1) nodes && decide (0 < Cir.excess arcs lo hi nodes)
def spHolds (K : PySem.W.Frag) (CA : Addr) : Sp := fun vs H Q E => ∃ (n : Nat) (a ns : Addr) (arcs : List Cir.Arc) (lo hi nodes : List Int), vs = [.int (n : Int), .ref a, .ref ns] ∧ NetAt K H a arcs lo hi ∧ SqL K H ns (nodes.map V.int) ∧ arcs.length ≤ 10000 ∧ nodes.length ≤ 1000 ∧
  (GoodN n arcs lo hi → ∀ H' : Hp, Fr [] H H' → Q (.bl (cutF n arcs lo hi nodes)) H') ∧
  (∀ k, Bad n arcs lo hi k → ∀ (d : Addr) (H' : Hp), Fr [] H H' → H' d = some (.xd [(("arc" : Str), .int (k : Int))]) → E (.ref CA) (some d) H')
theorem first_bad {n : Nat} {arcs : List Cir.Arc} {lo hi : List Int} (h : ¬ GoodN n arcs lo hi) : ∃ k, Bad n arcs lo hi k := by
  have key : ∀ m, m ≤ arcs.length → (∀ j, j < m → GoodB n arcs lo hi j) ∨ ∃ k, Bad n arcs lo hi k := by
    intro m
    induction m with
    | zero => exact fun _ => .inl fun j hj => by omega
    | succ m ih =>
      intro hm
      rcases ih (by omega) with h1 | h1
      · by_cases c : GoodB n arcs lo hi m
        · refine .inl fun j hj => ?_
          by_cases d : j = m
          · rw [d]; exact c
          · exact h1 j (by omega)
        · exact .inr ⟨m, by omega, c, h1⟩
      · exact .inr h1
  rcases key arcs.length (Nat.le_refl _) with h1 | h1
  · exact absurd h1 h
  · exact h1
def exI (arcs : List Cir.Arc) (lo hi S : List Int) (i : Nat) : Int :=
  ((List.range i).map fun k => if (Cir.arcOf arcs k).1 ∉ S ∧ (Cir.arcOf arcs k).2 ∈ S then Cir.part lo k else if (Cir.arcOf arcs k).1 ∈ S ∧ (Cir.arcOf arcs k).2 ∉ S then -Cir.part hi k else 0).sum
theorem exI_succ (arcs : List Cir.Arc) (lo hi S : List Int) (i : Nat) : exI arcs lo hi S (i + 1) = exI arcs lo hi S i + (if (Cir.arcOf arcs i).1 ∉ S ∧ (Cir.arcOf arcs i).2 ∈ S then Cir.part lo i else if (Cir.arcOf arcs i).1 ∈ S ∧ (Cir.arcOf arcs i).2 ∉ S then -Cir.part hi i else 0) := by
  unfold exI
  rw [List.range_succ, List.map_append, List.sum_append]
  simp
section
variable {P : Program} {w : World} {K : PySem.W.Frag} {mg : Str → Option Value} {base : Heap} {CA CB : Addr}
theorem ok_circulation {f : Addr} {fd : FuncData} (F : Fun K "circulation" "circulation" s_circulation f fd) (T : Txt P K mg CA CB) (F_check_bounds : FnB P w K mg base (L2.CX P w) 2 "_check_bounds" ["count", "arcs"] (spCheck K CA))
    (M_Bed : MkB P w K mg base CX0 2 CB "Bed" ["self", "count", "arcs"] (spInit K CB)) (F_settle : MtB P w K mg base CX0 3 CB "settle" ["self"] (spSettle CB)) : FnOk P w K mg base (L2.CX P w) 4 f fd ["count", "arcs"] (spCirc K CA) := by
  refine F.okX sc_circulation (fun vs H Q E h => ?_) (fun cdv A outer s H vs Q E hr h => ?_)
  · obtain ⟨n, a, arcs, lo, hi, rfl, _⟩ := h
    rfl
  · obtain ⟨n, a, arcs, lo, hi, rfl, hA, hl, hn, kQ, kE⟩ := h
    refine ⟨_, (pss_cons (ps_expr (pe_callF F_check_bounds (hr.mono (by decide)) rfl (passes_call (takes_of rfl rfl rfl rfl) fun _ _ _ _ z => z) (pa_cons (pv 0) (pa_cons (pv 1) pa_nil))))
    (pss_cons (ps_set (i := 2) sc_circulation.nd rfl (Or.inl rfl) (pe_makeB M_Bed (hr.mono (by decide)) rfl pass0 (pa_cons (pv 0) (pa_cons (pv 1) pa_nil))))
    (pss_cons (ps_set (i := 3) sc_circulation.nd rfl (Or.inl rfl) (pe_methB0 F_settle T.clB (pv 2) (hr.mono (by decide)) pass0))
    (pss_cons (ps_if (pt_cmpR op_isN (pv 3) pe_non (nomark _))
      (pss_one (ps_ret (pe_tup (pa_cons pe_str (pa_cons (pe_callTy call_list_of (by rfl) T.m_list (by decide +kernel) (pa_cons (pe_fld (pv 2) rfl) pa_nil)) pa_nil)))))
      pss_nil)
    (pss_one (ps_ret (pe_tup (pa_cons pe_str (pa_cons (pv 3) pa_nil))))))))), ?_⟩
    by_cases hgood : GoodN n arcs lo hi
    · refine ⟨_, rfl, _, rfl, n, a, arcs, lo, hi, rfl, hA, by omega, fun _ => ?_, fun k hk hb => absurd (hgood k hk) hb⟩
      have kQ := kQ hgood
      have hg1 : ∀ k, k < arcs.length → Cir.Good n (Cir.arcOf arcs k) := fun k hk => (hgood k hk).1
      obtain ⟨ll, lh⟩ := netLen hA
      have N : Cir.Bn arcs lo hi lo := ⟨ll, ll, lh, fun k hk => ⟨Int.le_refl _, (hgood k hk).2⟩⟩
      -- bed = Bed(count, arcs)
      refine ⟨_, rfl, _, rfl, fun x dx hx hdx ndx => ?_⟩
      have e0 : Fr [] H (upd (upd H dx (.own x)) x (.ins CB dx [])) := ((Fr.refl [] H).new hdx).put (.inr hx)
      refine ⟨x, dx, a, n, arcs, lo, hi, rfl, upd_same, hA.fr e0, hl, by omega, hg1, fun b H2 eb zc zs f2 B2 => ⟨rfl, ?_⟩⟩
      have zc0 := e0.free zc
      have zs0 := e0.free zs
      have e2 : Fr [] H H2 := Fr.drop e0 f2 (fun c hc => by rw [List.mem_singleton] at hc; rw [hc]; exact hx)
      -- cut = bed.settle()
      obtain ⟨dx2, ob2⟩ := B2.ob
      subst eb
      refine ⟨_, rfl, b.p, dx2, _, rfl, ob2, fl_no b (by decide +kernel), b, n, arcs, lo, hi, lo, rfl, B2, N, hn, hl, hg1, fun H3 f3 B3 => ⟨fun hc => ?_, fun S hc l hl2 hl3 => ?_⟩⟩
      · have e3 : Fr [] H H3 := Fr.drop e2 f3 (fun c hc => by
          rcases List.mem_cons.mp hc with rfl | hc
          · exact zc0
          · rw [List.mem_singleton] at hc
            rw [hc]
            exact zs0)
        refine ⟨_, rfl, rfl, _, rfl, iteT ?_⟩
        refine ⟨_, rfl, B3.xC T ⟨_, _, rfl, .inl (SqL.of B3.cr), fun l hl => ⟨by show 2 ≤ sizeLine; decide, fun p hp => ?_⟩⟩⟩
        have w1 : wordOf (Cir.circF n arcs lo hi) = "whole" := by
          unfold wordOf Cir.circF
          rw [hc]
          rfl
        have w2 : ansOf (Cir.circF n arcs lo hi) = (Cir.circF n arcs lo hi).x := by
          unfold ansOf Cir.circF
          rw [hc]
          rfl
        refine kQ p l _ ((e3.new hl).free hp) (e3.free hl) ((e3.new hl).new hp) ?_ ?_
        · rw [upd_same, w1]
        · rw [upd_ne (ne_of_none upd_same hp), upd_same, w2]
          rfl
      · have e3 : Fr [] H H3 := Fr.drop e2 f3 (fun c hc => by
          rcases List.mem_cons.mp hc with rfl | hc
          · exact zc0
          · rw [List.mem_singleton] at hc
            rw [hc]
            exact zs0)
        refine ⟨_, rfl, rfl, _, rfl, iteF ?_⟩
        refine ⟨_, rfl, by show 2 ≤ sizeLine; decide, fun p hp => ?_⟩
        have w1 : wordOf (Cir.circF n arcs lo hi) = "cut" := by
          unfold wordOf Cir.circF
          rw [hc]
          rfl
        have w2 : ansOf (Cir.circF n arcs lo hi) = S := by
          unfold ansOf Cir.circF
          rw [hc]
          rfl
        refine kQ p l _ (e3.free hp) (e2.free hl2) (e3.new hp) ?_ ?_
        · rw [upd_same, w1]
        · rw [upd_ne (ne_of_none hl3 hp), hl3, w2]
    · refine ⟨_, rfl, _, rfl, n, a, arcs, lo, hi, rfl, hA, by omega, fun hz => absurd hz hgood, fun k hk hb hj d hd => ?_⟩
      exact kE k ⟨hk, hb, hj⟩ d _ ((Fr.refl [] H).new hd) upd_same
end
section
variable {P : Program} {w : World} {K : PySem.W.Frag} {mg : Str → Option Value} {base : Heap} {CA CB : Addr}
theorem ok_cut_holds {f : Addr} {fd : FuncData} (F : Fun K "cut_holds" "cut_holds" s_cut_holds f fd) (T : Txt P K mg CA CB) (F_check_bounds : FnB P w K mg base (L2.CX P w) 2 "_check_bounds" ["count", "arcs"] (spCheck K CA)) :
    FnOk P w K mg base (L2.CX P w) 3 f fd ["count", "arcs", "nodes"] (spHolds K CA) := by
  refine F.okX sc_cut_holds (fun vs H Q E h => ?_) (fun cdv A outer s H vs Q E hr h => ?_)
  · obtain ⟨n, a, ns, arcs, lo, hi, nodes, rfl, _⟩ := h
    rfl
  · obtain ⟨n, a, ns, arcs, lo, hi, nodes, rfl, hA, hS, hl, hn, kQ, kE⟩ := h
    have hu := hu_of hr
    refine ⟨_, (pss_cons (ps_expr (pe_callF F_check_bounds (hr.mono (by decide)) rfl (passes_call (takes_of rfl rfl rfl rfl) fun _ _ _ _ z => z) (pa_cons (pv 0) (pa_cons (pv 1) pa_nil))))
    (pss_cons (ps_set (i := 3) sc_cut_holds.nd rfl (Or.inl rfl) pe_dnewK)
    (pss_cons (ps_set (i := 4) sc_cut_holds.nd rfl (Or.inl rfl) (pe_un un_neg pe_int))
    (pss_cons (ps_for (passes_of rfl) rfl (pi_list (pv 2)) (pg_name (i := 5) sc_cut_holds.nd rfl (Or.inl rfl))
      (pss_cons (ps_if (pt_not (pt_chain op_lt op_lt (pv 4) (pv 5) (pv 0)))
        (pss_one (ps_ret pe_bl))
        pss_nil)
      (pss_cons (ps_dput hu (pv 3) (pv 5) pe_bl rfl)
      (pss_one (ps_set (i := 4) sc_cut_holds.nd rfl (Or.inl rfl) (pv 5))))))
    (pss_cons (ps_set (i := 6) sc_cut_holds.nd rfl (Or.inl rfl) pe_int)
    (pss_cons (ps_for (passes_of rfl) rfl (pi_list (pv 1)) (pg_tup rfl (pgs_cons (pg_name (i := 7) sc_cut_holds.nd rfl (Or.inl rfl)) (pgs_cons (pg_name (i := 8) sc_cut_holds.nd rfl (Or.inl rfl)) (pgs_cons (pg_name (i := 9) sc_cut_holds.nd rfl (Or.inl rfl)) (pgs_cons (pg_name (i := 10) sc_cut_holds.nd rfl (Or.inl rfl)) pgs_nil)))))
      (Evl.pss_cut (ps_if (PW.pt (pw_and (pt_cmp (pc_dnotin hu (pv 7) (pv 3))) (pw_and1 (pt_cmp (pc_din hu (pv 8) (pv 3))))))
        (pss_one (ps_aug (i := 6) sc_cut_holds.nd rfl (Or.inl rfl) (pv 9) ip_add))
        pss_nil)
      (pss_one (ps_if (PW.pt (pw_and (pt_cmp (pc_din hu (pv 7) (pv 3))) (pw_and1 (pt_cmp (pc_dnotin hu (pv 8) (pv 3))))))
        (pss_one (ps_aug (i := 6) sc_cut_holds.nd rfl (Or.inl rfl) (pv 10) ip_sub))
        pss_nil))))
    (pss_one (ps_ret (pe_cmpR op_gt (pv 6) pe_int (nomark _)))))))))), ?_⟩
    by_cases hgood : GoodN n arcs lo hi
    rotate_left
    · refine ⟨_, rfl, _, rfl, n, a, arcs, lo, hi, rfl, hA, by omega, fun hz => absurd hz hgood, fun k hk hb hj d hd => ?_⟩
      exact kE k ⟨hk, hb, hj⟩ d _ ((Fr.refl [] H).new hd) upd_same
    · refine ⟨_, rfl, _, rfl, n, a, arcs, lo, hi, rfl, hA, by omega, fun _ => ?_, fun k hk hb => absurd (hgood k hk) hb⟩
      have kQ := kQ hgood
      intro gd hgd
      refine ⟨_, rfl, ?_⟩
      have e1 : Fr [] H (upd H gd (.dK [])) := (Fr.refl [] H).new hgd
      refine ⟨_, rfl, ns, rfl, ⟨_, e1.l hS⟩, for_list (K := K) (a := ns) (xs := nodes.map V.int) (fun i σ H3 => Fr [] H H3 ∧ (∃ kvs : List (Key × V), H3 gd = some (.dK kvs) ∧ kvs.length ≤ i ∧ ∀ v : Int, (valV kvs (Sum.inl v : Key)).isSome = decide (v ∈ nodes.take i)) ∧
          ∃ (last : Int) (o5 : Option V), ascF n (-1) nodes = ascF n last (nodes.drop i) ∧ σ = [some (.int (n : Int)), some (.ref a), some (.ref ns), some (.ref gd), some (.int last), o5, none, none, none, none, none])
        ⟨e1, ⟨[], upd_same, Nat.le_refl _, fun v => rfl⟩, -1, _, rfl, rfl⟩ (fun i σ H3 _ z => z.1.l hS) ?_ ?_⟩
      · rintro i y σ H3 hy ⟨f3, ⟨kvs, g1, g2, g3⟩, last, o5, has, rfl⟩
        obtain ⟨v, hv, rfl⟩ := get_map_int hy
        have il := (List.getElem?_eq_some_iff.mp hv).1
        have dr : nodes.drop i = v :: nodes.drop (i + 1) := by
          rw [List.drop_eq_getElem_cons il]
          have := (List.getElem?_eq_some_iff.mp hv).2
          rw [this]
        rw [dr, ascF] at has
        have out : ascF n (-1) nodes = false → tRet (tC (.bl false)) noEnds [] H3 → True := fun _ _ => trivial
        have fin : ascF n (-1) nodes = false → Q (.bl false) H3 := fun z => by
          have := kQ H3 f3
          unfold cutF at this
          rw [z, Bool.false_and] at this
          exact this
        refine ⟨_, rfl, _, rfl, _, _, rfl, rfl, _, rfl, dec_iff (fun g1' => ⟨_, rfl, _, _, rfl, rfl, _, rfl, ?_⟩) fun b1 => ⟨_, rfl, iteT (fin (by rw [has, decide_eq_false b1, Bool.false_and]))⟩⟩
        refine not_if (fun b2 => fin (by rw [has, decide_eq_false b2, Bool.false_and, Bool.and_false])) fun g2' => ?_
        refine ⟨_, rfl, _, rfl, gd, _, rfl, DPut.k (k := Sum.inl v) g1 (len_lt (by omega)), ?_⟩
        refine ⟨_, rfl, f3.put (.inr hgd), ⟨_, upd_same, Nat.le_trans (putK_le _ _ _) (by omega), fun u => ?_⟩, v, _, ?_, rfl⟩
        · rw [valV_put, take_succ hv]
          by_cases d : u = v
          · rw [d, if_pos rfl]
            simp
          · rw [if_neg (fun z => d (Sum.inl.inj z)), g3 u]
            congr 1
            simp [d]
        · rw [has, decide_eq_true g1', decide_eq_true g2', Bool.true_and, Bool.true_and]
      rintro σ H3 ⟨f3, ⟨kvs, g1, g2, g3⟩, last, o5, has, rfl⟩
      rw [List.length_map, List.take_length] at g3
      rw [List.length_map, List.drop_length, ascF] at has
      have hA3 := hA.fr f3
      obtain ⟨ts, hL, hts, hT⟩ := hA3.at
      refine ⟨_, rfl, a, rfl, ⟨_, hL⟩, for_list (K := K) (a := a) (xs := ts.map V.ref) (fun i σ H4 => H4 = H3 ∧
          ∃ o7 o8 o9 o10 : Option V, σ = [some (.int (n : Int)), some (.ref a), some (.ref ns), some (.ref gd), some (.int last), o5, some (.int (exI arcs lo hi nodes i)), o7, o8, o9, o10])
        ⟨rfl, _, _, _, _, rfl⟩ (fun i σ H4 _ z => by rw [z.1]; exact hL) ?_ ?_⟩
      · rintro i y σ H4 hy ⟨rfl, o7, o8, o9, o10, rfl⟩
        obtain ⟨t, ht, rfl⟩ := get_mapf hy
        have hi' : i < arcs.length := by rw [← hts]; exact (List.getElem?_eq_some_iff.mp ht).1
        obtain ⟨t', ht', _, q⟩ := hT i hi'
        rw [ht] at ht'
        cases ht'
        rw [exI_succ]
        refine ⟨_, _, rfl, q, rfl, _, _, rfl, _, _, rfl, _, _, rfl, _, _, rfl, rfl, ?_⟩
        generalize (Cir.arcOf arcs i).1 = tl
        generalize (Cir.arcOf arcs i).2 = hd
        refine ⟨fun σ' H' => H' = H4 ∧ σ' = [some (.int (n : Int)), some (.ref a), some (.ref ns), some (.ref gd), some (.int last), o5, some (.int (exI arcs lo hi nodes i + if tl ∉ nodes ∧ hd ∈ nodes then Cir.part lo i else 0)), some (.int tl), some (.int hd), some (.int (Cir.part lo i)), some (.int (Cir.part hi i))], ?_, ?_⟩
        · refine ⟨_, rfl, _, rfl, gd, _, rfl, DGet.k (k := Sum.inl tl) g1, _, rfl, ?_⟩
          rw [g3]
          refine not_if (fun c1 => ⟨_, rfl, _, rfl, gd, _, rfl, DGet.k (k := Sum.inl hd) g1, _, rfl, ?_⟩) fun c1 => ?_
          · rw [g3]
            refine dec_iff (fun c2 => ?_) fun c2 => ?_
            · rw [if_pos ⟨c1, c2⟩]
              exact ⟨_, rfl, _, rfl, _, _, rfl, rfl, rfl, rfl⟩
            · rw [if_neg (fun z => c2 z.2), Int.add_zero]
              exact ⟨rfl, rfl⟩
          · rw [if_neg (fun z => z.1 c1), Int.add_zero]
            exact ⟨rfl, rfl⟩
        · rintro σ' H' ⟨rfl, rfl⟩
          refine ⟨_, rfl, _, rfl, gd, _, rfl, DGet.k (k := Sum.inl tl) g1, _, rfl, ?_⟩
          rw [g3]
          refine dec_iff (fun c1 => ⟨_, rfl, _, rfl, gd, _, rfl, DGet.k (k := Sum.inl hd) g1, _, rfl, ?_⟩) fun c1 => ?_
          · rw [g3]
            refine not_if (fun c2 => ?_) fun c2 => ?_
            · rw [show (if tl ∉ nodes ∧ hd ∈ nodes then Cir.part lo i else 0 : Int) = 0 from if_neg (fun z => z.1 c1), show (if tl ∉ nodes ∧ hd ∈ nodes then Cir.part lo i else if tl ∈ nodes ∧ hd ∉ nodes then -Cir.part hi i else 0 : Int) = -Cir.part hi i by rw [if_neg (fun z => z.1 c1), if_pos ⟨c1, c2⟩], Int.add_zero]
              exact ⟨_, rfl, _, rfl, _, _, rfl, rfl, rfl, _, _, _, _, rfl⟩
            · rw [show (if tl ∉ nodes ∧ hd ∈ nodes then Cir.part lo i else 0 : Int) = 0 from if_neg (fun z => z.1 c1), show (if tl ∉ nodes ∧ hd ∈ nodes then Cir.part lo i else if tl ∈ nodes ∧ hd ∉ nodes then -Cir.part hi i else 0 : Int) = 0 by rw [if_neg (fun z => z.1 c1), if_neg (fun z => z.2 c2)], Int.add_zero]
              exact ⟨rfl, _, _, _, _, rfl⟩
          · by_cases c2 : hd ∈ nodes
            · rw [show (if tl ∉ nodes ∧ hd ∈ nodes then Cir.part lo i else 0 : Int) = Cir.part lo i from if_pos ⟨c1, c2⟩, show (if tl ∉ nodes ∧ hd ∈ nodes then Cir.part lo i else if tl ∈ nodes ∧ hd ∉ nodes then -Cir.part hi i else 0 : Int) = Cir.part lo i from if_pos ⟨c1, c2⟩]
              exact ⟨rfl, _, _, _, _, rfl⟩
            · rw [show (if tl ∉ nodes ∧ hd ∈ nodes then Cir.part lo i else 0 : Int) = 0 from if_neg (fun z => c2 z.2), show (if tl ∉ nodes ∧ hd ∈ nodes then Cir.part lo i else if tl ∈ nodes ∧ hd ∉ nodes then -Cir.part hi i else 0 : Int) = 0 by rw [if_neg (fun z => c2 z.2), if_neg (fun z => c1 z.1)], Int.add_zero]
              exact ⟨rfl, _, _, _, _, rfl⟩
      · rintro σ H4 ⟨rfl, o7, o8, o9, o10, rfl⟩
        rw [List.length_map, hts]
        refine ⟨_, rfl, _, _, rfl, rfl, ?_⟩
        have := kQ H4 f3
        unfold cutF at this
        rw [has, Bool.true_and] at this
        exact this
end
/-! _law_bag(script): slots 0 script 1 seed 2 cell -/
abbrev s_law_bag : Stmt := top 12
abbrev n_law_bag : List Str := ["script", "seed", "cell"]
theorem sc_law_bag : FnScope n_law_bag ["script"] (defScope s_law_bag) := ⟨rfl, rfl, rfl, by decide +kernel, rfl, by decide +kernel, by decide +kernel⟩
/-! _law_take(bag, many): slots 0 bag 1 many 2 cell 3 told -/
abbrev s_law_take : Stmt := top 13
abbrev n_law_take : List Str := ["bag", "many", "cell", "told"]
theorem sc_law_take : FnScope n_law_take ["bag", "many"] (defScope s_law_take) := ⟨rfl, rfl, rfl, by decide +kernel, rfl, by decide +kernel, by decide +kernel⟩
theorem m31 : (0 : Int) < 2147483647 := by decide
section
variable {P : Program} {w : World} {K : PySem.W.Frag} {mg : Str → Option Value} {base : Heap}
theorem ok_law_take {f : Addr} {fd : FuncData} (F : Fun K "_law_take" "_law_take" s_law_take f fd) (T : Blt mg) : FnOk P w K mg base CX0 1 f fd ["bag", "many"] spTake := by
  refine F.ok sc_law_take (fun vs H Q E h => ?_) (fun cdv A outer s H vs Q E hr h => ?_)
  · obtain ⟨b, c, many, rfl, _⟩ := h
    rfl
  · obtain ⟨b, c, many, rfl, ⟨ns, i, v, sd, hB⟩, hm, hlog, k⟩ := h
    have hb := hB.1
    have hc := hB.2.1
    have hv : 0 ≤ v := hB.2.2.2.1
    have hi : 0 ≤ i := hB.2.2.1
    refine ⟨_, (Evl.pss_cut (ps_if (pt_cmpR op_lt (pe_ix ix_list (pv 0) pe_int (fun _ _ => rfl)) (pv 1) (nomark _))
      (pss_cons (ps_set (i := 2) sc_law_take.nd rfl (Or.inl rfl) (pe_ix ix_list (pv 0) pe_int (fun _ _ => rfl)))
      (Evl.pss_cut (ps_if (pt_cmpR op_lt (pe_ix ix_list (pv 0) pe_int (fun _ _ => rfl)) (pe_callB call_len_seq (by rfl) T.m_len (by decide +kernel) (pa_cons (pe_ix ix_list (pv 0) pe_int (fun _ _ => rfl)) pa_nil)) (nomark _))
        (pss_one (ps_set (i := 2) sc_law_take.nd rfl (Or.inl rfl) (pe_ix ix_list (pe_ix ix_list (pv 0) pe_int (fun _ _ => rfl)) (pe_ix ix_list (pv 0) pe_int (fun _ _ => rfl)) (fun _ _ => rfl))))
        pss_nil)
      (pss_cons (ps_asg (pe_op op_add (pe_ix ix_list (pv 0) pe_int (fun _ _ => rfl)) pe_int) (pg_sub (pv 0) pe_int set_list))
      (pss_cons (ps_asg (pe_op op_mod (pe_callTy call_int1 (by rfl) T.m_int (by decide +kernel) (pa_cons (pe_op op_add (pe_op op_add (pe_op op_mul (pe_ix ix_list (pv 0) pe_int (fun _ _ => rfl)) pe_int) pe_int) (pe_ix ix_list (pv 0) pe_int (fun _ _ => rfl))) pa_nil)) pe_int) (pg_sub (pv 0) pe_int set_list))
      (Evl.pss_cut (ps_if (pt_cmpR op_lt (pv 2) pe_int (nomark _))
        (pss_one (ps_set (i := 2) sc_law_take.nd rfl (Or.inl rfl) (pe_un un_neg (pv 2))))
        pss_nil)
      (Evl.pss_cut (ps_if (pt_cmpR op_lt (pv 2) (pe_op op_pow pe_int pe_int) (nomark _))
        (pss_cons (ps_set (i := 2) sc_law_take.nd rfl (Or.inl rfl) (pe_op op_mod (pe_callTy call_int1 (by rfl) T.m_int (by decide +kernel) (pa_cons (pe_op op_add (pe_op op_add (pe_op op_mul (pe_op op_add (pv 2) (pe_ix ix_list (pv 0) pe_int (fun _ _ => rfl))) pe_int) (pe_op op_mul (pe_ix ix_list (pv 0) pe_int (fun _ _ => rfl)) pe_int)) pe_int) pa_nil)) pe_int))
        (pss_one (ps_set (i := 2) sc_law_take.nd rfl (Or.inl rfl) (pe_op op_add (pe_op op_mod (pe_callTy call_int1 (by rfl) T.m_int (by decide +kernel) (pa_cons (pe_op op_add (pe_op op_mul (pv 2) pe_int) (pe_op op_mul pe_int (pe_ix ix_list (pv 0) pe_int (fun _ _ => rfl)))) pa_nil)) pe_int) pe_int))))
        pss_nil)
      (pss_one (ps_asg (pv 2) (pg_sub (pv 0) pe_int set_list)))))))))
      pss_nil)
    (pss_cons (ps_set (i := 3) sc_law_take.nd rfl (Or.inl rfl) (pe_op op_mod (pe_callTy call_int1 (by rfl) T.m_int (by decide +kernel) (pa_cons (pe_ix ix_list (pv 0) pe_int (fun _ _ => rfl)) pa_nil)) (pv 1)))
    (pss_cons (ps_asg (pe_op op_fdivW (pe_ix ix_list (pv 0) pe_int (fun _ _ => rfl)) (pv 1)) (pg_sub (pv 0) pe_int set_list))
    (pss_one (ps_ret (pv 3)))))), ?_⟩
    -- behind the if: the bag, whatever is in it
    refine ⟨fun σ' H1 => ∃ (o : Option V) (i1 v1 s1 : Int), σ' = [some (.ref b), some (.int many), o, none] ∧ Fr [b] H H1 ∧ BagAt H1 b c ns i1 v1 s1, ?_, ?_⟩
    · refine ⟨_, rfl, _, _, _, _, rfl, rfl, SqL.of hb, rfl, _, rfl, _, _, rfl, rfl, _, rfl, dec_iff (fun hlt => ?_) fun hge => ⟨_, _, _, _, rfl, Fr.refl _ _, hB⟩⟩
      -- cell = bag[3]; if bag[1] < len(bag[0]): cell = bag[0][bag[1]]
      refine ⟨_, rfl, _, _, _, _, rfl, rfl, SqL.of hb, rfl, ?_⟩
      refine ⟨fun σ' H1 => H1 = H ∧ ∃ cell : Int, σ' = [some (.ref b), some (.int many), some (.int cell), none], ?_, ?_⟩
      · refine ⟨_, rfl, _, _, _, _, rfl, rfl, SqL.of hb, rfl, _, rfl, _, _, _, _, rfl, rfl, SqL.of hb, rfl, _, _, rfl, .inl (SqL.of hc), _, _, rfl, rfl, _, rfl, dec_iff (fun hin => ?_) fun hout => ⟨rfl, _, rfl⟩⟩
        have hlt2 : i.toNat < ns.length := by
          rw [List.length_map] at hin
          omega
        exact ⟨_, rfl, _, _, _, _, rfl, rfl, SqL.of hb, rfl, _, rfl, _, _, _, _, rfl, rfl, SqL.of hb, rfl, _, _, _, _, rfl, rfl, SqL.of hc, at_int hi (by rw [List.getElem?_map, List.getElem?_eq_getElem hlt2]; rfl), rfl, _, rfl⟩
      rintro σ' H1 ⟨rfl, cell, rfl⟩
      -- bag[1] = bag[1] + 1; bag[3] = int(..) % ..
      refine ⟨_, rfl, _, _, _, _, rfl, rfl, SqL.of hb, rfl, _, _, rfl, rfl, _, rfl, _, _, _, _, rfl, rfl, hb, rfl, ?_⟩
      refine ⟨_, rfl, _, _, _, _, rfl, rfl, SqL.of upd_same, rfl, _, _, rfl, rfl, .inr (by decide), _, _, rfl, rfl, _, rfl, _, _, _, _, rfl, rfl, SqL.of upd_same, rfl, _, _, rfl, rfl, .inl ⟨_, rfl, _, _, rfl, rfl, m31, ?_⟩⟩
      refine ⟨_, rfl, _, _, _, _, rfl, rfl, upd_same, rfl, ?_⟩
      rw [upd_upd]
      show Evl.tCut _ _ _ _ (upd H1 b (.lst [.ref c, .int (i + 1), .int v, .int ((sd * 69621 + 12345 + (i + 1)) % 2147483647)]))
      have B2 : ∀ z : Int, 0 ≤ z → BagAt (upd H1 b (.lst [.ref c, .int (i + 1), .int v, .int z])) b c ns (i + 1) v z := fun z hz => hB.put (by omega) hv hz
      have hz0 : 0 ≤ (sd * 69621 + 12345 + (i + 1)) % 2147483647 := Int.emod_nonneg _ (by decide)
      have B3 := B2 _ hz0
      have h3 := B3.1
      have e3 : Fr [b] H1 (upd H1 b (.lst [.ref c, .int (i + 1), .int v, .int ((sd * 69621 + 12345 + (i + 1)) % 2147483647)])) := (Fr.refl _ _).put (.inl (by simp))
      revert B3 h3 e3
      generalize upd H1 b (.lst [.ref c, .int (i + 1), .int v, .int ((sd * 69621 + 12345 + (i + 1)) % 2147483647)]) = H2
      intro B3 h3 e3
      -- if cell < 0: cell = -cell
      refine ⟨fun σ' H' => H' = H2 ∧ ∃ cell : Int, 0 ≤ cell ∧ σ' = [some (.ref b), some (.int many), some (.int cell), none], ?_, ?_⟩
      · refine ⟨_, rfl, _, _, rfl, rfl, _, rfl, dec_iff (fun hneg => ?_) fun hpos => ⟨rfl, cell, by omega, rfl⟩⟩
        exact ⟨_, rfl, _, rfl, rfl, -cell, by omega, rfl⟩
      rintro σ' H' ⟨rfl, cell, hcell, rfl⟩
      -- if cell < 10 ** 18: cell = ..
      refine ⟨fun σ' H2 => H2 = H' ∧ ∃ cell : Int, 0 ≤ cell ∧ σ' = [some (.ref b), some (.int many), some (.int cell), none], ?_, ?_⟩
      · refine ⟨_, rfl, _, _, rfl, rfl, ⟨by decide, by decide, by decide⟩, _, _, rfl, rfl, _, rfl, dec_iff (fun hlow => ?_) fun hhigh => ⟨rfl, cell, hcell, rfl⟩⟩
        refine ⟨_, rfl, _, rfl, _, _, _, _, rfl, rfl, SqL.of h3, rfl, _, _, rfl, rfl, _, _, rfl, rfl, .inr (by decide), _, rfl, _, _, _, _, rfl, rfl, SqL.of h3, rfl, _, _, rfl, rfl, .inr (by decide), _, _, rfl, rfl, _, _, rfl, rfl, .inl ⟨_, rfl, _, _, rfl, rfl, m31, ?_⟩⟩
        refine ⟨_, rfl, _, _, rfl, rfl, .inr (by decide), _, rfl, _, _, _, _, rfl, rfl, SqL.of h3, rfl, _, _, rfl, rfl, .inl (by decide), _, _, rfl, rfl, .inl ⟨_, rfl, _, _, rfl, rfl, m31, _, _, rfl, rfl, ?_⟩⟩
        refine ⟨rfl, _, ?_, rfl⟩
        have := Int.emod_nonneg (((cell + (i + 1)) * 48271 + (i + 1) * 40692 + 3) % 2147483647 * 69621 + 7919 * (i + 1)) (b := 2147483647) (by decide)
        omega
      rintro σ' H2 ⟨rfl, cell, hcell, rfl⟩
      -- bag[2] = cell
      refine ⟨_, rfl, _, rfl, _, _, _, _, rfl, rfl, h3, rfl, ?_⟩
      exact ⟨_, _, _, _, rfl, e3.put (.inl (by simp)), B3.put B3.2.2.1 hcell B3.2.2.2.2⟩
    rintro σ' H1 ⟨o, i1, v1, s1, rfl, e1, B1⟩
    have h1 := B1.1
    refine ⟨_, rfl, _, _, _, _, rfl, rfl, SqL.of h1, rfl, .inl ⟨_, rfl, _, rfl, _, _, rfl, rfl, hm, ?_⟩⟩
    refine ⟨_, rfl, _, _, _, _, rfl, rfl, SqL.of h1, rfl, _, rfl, _, _, rfl, rfl, ⟨hm, hlog⟩, ?_⟩
    refine ⟨_, rfl, _, _, _, _, rfl, rfl, h1, rfl, _, rfl, ?_⟩
    refine k _ _ (Int.emod_nonneg _ (by omega)) (Int.emod_lt_of_pos _ hm) (e1.put (.inl (by simp))) ⟨ns, i1, v1 / many, s1, ?_⟩
    exact B1.put B1.2.2.1 (Int.ediv_nonneg B1.2.2.2.1 (by omega)) B1.2.2.2.2
end
section
variable {P : Program} {w : World} {K : PySem.W.Frag} {mg : Str → Option Value} {base : Heap}
theorem ok_law_bag {f : Addr} {fd : FuncData} (F : Fun K "_law_bag" "_law_bag" s_law_bag f fd) (T : Blt mg) : FnOk P w K mg base CX0 1 f fd ["script"] (spBag K) := by
  refine F.ok sc_law_bag (fun vs H Q E h => ?_) (fun cdv A outer s H vs Q E hr h => ?_)
  · obtain ⟨a, ns, rfl, _⟩ := h
    rfl
  · obtain ⟨a, ns, rfl, hS, hlen, k⟩ := h
    refine ⟨_, (pss_cons (ps_set (i := 1) sc_law_bag.nd rfl (Or.inl rfl) pe_int)
    (pss_cons (ps_for PassesOwn.never rfl (pi_list (pv 0)) (pg_name (i := 2) sc_law_bag.nd rfl (Or.inl rfl))
      (pss_one (ps_set (i := 1) sc_law_bag.nd rfl (Or.inl rfl) (pe_op op_mod (pe_callTy call_int1 (by rfl) T.m_int (by decide +kernel) (pa_cons (pe_op op_add (pe_op op_add (pe_op op_mul (pv 1) pe_int) (pe_op op_mod (pe_callTy call_int1 (by rfl) T.m_int (by decide +kernel) (pa_cons (pv 2) pa_nil)) pe_int)) pe_int) pa_nil)) pe_int))))
    (pss_one (ps_ret (pe_lst (pa_cons (pe_lc (own := [("cell", 2)]) rfl sc_law_bag.nd (pi_list (pv 0)) (blkOk_by (own := [("cell", 2)]) (N := n_law_bag) (sc := defScope s_law_bag) (by decide +kernel)) (fun _ _ _ _ _ => (pg_name (i := 2) sc_law_bag.nd rfl (Or.inl rfl))) (fun _ _ _ _ _ => pts_nil) (fun _ _ _ _ _ => (pe_callTy call_int1 (by rfl) T.m_int (by decide +kernel) (pa_cons (pv 2) pa_nil)))) (pa_cons pe_int (pa_cons pe_int (pa_cons (pv 1) pa_nil))))))))), ?_⟩
    refine ⟨_, rfl, a, rfl, ⟨_, hS⟩, for_list (K := K) (a := a) (xs := ns.map V.int) (fun i σ H' => H' = H ∧ ∃ (seed : Int) (o : Option V), 0 ≤ seed ∧ σ = [some (.ref a), some (.int seed), o])
      ⟨rfl, 7, none, by decide, rfl⟩ (fun i σ H' _ ⟨e, _⟩ => by rw [e]; exact hS) ?_ ?_⟩
    · rintro i y σ H' hi ⟨rfl, seed, o, hs, rfl⟩
      obtain ⟨z, hz, rfl⟩ := get_map_int hi
      refine ⟨_, rfl, _, _, rfl, rfl, .inr (by decide), _, rfl, .inl ⟨_, rfl, _, _, rfl, rfl, by show (0 : Int) < 1000003; decide, _, _, rfl, rfl, _, _, rfl, rfl, .inl ⟨_, rfl, _, _, rfl, rfl, m31, ?_⟩⟩⟩
      exact ⟨rfl, _, _, Int.emod_nonneg _ (by decide), rfl⟩
    · rintro σ H' ⟨rfl, seed, o, hs, rfl⟩
      refine ⟨_, rfl, a, rfl, ⟨_, hS⟩, fun D hD => lc_list (K := K) (a := a) (xs := ns.map V.int) (fun i H2 => H2 = upd H' D (.lst ((ns.take i).map V.int))) rfl
        (fun i H2 _ e => by rw [e]; exact ((Fr.refl [] H').new hD).l hS) ?_ ?_⟩
      · rintro i y H2 hi rfl
        obtain ⟨z, hz, rfl⟩ := get_map_int hi
        refine ⟨rfl, _, rfl, .inl ⟨_, rfl, _, upd_same, ?_, ?_⟩⟩
        · rw [List.length_map, List.length_take]
          exact Nat.lt_of_le_of_lt (Nat.le_trans (Nat.min_le_right _ _) hlen) (by decide)
        · rw [upd_upd, take_succ hz, List.map_append]
          rfl
      · rintro H2 rfl
        rw [List.length_map, List.take_length]
        refine ⟨_, rfl, by show 4 ≤ sizeLine; decide, fun l hl => ?_⟩
        have hlD : D ≠ l := ne_of_none upd_same hl
        refine k l D _ ?_ hD (((Fr.refl [] H').new hD).new hl) ⟨ns, 0, 0, seed, upd_same, by rw [upd_ne hlD]; exact upd_same, by decide, by decide, hs⟩
        exact ((Fr.refl [] H').new hD).free hl
end
/-! _law_base(bag, count, most): slots 0 bag 1 count 2 most 3 arcs 4 amounts 5 turn 6 order 7 size 8 k 9 other 10 kept 11 part 12 ends 13 at -/
abbrev s_law_base : Stmt := top 14
abbrev n_law_base : List Str := ["bag", "count", "most", "arcs", "amounts", "turn", "order", "size", "k", "other", "kept", "part", "ends", "at"]
theorem sc_law_base : FnScope n_law_base ["bag", "count", "most"] (defScope s_law_base) := ⟨rfl, rfl, rfl, by decide +kernel, rfl, by decide +kernel, by decide +kernel⟩
/-! _law_excess(arcs, nodes): slots 0 arcs 1 nodes 2 total 3 tail 4 head 5 low 6 high -/
abbrev s_law_excess : Stmt := top 15
abbrev n_law_excess : List Str := ["arcs", "nodes", "total", "tail", "head", "low", "high"]
theorem sc_law_excess : FnScope n_law_excess ["arcs", "nodes"] (defScope s_law_excess) := ⟨rfl, rfl, rfl, by decide +kernel, rfl, by decide +kernel, by decide +kernel⟩
/-! _law_barred(count, arcs): slots 0 count 1 arcs 2 mask 3 nodes 4 k -/
abbrev s_law_barred : Stmt := top 16
abbrev n_law_barred : List Str := ["count", "arcs", "mask", "nodes", "k"]
theorem sc_law_barred : FnScope n_law_barred ["count", "arcs"] (defScope s_law_barred) := ⟨rfl, rfl, rfl, by decide +kernel, rfl, by decide +kernel, by decide +kernel⟩
/-! _law_pinched(bag, count, arcs, amounts, bounds): slots 0 bag 1 count 2 arcs 3 amounts 4 bounds 5 k 6 nodes 7 entering 8 at -/
abbrev s_law_pinched : Stmt := top 17
abbrev n_law_pinched : List Str := ["bag", "count", "arcs", "amounts", "bounds", "k", "nodes", "entering", "at"]
theorem sc_law_pinched : FnScope n_law_pinched ["bag", "count", "arcs", "amounts", "bounds"] (defScope s_law_pinched) := ⟨rfl, rfl, rfl, by decide +kernel, rfl, by decide +kernel, by decide +kernel⟩
/-! _law_whole(count, arcs, told): slots 0 count 1 arcs 2 told 3 k 4 spare -/
abbrev s_law_whole : Stmt := top 18
abbrev n_law_whole : List Str := ["count", "arcs", "told", "k", "spare"]
theorem sc_law_whole : FnScope n_law_whole ["count", "arcs", "told"] (defScope s_law_whole) := ⟨rfl, rfl, rfl, by decide +kernel, rfl, by decide +kernel, by decide +kernel⟩
/-! _law_is_cut(count, arcs, nodes): slots 0 count 1 arcs 2 nodes 3 last 4 node -/
abbrev s_law_is_cut : Stmt := top 19
abbrev n_law_is_cut : List Str := ["count", "arcs", "nodes", "last", "node"]
theorem sc_law_is_cut : FnScope n_law_is_cut ["count", "arcs", "nodes"] (defScope s_law_is_cut) := ⟨rfl, rfl, rfl, by decide +kernel, rfl, by decide +kernel, by decide +kernel⟩
/-! _law_error(which, count, arcs): slots 0 which 1 count 2 arcs 3 e -/
abbrev s_law_error : Stmt := top 20
abbrev n_law_error : List Str := ["which", "count", "arcs", "e"]
theorem sc_law_error : FnScope n_law_error ["which", "count", "arcs"] (defScope s_law_error) := ⟨rfl, rfl, rfl, by decide +kernel, rfl, by decide +kernel, by decide +kernel⟩
/-! _law_judged(bag, count, arcs, nodes): slots 0 bag 1 count 2 arcs 3 nodes 4 tried 5 turn 6 node 7 row 8 answer 9 k -/
abbrev s_law_judged : Stmt := top 21
abbrev n_law_judged : List Str := ["bag", "count", "arcs", "nodes", "tried", "turn", "node", "row", "answer", "k"]
theorem sc_law_judged : FnScope n_law_judged ["bag", "count", "arcs", "nodes"] (defScope s_law_judged) := ⟨rfl, rfl, rfl, by decide +kernel, rfl, by decide +kernel, by decide +kernel⟩
/-- the lists of a network that is drawn: arcs at pa, amounts at px -/
structure NetSt (b c pa px : Addr) (H H' : Hp) (ts : List Addr) (as : List Cir.Arc) (xs : List Int) : Prop where
  fr : Fr [b] H H'
  bag : BagC H' b c
  la : H' pa = some (.lst (ts.map V.ref))
  lx : H' px = some (.lst (xs.map V.int))
  ln : ts.length = as.length
  tup : ∀ (k : Nat) (t : Addr) (p : Cir.Arc), ts[k]? = some t → as[k]? = some p → H' t = some (.tup [.int p.1, .int p.2])
  na : H pa = none
  nx : H px = none
  ne : pa ≠ px
  bag0 : BagC H b c
section
variable {b c pa px q : Addr} {H H1 H2 : Hp} {ts : List Addr} {as : List Cir.Arc} {xs : List Int} {o : HO}
theorem NetSt.t (h : NetSt b c pa px H H1 ts as xs) {t : Addr} (ht : t ∈ ts) : ∃ l, H1 t = some (.tup l) := by
  obtain ⟨k, hk⟩ := List.mem_iff_getElem?.mp ht
  have hl : k < as.length := by
    rw [← h.ln]
    exact (List.getElem?_eq_some_iff.mp hk).1
  exact ⟨_, h.tup k t _ hk (Cir.get_arc hl)⟩
theorem NetSt.pab (h : NetSt b c pa px H H1 ts as xs) : pa ≠ b := h.bag0.neb h.na
theorem NetSt.pac (h : NetSt b c pa px H H1 ts as xs) : pa ≠ c := h.bag0.nec h.na
theorem NetSt.pxb (h : NetSt b c pa px H H1 ts as xs) : px ≠ b := h.bag0.neb h.nx
theorem NetSt.pxc (h : NetSt b c pa px H H1 ts as xs) : px ≠ c := h.bag0.nec h.nx
theorem NetSt.take (h : NetSt b c pa px H H1 ts as xs) (e : Fr [b] H1 H2) (hB : BagC H2 b c) : NetSt b c pa px H H2 ts as xs := by
  refine ⟨h.fr.trans e, hB, e _ _ h.la (by simpa using h.pab), e _ _ h.lx (by simpa using h.pxb), h.ln, fun k t p ht hp => e _ _ (h.tup k t p ht hp) ?_, h.na, h.nx, h.ne, h.bag0⟩
  obtain ⟨i, v, s, hb⟩ := h.bag.b
  have := ne_of (h.tup k t p ht hp) hb (by intro z; cases z)
  simpa using this
theorem NetSt.side (h : NetSt b c pa px H H1 ts as xs) (ha : q ≠ pa) (hx : q ≠ px) (hb : q ≠ b) (hc : q ≠ c) (h0 : H q = none) (ht : ∀ t ∈ ts, t ≠ q) : NetSt b c pa px H (upd H1 q o) ts as xs := by
  refine ⟨h.fr.put (.inr h0), h.bag.put hb hc, by rw [upd_ne ha.symm]; exact h.la, by rw [upd_ne hx.symm]; exact h.lx, h.ln, fun k t p ht2 hp => ?_, h.na, h.nx, h.ne, h.bag0⟩
  rw [upd_ne (ht t (List.mem_of_getElem? ht2))]
  exact h.tup k t p ht2 hp
theorem fr_free {b q : Addr} {H H1 : Hp} (h : Fr [b] H H1) (hb : q ≠ b) (h1 : H1 q = none) : H q = none := by
  cases z : H q with
  | none => rfl
  | some u =>
    rw [h q u z (by simpa using hb)] at h1
    cases h1
theorem NetSt.new (h : NetSt b c pa px H H1 ts as xs) (hq : H1 q = none) : NetSt b c pa px H (upd H1 q o) ts as xs := by
  refine h.side (ne_of_none h.la hq).symm (ne_of_none h.lx hq).symm (h.bag.neb hq) (h.bag.nec hq) (fr_free h.fr (h.bag.neb hq) hq) fun t ht => ?_
  obtain ⟨l, z⟩ := h.t ht
  exact ne_of_none z hq
theorem NetSt.lst (h : NetSt b c pa px H H1 ts as xs) {l : List V} (hq : H1 q = some (.lst l)) (ha : q ≠ pa) (hx : q ≠ px) (hb : q ≠ b) (hc : q ≠ c) (h0 : H q = none) : NetSt b c pa px H (upd H1 q o) ts as xs := by
  refine h.side ha hx hb hc h0 fun t ht => ?_
  obtain ⟨l', z⟩ := h.t ht
  exact ne_of z hq (by intro e; cases e)
theorem NetSt.amt (h : NetSt b c pa px H H1 ts as xs) (k : Nat) (y : Int) : NetSt b c pa px H (upd H1 px (.lst ((xs.map V.int).set k (.int y)))) ts as (xs.set k y) := by
  refine ⟨h.fr.put (.inr h.nx), h.bag.put h.pxb h.pxc, by rw [upd_ne h.ne]; exact h.la, by rw [upd_same, List.map_set], h.ln, fun j t p ht hp => ?_, h.na, h.nx, h.ne, h.bag0⟩
  rw [upd_ne (ne_of (h.tup j t p ht hp) h.lx (by intro e; cases e))]
  exact h.tup j t p ht hp
theorem NetSt.arc (h : NetSt b c pa px H H1 ts as xs) {t0 : Addr} {e : Cir.Arc} (ht : H1 t0 = some (.tup [.int e.1, .int e.2])) :
    NetSt b c pa px H (upd (upd H1 pa (.lst (ts.map V.ref ++ [.ref t0]))) px (.lst (xs.map V.int ++ [.int 0]))) (ts ++ [t0]) (as ++ [e]) (xs ++ [0]) := by
  have u : ∀ {t : Addr} {l : List V}, H1 t = some (.tup l) → (upd (upd H1 pa (.lst (ts.map V.ref ++ [.ref t0]))) px (.lst (xs.map V.int ++ [.int 0]))) t = some (.tup l) := fun {t l} z => by
    rw [upd_ne (ne_of z h.lx (by intro e; cases e)), upd_ne (ne_of z h.la (by intro e; cases e))]
    exact z
  refine ⟨(h.fr.put (.inr h.na)).put (.inr h.nx), (h.bag.put h.pab h.pac).put h.pxb h.pxc, by rw [upd_ne h.ne, upd_same, List.map_append]; rfl, by rw [upd_same, List.map_append]; rfl, by simp [h.ln], fun j t p ht2 hp => ?_, h.na, h.nx, h.ne, h.bag0⟩
  rcases Cir.getElem?_snoc_last ht2 with ⟨hl, z⟩ | ⟨rfl, rfl⟩
  · rw [List.getElem?_append_left (by rw [← h.ln]; exact hl)] at hp
    exact u (h.tup j t p z hp)
  · rw [h.ln, List.getElem?_append_right (Nat.le_refl _), Nat.sub_self] at hp
    cases Option.some.inj hp
    exact u ht
end
structure NetL (n most : Nat) (as : List Cir.Arc) (xs : List Int) : Prop where
  len : as.length = xs.length
  good : ∀ k, k < as.length → Cir.Good n (Cir.arcOf as k)
  few : as.length ≤ most
def spBase : Sp := fun vs H Q _ => ∃ (b c : Addr) (n most : Nat), vs = [.ref b, .int (n : Int), .int (most : Int)] ∧ BagC H b c ∧ 2 ≤ n ∧ n ≤ 60 ∧ 2 ≤ most ∧ most ≤ 1000 ∧
  ∀ (p pa px : Addr) (ts : List Addr) (as : List Cir.Arc) (xs : List Int) (H' : Hp), NetSt b c pa px H H' ts as xs → H' p = some (.lst [.ref pa, .ref px]) → NetL n most as xs → 0 < as.length → (∀ v, Cir.net as xs v = 0) → Q (.ref p) H'
/-- x if c else y, read as one number -/
theorem tIf_q {t : TT} {ta tb : TE} {σ : L2.St} {H : Hp} {Q : VK} (c : Bool) (x y : Int) (ht : ∀ R : Bool → Hp → Prop, R c H → t σ H R) (hx : ∀ R : VK, R (.int x) H → ta σ H R) (hy : ∀ R : VK, R (.int y) H → tb σ H R)
    (h : Q (.int (if c = true then x else y)) H) : tIf t ta tb σ H Q := by
  refine ht _ ?_
  cases c with
  | true => exact iteT (hx _ (by simpa using h))
  | false => exact iteF (hy _ (by simpa using h))
/-- the node that the round reaches with its j-th arc -/
def ndAt (os : List Int) (sz j : Nat) : Int := if j < sz then Cir.part os j else Cir.part os 0
theorem dp_arcs {K : PySem.W.Frag} {b c pa px : Addr} {H H1 : Hp} {ts : List Addr} {as : List Cir.Arc} {xs : List Int} (h : NetSt b c pa px H H1 ts as xs) : Dp K H1 (.ref pa) (dPrs as) :=
  .lst (SqL.of h.la) (dpa_prs ts as h.ln fun k t p a b => SqT.of (h.tup k t p a b))
/-- the least number with a property, if there is one -/
theorem least {P : Nat → Prop} : ∀ (m : Nat), (∃ k, k < m ∧ P k) → ∃ k, k < m ∧ P k ∧ ∀ j, j < k → ¬ P j
  | 0, ⟨k, h, _⟩ => by omega
  | m + 1, ⟨k, h, p⟩ => by
    by_cases c : ∃ k, k < m ∧ P k
    · obtain ⟨k, h1, h2, h3⟩ := least m c
      exact ⟨k, by omega, h2, h3⟩
    · have e : k = m := by
        by_cases z : k = m
        · exact z
        · exact absurd ⟨k, by omega, p⟩ c
      subst e
      exact ⟨k, h, p, fun j hj pj => c ⟨j, hj, pj⟩⟩
section
variable {P : Program} {w : World} {K : PySem.W.Frag} {mg : Str → Option Value} {base : Heap}
theorem ok_law_base {f : Addr} {fd : FuncData} (F : Fun K "_law_base" "_law_base" s_law_base f fd) (T : Blt mg) (F_law_take : FnB P w K mg base CX0 1 "_law_take" ["bag", "many"] spTake) :
    FnOk P w K mg base CX0 2 f fd ["bag", "count", "most"] spBase := by
  refine F.ok sc_law_base (fun vs H Q E h => ?_) (fun cdv A outer s H vs Q E hr h => ?_)
  · obtain ⟨b, c, n, most, rfl, _⟩ := h
    rfl
  · obtain ⟨b, c, n, most, rfl, hB, hn2, hn, hm2, hm, k⟩ := h
    have hu65 : (A.deeper (envOfC "_law_base" (defScope s_law_base) s.heap.objs.size f cdv)).units + 65 < cLine := by have := hr.un; omega
    refine ⟨_, (pss_cons (ps_set (i := 3) sc_law_base.nd rfl (Or.inl rfl) (pe_lst pa_nil))
    (pss_cons (ps_set (i := 4) sc_law_base.nd rfl (Or.inl rfl) (pe_lst pa_nil))
    (pss_cons (ps_for PassesOwn.never rfl (pi_range1 (by rfl) T.m_range (pa_cons (pe_op op_add pe_int (pe_callF F_law_take (hr.mono (by decide)) rfl pass0 (pa_cons (pv 0) (pa_cons pe_int pa_nil)))) pa_nil)) (pg_name (i := 5) sc_law_base.nd rfl (Or.inl rfl))
      (pss_cons (ps_set (i := 6) sc_law_base.nd rfl (Or.inl rfl) (pe_listRg rfl (by rfl) T.m_list (prg_1 (by rfl) T.m_range (pv 1))))
      (pss_cons (ps_set (i := 7) sc_law_base.nd rfl (Or.inl rfl) (pe_op op_add pe_int (pe_callF F_law_take (hr.mono (by decide)) rfl pass0 (pa_cons (pv 0) (pa_cons (pe_op op_sub (pe_callB (call_min2 rfl) (by rfl) T.m_min (by decide +kernel) (pa_cons (pv 1) (pa_cons pe_int pa_nil))) pe_int) pa_nil)))))
      (pss_cons (ps_for PassesOwn.never rfl (pi_range1 (by rfl) T.m_range (pa_cons (pv 7) pa_nil)) (pg_name (i := 8) sc_law_base.nd rfl (Or.inl rfl))
        (pss_cons (ps_set (i := 9) sc_law_base.nd rfl (Or.inl rfl) (pe_op op_add (pv 8) (pe_callF F_law_take (hr.mono (by decide)) rfl pass0 (pa_cons (pv 0) (pa_cons (pe_op op_sub (pv 1) (pv 8)) pa_nil)))))
        (pss_cons (ps_set (i := 10) sc_law_base.nd rfl (Or.inl rfl) (pe_ix ix_list (pv 6) (pv 8) (fun _ _ => rfl)))
        (pss_cons (ps_asg (pe_ix ix_list (pv 6) (pv 9) (fun _ _ => rfl)) (pg_sub (pv 6) (pv 8) set_list))
        (pss_one (ps_asg (pv 10) (pg_sub (pv 6) (pv 9) set_list)))))))
      (pss_cons (ps_set (i := 11) sc_law_base.nd rfl (Or.inl rfl) (pe_op op_sub (pe_callF F_law_take (hr.mono (by decide)) rfl pass0 (pa_cons (pv 0) (pa_cons pe_int pa_nil))) pe_int))
      (pss_cons (ps_for PassesOwn.never rfl (pi_range1 (by rfl) T.m_range (pa_cons (pv 7) pa_nil)) (pg_name (i := 8) sc_law_base.nd rfl (Or.inl rfl))
        (pss_cons (ps_set (i := 12) sc_law_base.nd rfl (Or.inl rfl) (pe_tup (pa_cons (pe_ix ix_list (pv 6) (pv 8) (fun _ _ => rfl)) (pa_cons (pe_ix ix_list (pv 6) (pe_ifExp (pt_cmpR op_lt (pe_op op_add (pv 8) pe_int) (pv 7) (nomark _)) (pe_op op_add (pv 8) pe_int) pe_int) (fun _ _ => rfl)) pa_nil))))
        (pss_cons (ps_if (PW.pt (pw_and (pt_cmpR (op_notInD hu65) (pv 12) (pv 3) rfl) (pw_and1 (pt_cmpR op_ge (pe_callB call_len_seq (by rfl) T.m_len (by decide +kernel) (pa_cons (pv 3) pa_nil)) (pv 2) (nomark _)))))
          (pss_one (ps_ret (pe_lst (pa_cons (pv 3) (pa_cons (pv 4) pa_nil)))))
          pss_nil)
        (pss_one (ps_if (pt_cmpR (op_notInD hu65) (pv 12) (pv 3) rfl)
          (pss_cons (ps_expr (pe_bm PySem.F.plainAttrs_list PySem.F.slot_list_append PySem.F.type_list_append mt_append (pv 3) (pa_cons (pv 12) pa_nil)))
          (pss_one (ps_expr (pe_bm PySem.F.plainAttrs_list PySem.F.slot_list_append PySem.F.type_list_append mt_append (pv 4) (pa_cons pe_int pa_nil)))))
          pss_nil)))))
      (pss_one (ps_for PassesOwn.never rfl (pi_range1 (by rfl) T.m_range (pa_cons (pv 7) pa_nil)) (pg_name (i := 8) sc_law_base.nd rfl (Or.inl rfl))
        (pss_cons (ps_set (i := 12) sc_law_base.nd rfl (Or.inl rfl) (pe_tup (pa_cons (pe_ix ix_list (pv 6) (pv 8) (fun _ _ => rfl)) (pa_cons (pe_ix ix_list (pv 6) (pe_ifExp (pt_cmpR op_lt (pe_op op_add (pv 8) pe_int) (pv 7) (nomark _)) (pe_op op_add (pv 8) pe_int) pe_int) (fun _ _ => rfl)) pa_nil))))
        (pss_cons (ps_set (i := 13) sc_law_base.nd rfl (Or.inl rfl) (pe_bm PySem.F.plainAttrs_list PySem.F.slot_list_index PySem.F.type_list_index (mt_indexD hu65) (pv 3) (pa_cons (pv 12) pa_nil)))
        (pss_one (ps_asg (pe_op op_add (pe_ix ix_list (pv 4) (pv 13) (fun _ _ => rfl)) (pv 11)) (pg_sub (pv 4) (pv 13) set_list)))))))))))))
    (pss_one (ps_ret (pe_lst (pa_cons (pv 3) (pa_cons (pv 4) pa_nil)))))))), ?_⟩
    refine ⟨by show 0 ≤ sizeLine; exact Nat.zero_le _, fun pa hpa => ⟨by show 0 ≤ sizeLine; exact Nat.zero_le _, fun px hpx => ?_⟩⟩
    have npp : pa ≠ px := ne_of_none upd_same hpx
    have hx0 : H px = none := ((Fr.refl [] H).new hpa).free hpx
    have N0 : NetSt b c pa px H (upd (upd H pa (.lst [])) px (.lst [])) [] [] [] := ⟨((Fr.refl _ H).new hpa).new hpx, (hB.new hpa).new hpx, by rw [upd_ne npp]; exact upd_same, upd_same, rfl, fun k t p a => by simp at a, hpa, hx0, npp, hB⟩
    refine ⟨_, rfl, b, c, 5, rfl, N0.bag, by decide, by decide, fun r H0 r0 r1 e0 B0 => ?_⟩
    obtain ⟨rn, rfl⟩ : ∃ rn : Nat, r = (rn : Int) := ⟨r.toNat, by omega⟩
    refine ⟨_, _, rfl, rfl, _, rfl, (rg_ok (n := 1 + rn) (by omega)).1, (rg_ok (n := 1 + rn) (by omega)).2, for_rng (n := 1 + rn)
      (fun i σ H' => ∃ (ts : List Addr) (as : List Cir.Arc) (xs : List Int), NetSt b c pa px H H' ts as xs ∧ NetL n most as xs ∧ (0 < i → 0 < as.length) ∧ (∀ v, Cir.net as xs v = 0) ∧ ∃ o5 o6 o7 o8 o9 o10 o11 o12 o13 : Option V,
        σ = [some (.ref b), some (.int (n : Int)), some (.int (most : Int)), some (.ref pa), some (.ref px), o5, o6, o7, o8, o9, o10, o11, o12, o13]) ⟨[], [], [], N0.take e0 B0, ⟨rfl, fun k h => by simp at h, by simp⟩, fun h => absurd h (by omega), fun v => rfl, _, _, _, _, _, _, _, _, _, rfl⟩ ?_ ?_⟩
    · rintro i σ H1 hi ⟨ts, as, xs, N, ok, some_, bal, o5, o6, o7, o8, o9, o10, o11, o12, o13, rfl⟩
      refine ⟨_, rfl, _, rfl, RgOk.of_le (by omega) (by omega) (by omega) (by omega), fun po hpo => ?_⟩
      have N2 := N.new (o := .lst (rgV 0 (n : Int))) hpo
      have pA : po ≠ pa := (ne_of_none N.la hpo).symm
      have pX : po ≠ px := (ne_of_none N.lx hpo).symm
      have pB : po ≠ b := N.bag.neb hpo
      have pC : po ≠ c := N.bag.nec hpo
      have p0 : H po = none := fr_free N.fr pB hpo
      have hp2 : (upd H1 po (.lst (rgV 0 (n : Int)))) po = some (.lst (((List.range n).map fun (i : Nat) => (i : Int)).map V.int)) := by
        rw [upd_same, List.map_map]
        unfold rgV
        rw [show ((n : Int) - 0).toNat = n by omega]
        simp
      generalize upd H1 po (.lst (rgV 0 (n : Int))) = H2 at N2 hp2 ⊢
      have o2 := Cir.Ord.base n
      generalize (List.range n).map (fun (i : Nat) => (i : Int)) = os at hp2 o2
      -- size
      refine ⟨_, rfl, _, rfl, _, _, rfl, _, _, rfl, rfl, b, c, _, rfl, N2.bag, ?_, ?_, fun t H3 t0 t1 e3 B3 => ?_⟩
      · split <;> omega
      · refine log_ok (Nat.lt_of_le_of_lt (m := 100) ?_ (by decide))
        split <;> omega
      have N3 := N2.take e3 B3
      have hp3 := e3 _ _ hp2 (by simpa using pB)
      obtain ⟨tn, rfl⟩ : ∃ tn : Nat, t = (tn : Int) := ⟨t.toNat, by omega⟩
      have hsz : 2 + tn ≤ n ∧ 2 + tn ≤ 12 := by
        by_cases h25 : (12 : Int) < (n : Int)
        · rw [if_pos h25] at t1
          omega
        · rw [if_neg h25] at t1
          omega
      refine ⟨_, _, rfl, rfl, ?_⟩
      refine ⟨_, rfl, _, rfl, (rg_ok (n := 2 + tn) (by omega)).1, (rg_ok (n := 2 + tn) (by omega)).2, for_rng (n := 2 + tn)
        (fun j σ H' => NetSt b c pa px H H' ts as xs ∧ ∃ os : List Int, H' po = some (.lst (os.map V.int)) ∧ Cir.Ord n os ∧ ∃ o8 o9 o10 o11 o12 o13 : Option V,
          σ = [some (.ref b), some (.int (n : Int)), some (.int (most : Int)), some (.ref pa), some (.ref px), some (.int (i : Int)), some (.ref po), some (.int ((2 + tn : Nat) : Int)), o8, o9, o10, o11, o12, o13])
        ⟨N3, os, hp3, o2, _, _, _, _, _, _, rfl⟩ ?_ ?_⟩
      · clear hp3 hp2 N3 o2 B3 e3 t0 t1
        generalize hsn : 2 + tn = sz at hsz ⊢
        rintro j σ H4 hj ⟨N4, os, hp4, o4, o8, o9, o10, o11, o12, o13, rfl⟩
        refine ⟨_, rfl, _, rfl, _, rfl, _, rfl, _, _, rfl, rfl, b, c, _, rfl, N4.bag, by omega, log_ok (Nat.lt_of_le_of_lt (m := 100) (by omega) (by decide)), fun t H5 t0 t1 e5 B5 => ?_⟩
        have N5 := N4.take e5 B5
        have hp5 := e5 _ _ hp4 (by simpa using pB)
        obtain ⟨tm, rfl⟩ : ∃ tm : Nat, t = (tm : Int) := ⟨t.toNat, by omega⟩
        have hjn : j < os.length := by rw [o4.len]; omega
        have hon : j + tm < os.length := by rw [o4.len]; omega
        refine ⟨_, _, rfl, rfl, ?_⟩
        refine ⟨_, rfl, _, rfl, _, _, _, _, rfl, rfl, SqL.of hp5, at_part hjn, ?_⟩
        refine ⟨_, rfl, _, rfl, _, _, _, _, rfl, rfl, SqL.of hp5, at_part hon, _, rfl, _, rfl, _, _, _, _, rfl, rfl, hp5, ix_nat (by rw [List.length_map]; exact hjn), ?_⟩
        have N6 := N5.lst (o := .lst ((os.map V.int).set j (.int (Cir.part os (j + tm))))) hp5 pA pX pB pC p0
        refine ⟨_, rfl, _, rfl, _, rfl, _, _, _, _, rfl, rfl, upd_same, ix_nat (by rw [List.length_set, List.length_map]; exact hon), ?_⟩
        rw [upd_upd]
        refine ⟨?_, (os.set j (Cir.part os (j + tm))).set (j + tm) (Cir.part os j), ?_, o4.swap (by omega) (by omega), _, _, _, _, _, _, rfl⟩
        · exact N5.lst hp5 pA pX pB pC p0
        · rw [upd_same, List.map_set, List.map_set]
      clear hp3 hp2 N3 o2 B3 e3 t0 t1
      generalize hsn : 2 + tn = sz at hsz ⊢
      rintro σ H4 ⟨N4, os, hp4, o4, o8, o9, o10, o11, o12, o13, rfl⟩
      -- part
      refine ⟨_, rfl, b, c, 6, rfl, N4.bag, by decide, by decide, fun pt H5 q0 q1 e5 B5 => ?_⟩
      have N5 := N4.take e5 B5
      have hp5 := e5 _ _ hp4 (by simpa using pB)
      refine ⟨_, _, rfl, rfl, ?_⟩
      dsimp only
      generalize pt - 2 = pt
      clear q0 q1
      have good : ∀ j, j < sz → Cir.Good n (Cir.part os j, ndAt os sz (j + 1)) := fun j hj => by
        have a1 := o4.at (i := j) (by omega)
        unfold ndAt
        by_cases lt : j + 1 < sz
        · rw [if_pos lt]
          exact ⟨a1, o4.at (by omega), o4.ne (by omega) (by omega) (by omega)⟩
        · rw [if_neg lt]
          exact ⟨a1, o4.at (by omega), o4.ne (by omega) (by omega) (by omega)⟩
      have at2 : ∀ j, j < sz → atI (os.map V.int) (if decide ((j : Int) + 1 < (sz : Int)) = true then (j : Int) + 1 else 0) = some (.int (ndAt os sz (j + 1))) := fun j hj => by
        by_cases lt : j + 1 < sz
        · rw [if_pos (decide_eq_true (by omega))]
          unfold ndAt
          rw [if_pos lt]
          exact at_part (k := j + 1) (by rw [o4.len]; omega)
        · rw [if_neg (by simp; omega)]
          unfold ndAt
          rw [if_neg lt]
          exact at_part (k := 0) (by rw [o4.len]; omega)
      -- the arcs
      refine ⟨_, rfl, _, rfl, (rg_ok (by omega)).1, (rg_ok (by omega)).2, for_rng (n := sz)
        (fun j σ H' => ∃ (ts : List Addr) (as : List Cir.Arc) (xs : List Int), NetSt b c pa px H H' ts as xs ∧ NetL n most as xs ∧ (∀ v, Cir.net as xs v = 0) ∧ (∀ m, m < j → (Cir.part os m, ndAt os sz (m + 1)) ∈ as) ∧ H' po = some (.lst (os.map V.int)) ∧
          ∃ o8 o9 o10 o12 o13 : Option V, σ = [some (.ref b), some (.int (n : Int)), some (.int (most : Int)), some (.ref pa), some (.ref px), some (.int (i : Int)), some (.ref po), some (.int (sz : Int)), o8, o9, o10, some (.int pt), o12, o13])
        ⟨ts, as, xs, N5, ok, bal, fun m hm => by omega, hp5, _, _, _, _, _, rfl⟩ ?_ ?_⟩
      · clear N5 hp5 e5 B5 N4 hp4 N2 N ok bal some_ o8 o9 o10 o12 o13
        rintro j σ H7 hj ⟨ts, as, xs, N, ok, bal, mem, hp, o8, o9, o10, o12, o13, rfl⟩
        have hjn : j < os.length := by rw [o4.len]; omega
        have at2 := at2 j hj
        have good := good j hj
        refine ⟨_, rfl, _, rfl, _, _, _, _, rfl, rfl, SqL.of hp, at_part hjn, _, rfl, ?_⟩
        refine tIf_q (decide ((j : Int) + 1 < (sz : Int))) ((j : Int) + 1) 0 (fun R h => ⟨_, rfl, _, _, rfl, rfl, _, rfl, _, _, rfl, rfl, _, rfl, h⟩) (fun R h => ⟨_, rfl, _, _, rfl, rfl, h⟩) (fun R h => h) ?_
        generalize (if decide ((j : Int) + 1 < (sz : Int)) = true then (j : Int) + 1 else 0) = ix at at2 ⊢
        refine ⟨_, _, _, _, rfl, rfl, SqL.of hp, at2, by show 2 ≤ sizeLine; decide, fun t0 ht0 => ?_⟩
        have N8 := N.new (o := .tup [.int (Cir.part os j), .int (ndAt os sz (j + 1))]) ht0
        have hp8 : (upd H7 t0 (.tup [.int (Cir.part os j), .int (ndAt os sz (j + 1))])) po = some (.lst (os.map V.int)) := by rw [upd_ne (ne_of_none hp ht0)]; exact hp
        have ht8 : (upd H7 t0 (.tup [.int (Cir.part os j), .int (ndAt os sz (j + 1))])) t0 = some (.tup [.int (Cir.part os j), .int (ndAt os sz (j + 1))]) := upd_same
        generalize upd H7 t0 (.tup [.int (Cir.part os j), .int (ndAt os sz (j + 1))]) = H8 at N8 hp8 ht8 ⊢
        have hee : ∃ e : Cir.Arc, e = (Cir.part os j, ndAt os sz (j + 1)) := ⟨_, rfl⟩
        obtain ⟨e, hee⟩ := hee
        have ht8 : H8 t0 = some (.tup [.int e.1, .int e.2]) := by rw [hee]; exact ht8
        rw [← hee] at good
        clear at2
        have hll : (ts.map V.ref).length = as.length := by rw [List.length_map, N8.ln]
        have few := ok.few
        refine ⟨_, rfl, _, rfl, dPr e, as.map dPr, dp_pr (SqT.of ht8), dp_arcs N8, pr_shaped _, prs_shaped _, ?_⟩
        rw [any_pr]
        by_cases hme : e ∈ as
        · refine ⟨_, rfl, not_if (fun nm => absurd hme nm) fun _ => ?_⟩
          refine ⟨_, rfl, _, rfl, dPr e, as.map dPr, dp_pr (SqT.of ht8), dp_arcs N8, pr_shaped _, prs_shaped _, ?_⟩
          rw [any_pr]
          refine ⟨_, rfl, not_if (fun nm => absurd hme nm) fun _ => ?_⟩
          refine ⟨ts, as, xs, N8, ok, bal, fun m hm => ?_, hp8, _, _, _, _, _, rfl⟩
          by_cases d : m = j
          · rw [d, ← hee]
            exact hme
          · exact mem m (by omega)
        · refine ⟨_, rfl, not_if (fun _ => ?_) fun z => absurd z hme⟩
          refine ⟨_, rfl, _, _, rfl, .inl (SqL.of N8.la), _, rfl, _, _, rfl, rfl, _, rfl, dec_iff (fun ge => ?_) fun lt => ?_⟩
          · rw [hll] at ge
            refine ⟨_, rfl, _, rfl, by show 2 ≤ sizeLine; decide, fun p hp => ?_⟩
            exact k p pa px ts as xs _ (N8.new hp) upd_same ok (by omega) bal
          · rw [hll] at lt
            refine ⟨_, rfl, _, rfl, dPr e, as.map dPr, dp_pr (SqT.of ht8), dp_arcs N8, pr_shaped _, prs_shaped _, ?_⟩
            rw [any_pr]
            refine ⟨_, rfl, not_if (fun _ => ?_) fun z => absurd z hme⟩
            refine ⟨_, rfl, .inl ⟨rfl, _, SqL.of N8.la⟩, _, rfl, _, _, _, rfl, rfl, N8.la, len_lt (by omega), ?_⟩
            have lx1 : (upd H8 pa (.lst (ts.map V.ref ++ [.ref t0]))) px = some (.lst (xs.map V.int)) := by rw [upd_ne N8.ne.symm]; exact N8.lx
            refine ⟨_, rfl, .inl ⟨rfl, _, SqL.of lx1⟩, _, _, _, rfl, rfl, lx1, len_lt (by rw [List.length_map, ← ok.len]; omega), ?_⟩
            refine ⟨ts ++ [t0], as ++ [e], xs ++ [0], N8.arc ht8, ⟨by simp [ok.len], fun k hk => ?_, by rw [List.length_append]; simp; omega⟩, fun v => ?_, fun m hm => ?_, ?_, _, _, _, _, _, rfl⟩
            · by_cases cc : k < as.length
              · rw [Cir.arcOf_snoc_lt cc]
                exact ok.good k cc
              · have ek : k = as.length := by
                  rw [List.length_append, List.length_singleton] at hk
                  omega
                rw [ek, Cir.arcOf_snoc]
                exact good
            · rw [Cir.net_snoc as xs e 0 v ok.len, bal v, Int.zero_mul]
              rfl
            · by_cases d : m = j
              · rw [d, ← hee]
                simp
              · exact List.mem_append_left _ (mem m (by omega))
            · rw [upd_ne pX, upd_ne pA]
              exact hp8
      · clear N5 hp5 e5 B5 N4 hp4 N2 N ok bal some_ o8 o9 o10 o12 o13
        rintro σ H7 ⟨ts, as, xs, N, ok, bal, mem, hp, o8, o9, o10, o12, o13, rfl⟩
        have ne0 : 0 < as.length := by
          have := mem 0 (by omega)
          cases as with
          | nil => simp at this
          | cons a l => simp
        refine ⟨_, rfl, _, rfl, (rg_ok (by omega)).1, (rg_ok (by omega)).2, for_rng (n := sz)
          (fun j σ H' => ∃ xs : List Int, NetSt b c pa px H H' ts as xs ∧ NetL n most as xs ∧ (∀ v, Cir.net as xs v = pt * (Cir.ind (ndAt os sz j) v - Cir.ind (ndAt os sz 0) v)) ∧ H' po = some (.lst (os.map V.int)) ∧
            ∃ o8 o9 o10 o12 o13 : Option V, σ = [some (.ref b), some (.int (n : Int)), some (.int (most : Int)), some (.ref pa), some (.ref px), some (.int (i : Int)), some (.ref po), some (.int (sz : Int)), o8, o9, o10, some (.int pt), o12, o13])
          ⟨xs, N, ok, fun v => by rw [bal v, Int.sub_self, Int.mul_zero], hp, _, _, _, _, _, rfl⟩ ?_ ?_⟩
        · clear N ok bal hp o8 o9 o10 o12 o13
          rintro j σ H8 hj ⟨xs, N, ok, bal, hp, o8, o9, o10, o12, o13, rfl⟩
          have hjn : j < os.length := by rw [o4.len]; omega
          have enj : ndAt os sz j = Cir.part os j := if_pos hj
          have at2 := at2 j hj
          have hme := mem j hj
          refine ⟨_, rfl, _, rfl, _, _, _, _, rfl, rfl, SqL.of hp, at_part hjn, _, rfl, ?_⟩
          refine tIf_q (decide ((j : Int) + 1 < (sz : Int))) ((j : Int) + 1) 0 (fun R h => ⟨_, rfl, _, _, rfl, rfl, _, rfl, _, _, rfl, rfl, _, rfl, h⟩) (fun R h => ⟨_, rfl, _, _, rfl, rfl, h⟩) (fun R h => h) ?_
          generalize (if decide ((j : Int) + 1 < (sz : Int)) = true then (j : Int) + 1 else 0) = ix at at2 ⊢
          refine ⟨_, _, _, _, rfl, rfl, SqL.of hp, at2, by show 2 ≤ sizeLine; decide, fun t0 ht0 => ?_⟩
          have N8 := N.new (o := .tup [.int (Cir.part os j), .int (ndAt os sz (j + 1))]) ht0
          have hp8 : (upd H8 t0 (.tup [.int (Cir.part os j), .int (ndAt os sz (j + 1))])) po = some (.lst (os.map V.int)) := by rw [upd_ne (ne_of_none hp ht0)]; exact hp
          have ht8 : (upd H8 t0 (.tup [.int (Cir.part os j), .int (ndAt os sz (j + 1))])) t0 = some (.tup [.int (Cir.part os j), .int (ndAt os sz (j + 1))]) := upd_same
          have ed : ∀ v, Cir.net as xs v + pt * Cir.dlt (Cir.part os j, ndAt os sz (j + 1)) v = pt * (Cir.ind (ndAt os sz (j + 1)) v - Cir.ind (ndAt os sz 0) v) := fun v => by
            rw [bal v, enj, ← Int.mul_add]
            show pt * (Cir.ind (Cir.part os j) v - Cir.ind (ndAt os sz 0) v + (Cir.ind (ndAt os sz (j + 1)) v - Cir.ind (Cir.part os j) v)) = _
            congr 1
            omega
          generalize upd H8 t0 (.tup [.int (Cir.part os j), .int (ndAt os sz (j + 1))]) = H9 at N8 hp8 ht8 ⊢
          have hee : ∃ e : Cir.Arc, e = (Cir.part os j, ndAt os sz (j + 1)) := ⟨_, rfl⟩
          obtain ⟨e, hee⟩ := hee
          have ht8 : H9 t0 = some (.tup [.int e.1, .int e.2]) := by rw [hee]; exact ht8
          rw [← hee] at ed hme
          have ex : ∃ k, k < as.length ∧ as[k]? = some e := by
            obtain ⟨k, hk⟩ := List.mem_iff_getElem?.mp hme
            exact ⟨k, (List.getElem?_eq_some_iff.mp hk).1, hk⟩
          obtain ⟨k2, k1, k2e, k3⟩ := least as.length ex
          refine ⟨_, rfl, .inl ⟨rfl, _, SqL.of N8.la⟩, _, rfl, pa, .ref t0, dPr e, as.map dPr, k2, dPr e, rfl, rfl, dp_arcs N8, dp_pr (SqT.of ht8), prs_shaped _, pr_shaped _, by rw [List.getElem?_map, k2e]; rfl, by rw [pr_eqv]; simp, fun m z' hm hz' => ?_, ?_⟩
          · rw [List.getElem?_map] at hz'
            have hml : m < as.length := by omega
            rw [Cir.get_arc hml] at hz'
            have ez : z' = dPr (Cir.arcOf as m) := (Option.some.inj hz').symm
            rw [ez, pr_eqv]
            exact decide_eq_false fun q => k3 m hm (by rw [Cir.get_arc hml, q])
          have kl : k2 < xs.length := by rw [← ok.len]; exact k1
          refine ⟨_, rfl, _, rfl, _, _, _, _, rfl, rfl, SqL.of N8.lx, at_part kl, _, rfl, _, _, rfl, rfl, _, rfl, _, rfl, _, _, _, _, rfl, rfl, N8.lx, ix_nat (by rw [List.length_map]; exact kl), ?_⟩
          refine ⟨_, N8.amt k2 (Cir.part xs k2 + pt), ⟨by rw [List.length_set]; exact ok.len, ok.good, ok.few⟩, fun v => ?_, ?_, _, _, _, _, _, rfl⟩
          · rw [← ed v, Cir.net_set as xs k2 _ v ok.len kl, Cir.arc_get k2e]
            have : Cir.part xs k2 + pt - Cir.part xs k2 = pt := by omega
            rw [this, hee]
          · rw [upd_ne pX]
            exact hp8
        · rintro σ H8 ⟨xs, N, ok, bal, hp, o8, o9, o10, o12, o13, rfl⟩
          refine ⟨ts, as, xs, N, ok, fun _ => ne0, fun v => ?_, _, _, _, _, _, _, _, _, _, rfl⟩
          rw [bal v]
          unfold ndAt
          rw [if_neg (by omega), if_pos (by omega), Int.sub_self, Int.mul_zero]
    · rintro σ H1 ⟨ts, as, xs, N, ok, some_, bal, o5, o6, o7, o8, o9, o10, o11, o12, o13, rfl⟩
      refine ⟨_, rfl, _, rfl, by show 2 ≤ sizeLine; decide, fun p hp => ?_⟩
      exact k p pa px ts as xs _ (N.new hp) upd_same ok (some_ (by omega)) bal
end
/-! ### the law's sums -/
theorem in_rd {K : PySem.W.Frag} {H : Hp} {a : Addr} {x : Int} {S : List Int} {Q : VK} (hS : SqL K H a (S.map V.int)) (q : Q (.bl (decide (x ∈ S))) H) : rIn K false (.int x) (.ref a) H Q := ⟨a, _, rfl, .inl hS, rfl, flat_ints S, by rw [inV_ints]; exact q⟩
theorem notin_rd {K : PySem.W.Frag} {H : Hp} {a : Addr} {x : Int} {S : List Int} {Q : VK} (hS : SqL K H a (S.map V.int)) (q : Q (.bl (!decide (x ∈ S))) H) : rIn K true (.int x) (.ref a) H Q := ⟨a, _, rfl, .inl hS, rfl, flat_ints S, by rw [inV_ints]; exact q⟩
def spExc (K : PySem.W.Frag) : Sp := fun vs H Q _ => ∃ (a ns : Addr) (arcs : List Cir.Arc) (lo hi nodes : List Int), vs = [.ref a, .ref ns] ∧ NetAt K H a arcs lo hi ∧ SqL K H ns (nodes.map V.int) ∧ Q (.int (Cir.excess arcs lo hi nodes)) H
def spIsCut (K : PySem.W.Frag) : Sp := fun vs H Q _ => ∃ (n : Nat) (a ns : Addr) (arcs : List Cir.Arc) (lo hi nodes : List Int), vs = [.int (n : Int), .ref a, .ref ns] ∧ NetAt K H a arcs lo hi ∧ H ns = some (.lst (nodes.map V.int)) ∧ Q (.bl (cutF n arcs lo hi nodes)) H
def spWhole (K : PySem.W.Frag) : Sp := fun vs H Q _ => ∃ (n : Nat) (a to : Addr) (arcs : List Cir.Arc) (lo hi x : List Int), vs = [.int (n : Int), .ref a, .ref to] ∧ NetAt K H a arcs lo hi ∧ H to = some (.lst (x.map V.int)) ∧ arcs.length ≤ 10000 ∧ n ≤ 10000 ∧
  (∀ k, k < arcs.length → Cir.Good n (Cir.arcOf arcs k)) ∧ Cir.Bn arcs lo hi x ∧ (∀ v : Nat, v < n → Cir.net arcs x v = 0) ∧ ∀ H' : Hp, Fr [] H H' → Q (.bl true) H'
section
variable {P : Program} {w : World} {K : PySem.W.Frag} {mg : Str → Option Value} {base : Heap}
theorem ok_law_excess {f : Addr} {fd : FuncData} (F : Fun K "_law_excess" "_law_excess" s_law_excess f fd) (T : Blt mg) : FnOk P w K mg base CX0 1 f fd ["arcs", "nodes"] (spExc K) := by
  refine F.ok sc_law_excess (fun vs H Q E h => ?_) (fun cdv A outer s H vs Q E hr h => ?_)
  · obtain ⟨a, ns, arcs, lo, hi, nodes, rfl, _⟩ := h
    rfl
  · obtain ⟨a, ns, arcs, lo, hi, nodes, rfl, hA, hS, k⟩ := h
    refine ⟨_, (pss_cons (ps_set (i := 2) sc_law_excess.nd rfl (Or.inl rfl) pe_int)
    (pss_cons (ps_for PassesOwn.never rfl (pi_list (pv 0)) (pg_tup rfl (pgs_cons (pg_name (i := 3) sc_law_excess.nd rfl (Or.inl rfl)) (pgs_cons (pg_name (i := 4) sc_law_excess.nd rfl (Or.inl rfl)) (pgs_cons (pg_name (i := 5) sc_law_excess.nd rfl (Or.inl rfl)) (pgs_cons (pg_name (i := 6) sc_law_excess.nd rfl (Or.inl rfl)) pgs_nil)))))
      (Evl.pss_cut (ps_if (PW.pt (pw_and (pt_cmpR op_notIn_seq (pv 3) (pv 1) rfl) (pw_and1 (pt_cmpR op_in_seq (pv 4) (pv 1) rfl))))
        (pss_one (ps_set (i := 2) sc_law_excess.nd rfl (Or.inl rfl) (pe_op op_add (pv 2) (pv 5))))
        pss_nil)
      (pss_one (ps_if (PW.pt (pw_and (pt_cmpR op_in_seq (pv 3) (pv 1) rfl) (pw_and1 (pt_cmpR op_notIn_seq (pv 4) (pv 1) rfl))))
        (pss_one (ps_set (i := 2) sc_law_excess.nd rfl (Or.inl rfl) (pe_op op_sub (pv 2) (pv 6))))
        pss_nil))))
    (pss_one (ps_ret (pv 2))))), ?_⟩
    obtain ⟨ts, hL, hts, hT⟩ := hA.at
    refine ⟨_, rfl, a, rfl, ⟨_, hL⟩, for_list (K := K) (a := a) (xs := ts.map V.ref) (fun i σ H4 => H4 = H ∧ ∃ o7 o8 o9 o10 : Option V, σ = [some (.ref a), some (.ref ns), some (.int (exI arcs lo hi nodes i)), o7, o8, o9, o10])
      ⟨rfl, _, _, _, _, rfl⟩ (fun i σ H4 _ z => by rw [z.1]; exact hL) ?_ ?_⟩
    · rintro i y σ H4 hy ⟨rfl, o7, o8, o9, o10, rfl⟩
      obtain ⟨t, ht, rfl⟩ := get_mapf hy
      have hi' : i < arcs.length := by rw [← hts]; exact (List.getElem?_eq_some_iff.mp ht).1
      obtain ⟨t', ht', _, q⟩ := hT i hi'
      rw [ht] at ht'
      cases ht'
      rw [exI_succ]
      refine ⟨_, _, rfl, q, rfl, _, _, rfl, _, _, rfl, _, _, rfl, _, _, rfl, rfl, ?_⟩
      generalize (Cir.arcOf arcs i).1 = tl
      generalize (Cir.arcOf arcs i).2 = hd
      refine ⟨fun σ' H' => H' = H4 ∧ σ' = [some (.ref a), some (.ref ns), some (.int (exI arcs lo hi nodes i + if tl ∉ nodes ∧ hd ∈ nodes then Cir.part lo i else 0)), some (.int tl), some (.int hd), some (.int (Cir.part lo i)), some (.int (Cir.part hi i))], ?_, ?_⟩
      · refine ⟨_, rfl, _, rfl, notin_rd hS ⟨_, rfl, not_if (fun c1 => ⟨_, rfl, _, rfl, in_rd hS ⟨_, rfl, dec_iff (fun c2 => ?_) fun c2 => ?_⟩⟩) fun c1 => ?_⟩⟩
        · rw [if_pos ⟨c1, c2⟩]
          exact ⟨_, rfl, _, rfl, _, _, rfl, rfl, rfl, rfl⟩
        · rw [if_neg (fun z => c2 z.2), Int.add_zero]
          exact ⟨rfl, rfl⟩
        · rw [if_neg (fun z => z.1 c1), Int.add_zero]
          exact ⟨rfl, rfl⟩
      · rintro σ' H' ⟨rfl, rfl⟩
        refine ⟨_, rfl, _, rfl, in_rd hS ⟨_, rfl, dec_iff (fun c1 => ⟨_, rfl, _, rfl, notin_rd hS ⟨_, rfl, not_if (fun c2 => ?_) fun c2 => ?_⟩⟩) fun c1 => ?_⟩⟩
        · rw [show (if tl ∉ nodes ∧ hd ∈ nodes then Cir.part lo i else 0 : Int) = 0 from if_neg (fun z => z.1 c1), show (if tl ∉ nodes ∧ hd ∈ nodes then Cir.part lo i else if tl ∈ nodes ∧ hd ∉ nodes then -Cir.part hi i else 0 : Int) = -Cir.part hi i by rw [if_neg (fun z => z.1 c1), if_pos ⟨c1, c2⟩], Int.add_zero]
          exact ⟨_, rfl, _, rfl, _, _, rfl, rfl, rfl, _, _, _, _, rfl⟩
        · rw [show (if tl ∉ nodes ∧ hd ∈ nodes then Cir.part lo i else 0 : Int) = 0 from if_neg (fun z => z.1 c1), show (if tl ∉ nodes ∧ hd ∈ nodes then Cir.part lo i else if tl ∈ nodes ∧ hd ∉ nodes then -Cir.part hi i else 0 : Int) = 0 by rw [if_neg (fun z => z.1 c1), if_neg (fun z => z.2 c2)], Int.add_zero]
          exact ⟨rfl, _, _, _, _, rfl⟩
        · by_cases c2 : hd ∈ nodes
          · rw [show (if tl ∉ nodes ∧ hd ∈ nodes then Cir.part lo i else 0 : Int) = Cir.part lo i from if_pos ⟨c1, c2⟩, show (if tl ∉ nodes ∧ hd ∈ nodes then Cir.part lo i else if tl ∈ nodes ∧ hd ∉ nodes then -Cir.part hi i else 0 : Int) = Cir.part lo i from if_pos ⟨c1, c2⟩]
            exact ⟨rfl, _, _, _, _, rfl⟩
          · rw [show (if tl ∉ nodes ∧ hd ∈ nodes then Cir.part lo i else 0 : Int) = 0 from if_neg (fun z => c2 z.2), show (if tl ∉ nodes ∧ hd ∈ nodes then Cir.part lo i else if tl ∈ nodes ∧ hd ∉ nodes then -Cir.part hi i else 0 : Int) = 0 by rw [if_neg (fun z => c2 z.2), if_neg (fun z => c1 z.1)], Int.add_zero]
            exact ⟨rfl, _, _, _, _, rfl⟩
    · rintro σ H4 ⟨rfl, o7, o8, o9, o10, rfl⟩
      rw [List.length_map, hts]
      exact ⟨_, rfl, k⟩
theorem ok_law_is_cut {f : Addr} {fd : FuncData} (F : Fun K "_law_is_cut" "_law_is_cut" s_law_is_cut f fd) (T : Blt mg) (F_law_excess : FnB P w K mg base CX0 1 "_law_excess" ["arcs", "nodes"] (spExc K)) : FnOk P w K mg base CX0 2 f fd ["count", "arcs", "nodes"] (spIsCut K) := by
  refine F.ok sc_law_is_cut (fun vs H Q E h => ?_) (fun cdv A outer s H vs Q E hr h => ?_)
  · obtain ⟨n, a, ns, arcs, lo, hi, nodes, rfl, _⟩ := h
    rfl
  · obtain ⟨n, a, ns, arcs, lo, hi, nodes, rfl, hA, hS, k⟩ := h
    refine ⟨_, (pss_cons (ps_if (pt_not (pt_val (pe_callB call_isi (by rfl) T.m_isinstance (by decide +kernel) (pa_cons (pv 2) (pa_cons (pe_bltn (v := .ty "list") (by rfl) T.m_list (by decide +kernel) rfl) pa_nil)))))
      (pss_one (ps_ret pe_bl))
      pss_nil)
    (pss_cons (ps_set (i := 3) sc_law_is_cut.nd rfl (Or.inl rfl) (pe_un un_neg pe_int))
    (pss_cons (ps_for PassesOwn.never rfl (pi_list (pv 2)) (pg_name (i := 4) sc_law_is_cut.nd rfl (Or.inl rfl))
      (pss_cons (ps_if (PW.pt (pw_or (pt_not (pt_val (pe_callB call_isi (by rfl) T.m_isinstance (by decide +kernel) (pa_cons (pv 4) (pa_cons (pe_bltn (v := .ty "int") (by rfl) T.m_int (by decide +kernel) rfl) pa_nil))))) (pw_or (pt_val (pe_callB call_isi (by rfl) T.m_isinstance (by decide +kernel) (pa_cons (pv 4) (pa_cons (pe_bltn (v := .ty "bool") (by rfl) T.m_bool (by decide +kernel) rfl) pa_nil)))) (pw_or (pt_cmpR op_le (pv 4) (pv 3) (nomark _)) (pw_or1 (pt_cmpR op_ge (pv 4) (pv 0) (nomark _)))))))
        (pss_one (ps_ret pe_bl))
        pss_nil)
      (pss_one (ps_set (i := 3) sc_law_is_cut.nd rfl (Or.inl rfl) (pv 4)))))
    (pss_one (ps_ret (pe_cmpR op_gt (pe_callF F_law_excess (hr.mono (by decide)) rfl pass0 (pa_cons (pv 1) (pa_cons (pv 2) pa_nil))) pe_int (nomark _))))))), ?_⟩
    refine ⟨_, rfl, _, _, _, _, true, rfl, .ty _, .base (.lst hS), kit_ty (by decide +kernel), _, rfl, iteF ?_⟩
    refine ⟨_, rfl, ?_⟩
    refine ⟨_, rfl, ns, rfl, ⟨_, SqL.of hS⟩, for_list (K := K) (a := ns) (xs := nodes.map V.int) (fun i σ H3 => H3 = H ∧ ∃ (last : Int) (o5 : Option V), ascF n (-1) nodes = ascF n last (nodes.drop i) ∧ σ = [some (.int (n : Int)), some (.ref a), some (.ref ns), some (.int last), o5])
      ⟨rfl, -1, _, rfl, rfl⟩ (fun i σ H3 _ z => by rw [z.1]; exact SqL.of hS) ?_ ?_⟩
    · rintro i y σ H3 hy ⟨rfl, last, o5, has, rfl⟩
      obtain ⟨v, hv, rfl⟩ := get_map_int hy
      have il := (List.getElem?_eq_some_iff.mp hv).1
      have dr : nodes.drop i = v :: nodes.drop (i + 1) := by
        rw [List.drop_eq_getElem_cons il]
        have := (List.getElem?_eq_some_iff.mp hv).2
        rw [this]
      rw [dr, ascF] at has
      have fin : ascF n (-1) nodes = false → Q (.bl false) H3 := fun z => by
        unfold cutF at k
        rw [z, Bool.false_and] at k
        exact k
      refine ⟨_, rfl, _, _, _, _, true, rfl, .ty _, .base (.int _), kit_ty (by decide +kernel), _, rfl, iteF ?_⟩
      refine ⟨_, rfl, _, _, _, _, false, rfl, .ty _, .base (.int _), kit_ty (by decide +kernel), _, rfl, iteF ?_⟩
      refine ⟨_, rfl, _, rfl, _, _, rfl, rfl, _, rfl, dec_iff (fun c => fin ?_) fun c => ?_⟩
      · rw [has, decide_eq_false (by omega), Bool.false_and]
      refine ⟨_, rfl, _, rfl, _, _, rfl, rfl, _, rfl, dec_iff (fun d => fin ?_) fun d => ?_⟩
      · rw [has, decide_eq_false (p := v < (n : Int)) (by omega), Bool.false_and, Bool.and_false]
      refine ⟨_, rfl, rfl, v, _, ?_, rfl⟩
      rw [has, decide_eq_true (p := last < v) (by omega), decide_eq_true (p := v < (n : Int)) (by omega), Bool.true_and, Bool.true_and]
    · rintro σ H3 ⟨rfl, last, o5, has, rfl⟩
      rw [List.length_map, List.drop_length, ascF] at has
      refine ⟨_, rfl, _, rfl, a, ns, arcs, lo, hi, nodes, rfl, hA, SqL.of hS, ?_⟩
      refine ⟨_, _, rfl, rfl, ?_⟩
      unfold cutF at k
      rw [has, Bool.true_and] at k
      exact k
theorem ok_law_whole {f : Addr} {fd : FuncData} (F : Fun K "_law_whole" "_law_whole" s_law_whole f fd) (T : Blt mg) : FnOk P w K mg base CX0 1 f fd ["count", "arcs", "told"] (spWhole K) := by
  refine F.ok sc_law_whole (fun vs H Q E h => ?_) (fun cdv A outer s H vs Q E hr h => ?_)
  · obtain ⟨n, a, to, arcs, lo, hi, x, rfl, _⟩ := h
    rfl
  · obtain ⟨n, a, to, arcs, lo, hi, xs, rfl, hA, hX, hl, hn, hgood, N, hb, k⟩ := h
    refine ⟨_, (pss_cons (ps_if (PW.pt (pw_or (pt_not (pt_val (pe_callB call_isi (by rfl) T.m_isinstance (by decide +kernel) (pa_cons (pv 2) (pa_cons (pe_bltn (v := .ty "list") (by rfl) T.m_list (by decide +kernel) rfl) pa_nil))))) (pw_or1 (pt_cmpR op_ne (pe_callB call_len_seq (by rfl) T.m_len (by decide +kernel) (pa_cons (pv 2) pa_nil)) (pe_callB call_len_seq (by rfl) T.m_len (by decide +kernel) (pa_cons (pv 1) pa_nil)) (nomark _)))))
      (pss_one (ps_ret pe_bl))
      pss_nil)
    (pss_cons (ps_setLc (i := 4) (own := [("k", 3)]) rfl sc_law_whole.nd rfl rfl (sw_true rfl rfl rfl (by decide +kernel)) (pi_range1 (by rfl) T.m_range (pa_cons (pv 0) pa_nil)) (blkOk_by (own := [("k", 3)]) (N := n_law_whole) (sc := defScope s_law_whole) (by decide +kernel)) (fun _ _ _ _ _ => (pg_name (i := 3) sc_law_whole.nd rfl (Or.inl rfl))) (fun _ _ _ _ _ => pts_nil) (fun _ _ _ _ _ => pe_int))
    (pss_cons (ps_for PassesOwn.never rfl (pi_range1 (by rfl) T.m_range (pa_cons (pe_callB call_len_seq (by rfl) T.m_len (by decide +kernel) (pa_cons (pv 1) pa_nil)) pa_nil)) (pg_name (i := 3) sc_law_whole.nd rfl (Or.inl rfl))
      (pss_cons (ps_if (PW.pt (pw_or (pt_not (pt_val (pe_callB call_isi (by rfl) T.m_isinstance (by decide +kernel) (pa_cons (pe_ix ix_list (pv 2) (pv 3) (fun _ _ => rfl)) (pa_cons (pe_bltn (v := .ty "int") (by rfl) T.m_int (by decide +kernel) rfl) pa_nil))))) (pw_or1 (pt_val (pe_callB call_isi (by rfl) T.m_isinstance (by decide +kernel) (pa_cons (pe_ix ix_list (pv 2) (pv 3) (fun _ _ => rfl)) (pa_cons (pe_bltn (v := .ty "bool") (by rfl) T.m_bool (by decide +kernel) rfl) pa_nil)))))))
        (pss_one (ps_ret pe_bl))
        pss_nil)
      (pss_cons (ps_if (PW.pt (pw_or (pt_cmpR op_lt (pe_ix ix_list (pv 2) (pv 3) (fun _ _ => rfl)) (pe_ix ix_tup (pe_ix ix_list (pv 1) (pv 3) (fun _ _ => rfl)) pe_int (fun _ _ => rfl)) (nomark _)) (pw_or1 (pt_cmpR op_gt (pe_ix ix_list (pv 2) (pv 3) (fun _ _ => rfl)) (pe_ix ix_tup (pe_ix ix_list (pv 1) (pv 3) (fun _ _ => rfl)) pe_int (fun _ _ => rfl)) (nomark _)))))
        (pss_one (ps_ret pe_bl))
        pss_nil)
      (pss_cons (ps_asg (pe_op op_sub (pe_ix ix_list (pv 4) (pe_ix ix_tup (pe_ix ix_list (pv 1) (pv 3) (fun _ _ => rfl)) pe_int (fun _ _ => rfl)) (fun _ _ => rfl)) (pe_ix ix_list (pv 2) (pv 3) (fun _ _ => rfl))) (pg_sub (pv 4) (pe_ix ix_tup (pe_ix ix_list (pv 1) (pv 3) (fun _ _ => rfl)) pe_int (fun _ _ => rfl)) set_list))
      (pss_one (ps_asg (pe_op op_add (pe_ix ix_list (pv 4) (pe_ix ix_tup (pe_ix ix_list (pv 1) (pv 3) (fun _ _ => rfl)) pe_int (fun _ _ => rfl)) (fun _ _ => rfl)) (pe_ix ix_list (pv 2) (pv 3) (fun _ _ => rfl))) (pg_sub (pv 4) (pe_ix ix_tup (pe_ix ix_list (pv 1) (pv 3) (fun _ _ => rfl)) pe_int (fun _ _ => rfl)) set_list)))))))
    (pss_one (ps_ret (pe_cmpR (op_eqD hr.units) (pv 4) (pe_lc (own := [("k", 3)]) rfl sc_law_whole.nd (pi_range1 (by rfl) T.m_range (pa_cons (pv 0) pa_nil)) (blkOk_by (own := [("k", 3)]) (N := n_law_whole) (sc := defScope s_law_whole) (by decide +kernel)) (fun _ _ _ _ _ => (pg_name (i := 3) sc_law_whole.nd rfl (Or.inl rfl))) (fun _ _ _ _ _ => pts_nil) (fun _ _ _ _ _ => pe_int)) (nomark _))))))), ?_⟩
    obtain ⟨ts, hL, hts, hT⟩ := hA.at
    have hlx : arcs.length = xs.length := N.lx.symm
    refine ⟨_, rfl, _, _, _, _, true, rfl, .ty _, .base (.lst hX), kit_ty (by decide +kernel), _, rfl, iteF ?_⟩
    refine ⟨_, rfl, _, _, rfl, .inl (SqL.of hX), _, rfl, _, _, rfl, .inl hL, rfl, _, rfl, ?_⟩
    refine ne_if (fun c => absurd (by rw [List.length_map, List.length_map, hts, hlx]) c) fun _ => ?_
    refine ⟨_, rfl, _, rfl, (rg_ok (by omega)).1, (rg_ok (by omega)).2, fun p hp => lc_rng (n := n) (fun i H2 => H2 = upd H p (.lst (List.replicate i (V.int 0)))) rfl ?_ ?_⟩
    · rintro i H2 hi rfl
      refine ⟨rfl, _, upd_same, ?_, ?_⟩
      · rw [List.length_replicate]
        exact len_lt (by omega)
      · rw [upd_upd, List.replicate_succ']
    rintro H2 rfl
    have np : H p = none := hp
    have e0 : (List.replicate n (V.int 0)) = (Cir.spareL n [] []).map V.int := by
      rw [Cir.spareL_zero, List.map_replicate]
    rw [e0]
    refine ⟨_, rfl, _, _, rfl, .inl ?_, _, rfl, (rg_ok (by simp; omega)).1, (rg_ok (by simp; omega)).2, for_rng (n := (ts.map V.ref).length)
      (fun i σ H' => Fr [] H H' ∧ H' p = some (.lst ((Cir.spareL n (arcs.take i) (xs.take i)).map V.int)) ∧ ∃ o : Option V, σ = [some (.int (n : Int)), some (.ref a), some (.ref to), o, some (.ref p)])
      ⟨(Fr.refl [] H).new hp, upd_same, _, rfl⟩ ?_ ?_⟩
    · exact ((Fr.refl [] H).new hp).l hL
    · rintro i σ H' hi' ⟨e, h1, o, rfl⟩
      rw [List.length_map, hts] at hi'
      obtain ⟨t, _, e1, e2⟩ := hT i hi'
      have g := hgood i hi'
      have bd := N.bd i hi'
      have hX' := e _ _ hX (by simp)
      have len1 : (arcs.take i).length = (xs.take i).length := by rw [List.length_take, List.length_take, hlx]
      have i1 : (Cir.arcOf arcs i).1.toNat < (Cir.spareL n (arcs.take i) (xs.take i)).length := by rw [Cir.spareL_len]; have := g.1; omega
      have i2 : (Cir.arcOf arcs i).2.toNat < (Cir.spareL n (arcs.take i) (xs.take i)).length := by rw [Cir.spareL_len]; have := g.2.1; omega
      refine ⟨_, rfl, _, rfl, _, _, _, _, rfl, rfl, SqL.of hX', at_part (by omega), _, _, _, _, true, rfl, .ty _, .base (.int _), kit_ty (by decide +kernel), _, rfl, iteF ?_⟩
      refine ⟨_, rfl, _, rfl, _, _, _, _, rfl, rfl, SqL.of hX', at_part (by omega), _, _, _, _, false, rfl, .ty _, .base (.int _), kit_ty (by decide +kernel), _, rfl, iteF ?_⟩
      refine ⟨_, rfl, _, rfl, _, _, _, _, rfl, rfl, SqL.of hX', at_part (by omega), _, rfl, _, rfl, _, _, _, _, rfl, rfl, e.l hL, e1, _, _, _, _, rfl, rfl, e.t e2, rfl, _, _, rfl, rfl, _, rfl, dec_iff (fun z => by omega) fun _ => ?_⟩
      refine ⟨_, rfl, _, rfl, _, _, _, _, rfl, rfl, SqL.of hX', at_part (by omega), _, rfl, _, rfl, _, _, _, _, rfl, rfl, e.l hL, e1, _, _, _, _, rfl, rfl, e.t e2, rfl, _, _, rfl, rfl, _, rfl, dec_iff (fun z => by omega) fun _ => ?_⟩
      refine ⟨_, rfl, _, rfl, _, rfl, _, _, _, _, rfl, rfl, e.l hL, e1, _, _, _, _, rfl, rfl, e.t e2, rfl, ?_⟩
      refine ⟨_, _, _, _, rfl, rfl, SqL.of h1, at_int g.1.1 (by rw [List.getElem?_map, Cir.spareL_get g.1.1 g.1.2]; rfl), ?_⟩
      refine ⟨_, rfl, _, rfl, _, _, _, _, rfl, rfl, SqL.of hX', at_part (by omega), _, _, rfl, rfl, ?_⟩
      refine ⟨_, rfl, _, rfl, _, rfl, _, _, _, _, rfl, rfl, e.l hL, e1, _, _, _, _, rfl, rfl, e.t e2, rfl, ?_⟩
      refine ⟨_, _, _, _, rfl, rfl, h1, ix_int g.1.1 (by rw [List.length_map, Cir.spareL_len]; exact g.1.2), ?_⟩
      have e' : Fr [] H (upd H' p (.lst (((Cir.spareL n (arcs.take i) (xs.take i)).map V.int).set (Cir.arcOf arcs i).1.toNat (.int (Cir.net (arcs.take i) (xs.take i) (Cir.arcOf arcs i).1 - Cir.part xs i))))) := e.put (.inr np)
      have hX2 := e' _ _ hX (by simp)
      refine ⟨_, rfl, _, rfl, _, rfl, _, _, _, _, rfl, rfl, e'.l hL, e1, _, _, _, _, rfl, rfl, e'.t e2, rfl, ?_⟩
      refine ⟨_, _, _, _, rfl, rfl, SqL.of upd_same, at_int (v := V.int (Cir.net (arcs.take i) (xs.take i) (Cir.arcOf arcs i).2)) g.2.1.1 ?_, ?_⟩
      · rw [List.getElem?_set_ne (by have := g.1; have := g.2.1; have := g.2.2; omega), List.getElem?_map, Cir.spareL_get g.2.1.1 g.2.1.2]
        rfl
      refine ⟨_, rfl, _, rfl, _, _, _, _, rfl, rfl, SqL.of hX2, at_part (by omega), _, _, rfl, rfl, ?_⟩
      refine ⟨_, rfl, _, rfl, _, rfl, _, _, _, _, rfl, rfl, e'.l hL, e1, _, _, _, _, rfl, rfl, e'.t e2, rfl, ?_⟩
      refine ⟨_, _, _, _, rfl, rfl, upd_same, ix_int g.2.1.1 (by rw [List.length_set, List.length_map, Cir.spareL_len]; exact g.2.1.2), ?_⟩
      refine ⟨e'.put (.inr np), ?_, _, rfl⟩
      rw [upd_same]
      have st := Cir.spare_step (n := n) (x := Cir.part xs i) len1 g
      rw [take_succ (Cir.get_arc hi'), take_succ (Cir.get_part (by omega)), ← st, List.map_set, List.map_set]
    · rintro σ H1 ⟨e1, h1, o, rfl⟩
      rw [List.length_map, hts, List.take_length, hlx, List.take_length] at h1
      refine ⟨_, rfl, _, rfl, _, rfl, (rg_ok (by omega)).1, (rg_ok (by omega)).2, fun q hq => lc_rng (n := n) (fun i H2 => H2 = upd H1 q (.lst (List.replicate i (V.int 0)))) rfl ?_ ?_⟩
      · rintro i H2 hi rfl
        refine ⟨rfl, _, upd_same, ?_, ?_⟩
        · rw [List.length_replicate]
          exact len_lt (by omega)
        · rw [upd_upd, List.replicate_succ']
      rintro H2 rfl
      have e0 : Cir.spareL n arcs xs = List.replicate n 0 := by
        unfold Cir.spareL
        rw [List.eq_replicate_iff]
        refine ⟨by simp, fun z hz => ?_⟩
        obtain ⟨v, hv, rfl⟩ := List.mem_map.mp hz
        exact hb v (List.mem_range.mp hv)
      rw [e0] at h1
      refine ⟨dInts (List.replicate n 0), dInts (List.replicate n 0), dp_ints (SqL.of (by rw [upd_ne (ne_of_none h1 hq)]; exact h1)), dp_ints (SqL.of (by rw [upd_same, List.map_replicate])), ints_shaped _, ints_shaped _, ?_⟩
      rw [ints_eqv]
      exact k _ (e1.new hq)
end
/-! ### all sets of nodes -/
def nodesOf (n mask : Nat) : List Nat := (List.range n).filter fun k => decide (mask / 2 ^ k % 2 = 1)
theorem mask_of (p : Nat → Bool) : ∃ mask, mask < 64 ∧ ∀ k, k < 6 → decide (mask / 2 ^ k % 2 = 1) = p k := by
  have key : ∀ b0 b1 b2 b3 b4 b5 : Bool, (b0.toNat + 2 * b1.toNat + 4 * b2.toNat + 8 * b3.toNat + 16 * b4.toNat + 32 * b5.toNat < 64) ∧
      decide ((b0.toNat + 2 * b1.toNat + 4 * b2.toNat + 8 * b3.toNat + 16 * b4.toNat + 32 * b5.toNat) / 2 ^ 0 % 2 = 1) = b0 ∧
      decide ((b0.toNat + 2 * b1.toNat + 4 * b2.toNat + 8 * b3.toNat + 16 * b4.toNat + 32 * b5.toNat) / 2 ^ 1 % 2 = 1) = b1 ∧
      decide ((b0.toNat + 2 * b1.toNat + 4 * b2.toNat + 8 * b3.toNat + 16 * b4.toNat + 32 * b5.toNat) / 2 ^ 2 % 2 = 1) = b2 ∧
      decide ((b0.toNat + 2 * b1.toNat + 4 * b2.toNat + 8 * b3.toNat + 16 * b4.toNat + 32 * b5.toNat) / 2 ^ 3 % 2 = 1) = b3 ∧
      decide ((b0.toNat + 2 * b1.toNat + 4 * b2.toNat + 8 * b3.toNat + 16 * b4.toNat + 32 * b5.toNat) / 2 ^ 4 % 2 = 1) = b4 ∧
      decide ((b0.toNat + 2 * b1.toNat + 4 * b2.toNat + 8 * b3.toNat + 16 * b4.toNat + 32 * b5.toNat) / 2 ^ 5 % 2 = 1) = b5 := by decide
  obtain ⟨h, h0, h1, h2, h3, h4, h5⟩ := key (p 0) (p 1) (p 2) (p 3) (p 4) (p 5)
  refine ⟨_, h, fun k hk => ?_⟩
  match k, hk with
  | 0, _ => exact h0
  | 1, _ => exact h1
  | 2, _ => exact h2
  | 3, _ => exact h3
  | 4, _ => exact h4
  | 5, _ => exact h5
theorem excess_congr {n : Nat} {arcs : List Cir.Arc} {lo hi S S' : List Int} (hg : ∀ k, k < arcs.length → Cir.Good n (Cir.arcOf arcs k)) (h : ∀ v : Int, 0 ≤ v → v < n → (v ∈ S ↔ v ∈ S')) : Cir.excess arcs lo hi S = Cir.excess arcs lo hi S' := by
  unfold Cir.excess
  congr 1
  refine List.map_congr_left fun k hk => ?_
  have g := hg k (List.mem_range.mp hk)
  have h1 := h _ g.1.1 g.1.2
  have h2 := h _ g.2.1.1 g.2.1.2
  simp only [h1, h2]
theorem all_masks {n : Nat} {arcs : List Cir.Arc} {lo hi S : List Int} (hg : ∀ k, k < arcs.length → Cir.Good n (Cir.arcOf arcs k)) (hn : n ≤ 6) (h : ∀ m, m < 64 → ¬ 0 < Cir.excess arcs lo hi (Cir.ints_ (nodesOf n m))) : ¬ 0 < Cir.excess arcs lo hi S := by
  obtain ⟨m, hm, hb⟩ := mask_of fun k => decide ((k : Int) ∈ S)
  have := h m hm
  rw [excess_congr (S := S) (S' := Cir.ints_ (nodesOf n m)) hg ?_]
  · exact this
  · intro v h0 h1
    rw [Cir.mem_ints]
    constructor
    · intro hv
      refine ⟨v.toNat, ?_, by omega⟩
      unfold nodesOf
      rw [List.mem_filter, List.mem_range, hb _ (by omega)]
      refine ⟨by omega, decide_eq_true ?_⟩
      rw [Int.toNat_of_nonneg h0]
      exact hv
    · rintro ⟨k, hk, rfl⟩
      unfold nodesOf at hk
      rw [List.mem_filter, List.mem_range, hb _ (by omega)] at hk
      exact of_decide_eq_true hk.2
theorem nodes_nd (n m : Nat) : (Cir.ints_ (nodesOf n m)).Nodup := Cir.ints_nd (List.Pairwise.filter _ List.nodup_range)
theorem bit_at {k : Nat} (h : k < 6) : atI ([.int 1, .int 2, .int 4, .int 8, .int 16, .int 32] : List V) (k : Int) = some (.int ((2 ^ k : Nat) : Int)) := by
  match k, h with
  | 0, _ => rfl
  | 1, _ => rfl
  | 2, _ => rfl
  | 3, _ => rfl
  | 4, _ => rfl
  | 5, _ => rfl
def spBarred (K : PySem.W.Frag) : Sp := fun vs H Q _ => ∃ (n : Nat) (a : Addr) (arcs : List Cir.Arc) (lo hi : List Int), vs = [.int (n : Int), .ref a] ∧ NetAt K H a arcs lo hi ∧ n ≤ 6 ∧ (∀ k, k < arcs.length → Cir.Good n (Cir.arcOf arcs k)) ∧
  ∀ (b : Bool) (H' : Hp), Fr [] H H' → (b = true → ∃ S : List Int, S.Nodup ∧ 0 < Cir.excess arcs lo hi S) → (b = false → ∀ S, ¬ 0 < Cir.excess arcs lo hi S) → Q (.bl b) H'
section
variable {P : Program} {w : World} {K : PySem.W.Frag} {mg : Str → Option Value} {base : Heap}
theorem ok_law_barred {f : Addr} {fd : FuncData} (F : Fun K "_law_barred" "_law_barred" s_law_barred f fd) (T : Blt mg) (F_law_excess : FnB P w K mg base CX0 1 "_law_excess" ["arcs", "nodes"] (spExc K)) : FnOk P w K mg base CX0 2 f fd ["count", "arcs"] (spBarred K) := by
  refine F.ok sc_law_barred (fun vs H Q E h => ?_) (fun cdv A outer s H vs Q E hr h => ?_)
  · obtain ⟨n, a, arcs, lo, hi, rfl, _⟩ := h
    rfl
  · obtain ⟨n, a, arcs, lo, hi, rfl, hA, hn, hgood, k⟩ := h
    refine ⟨_, (pss_cons (ps_for PassesOwn.never rfl (pi_range1 (by rfl) T.m_range (pa_cons (pe_op op_pow pe_int pe_int) pa_nil)) (pg_name (i := 2) sc_law_barred.nd rfl (Or.inr rfl))
      (pss_cons (ps_setLc (i := 3) (own := [("k", 4)]) rfl sc_law_barred.nd rfl rfl (sw_true rfl rfl rfl (by decide +kernel)) (pi_range1 (by rfl) T.m_range (pa_cons (pv 0) pa_nil)) (blkOk_by (own := [("k", 4)]) (N := n_law_barred) (sc := defScope s_law_barred) (by decide +kernel)) (fun _ _ _ _ _ => (pg_name (i := 4) sc_law_barred.nd rfl (Or.inl rfl))) (fun _ _ _ _ _ => pts_one (pt_cmpR op_eq (pe_op op_mod (pe_callTy call_int1 (by rfl) T.m_int (by decide +kernel) (pa_cons (pe_op op_fdivW (pv 2) (pe_ix (r := rIxL K) ix_list (pe_lst (pa_cons pe_int (pa_cons pe_int (pa_cons pe_int (pa_cons pe_int (pa_cons pe_int (pa_cons pe_int pa_nil))))))) (pv 4) (fun _ _ => rfl))) pa_nil)) pe_int) pe_int (nomark _))) (fun _ _ _ _ _ => (pv 4)))
      (pss_one (ps_if (pt_cmpR op_gt (pe_callF F_law_excess (hr.mono (by decide)) rfl pass0 (pa_cons (pv 1) (pa_cons (pv 3) pa_nil))) pe_int (nomark _))
        (pss_one (ps_ret pe_bl))
        pss_nil))))
    (pss_one (ps_ret pe_bl))), ?_⟩
    refine ⟨_, _, rfl, rfl, ⟨by decide, by decide, by decide⟩, _, rfl, (rg_ok (n := 64) (by omega)).1, (rg_ok (n := 64) (by omega)).2, for_rng (n := 64)
      (fun i σ H' => Fr [] H H' ∧ (∀ m, m < i → ¬ 0 < Cir.excess arcs lo hi (Cir.ints_ (nodesOf n m))) ∧ ∃ o2 o3 o4 : Option V, σ = [some (.int (n : Int)), some (.ref a), o2, o3, o4])
      ⟨Fr.refl _ _, fun m hm => by omega, _, _, _, rfl⟩ ?_ ?_⟩
    · rintro i σ H1 hi' ⟨e1, hno, o2, o3, o4, rfl⟩
      refine ⟨_, rfl, _, rfl, (rg_ok (by omega)).1, (rg_ok (by omega)).2, fun D hD => lc_rng (n := n)
        (fun j H2 => Fr [] H H2 ∧ H2 D = some (.lst (((List.range j).filter fun k => decide (i / 2 ^ k % 2 = 1)).map vN))) ⟨e1.new hD, upd_same⟩ ?_ ?_⟩
      · rintro j H2 hj ⟨e2, hd⟩
        refine ⟨rfl, _, rfl, by show 6 ≤ sizeLine; decide, fun q hq => ⟨_, rfl, _, _, _, _, rfl, rfl, SqL.of upd_same, bit_at (by omega), _, _, rfl, rfl, ⟨?_, ?_⟩, .inl ⟨_, rfl, _, _, rfl, rfl, by show (0 : Int) < 2; decide, rfl, _, rfl, eq_if (fun c => ?_) fun c => ?_⟩⟩⟩
        · exact_mod_cast Nat.pow_pos (by decide)
        · refine log_ok ?_
          rw [Int.natAbs_natCast]
          exact Nat.pow_lt_pow_right (by decide) (by omega)
        · have hd2 : (upd H2 q (.lst [.int 1, .int 2, .int 4, .int 8, .int 16, .int 32])) D = some (.lst (((List.range j).filter fun k => decide (i / 2 ^ k % 2 = 1)).map vN)) := by rw [upd_ne (ne_of_none hd hq)]; exact hd
          have c : i / 2 ^ j % 2 = 1 := by exact_mod_cast c
          refine ⟨_, rfl, _, hd2, len_lt ?_, (e2.new hq).put (.inr (e1.free hD)), ?_⟩
          · rw [List.length_map]
            refine Nat.lt_of_le_of_lt (List.length_filter_le _ _) ?_
            rw [List.length_range]
            omega
          · rw [upd_same, filter_succ, if_pos (decide_eq_true c), List.map_append]
            rfl
        · have c : ¬ i / 2 ^ j % 2 = 1 := fun z => c (by exact_mod_cast z)
          refine ⟨e2.new hq, ?_⟩
          rw [upd_ne (ne_of_none hd hq), filter_succ, if_neg (by simpa using c), List.append_nil]
          exact hd
      rintro H2 ⟨e2, hd⟩
      have hd : H2 D = some (.lst ((Cir.ints_ (nodesOf n i)).map V.int)) := by
        rw [ints_map]
        exact hd
      refine ⟨_, rfl, _, rfl, a, D, arcs, lo, hi, Cir.ints_ (nodesOf n i), rfl, hA.fr e2, SqL.of hd, _, _, rfl, rfl, _, rfl, dec_iff (fun c => ?_) fun c => ?_⟩
      · exact k true H2 e2 (fun _ => ⟨_, nodes_nd n i, c⟩) (fun z => by cases z)
      · refine ⟨e2, fun m hm => ?_, _, _, _, rfl⟩
        by_cases d : m = i
        · rw [d]
          exact c
        · exact hno m (by omega)
    · rintro σ H1 ⟨e1, hno, o2, o3, o4, rfl⟩
      exact k false H1 e1 (fun z => by cases z) fun _ S => all_masks hgood hn hno
end
/-! ### a pinched set of nodes -/
theorem sum_map_add (f g : Nat → Int) : ∀ l : List Nat, (l.map fun k => f k + g k).sum = (l.map f).sum + (l.map g).sum
  | [] => rfl
  | a :: l => by
    rw [List.map_cons, List.map_cons, List.map_cons, List.sum_cons, List.sum_cons, List.sum_cons, sum_map_add f g l]
    omega
theorem sum_pt (at_ : Nat) : ∀ m : Nat, ((List.range m).map fun k => if k = at_ then (1 : Int) else 0).sum = if at_ < m then 1 else 0
  | 0 => by simp
  | m + 1 => by
    rw [List.range_succ, List.map_append, List.sum_append, sum_pt at_ m]
    by_cases c : m = at_
    · subst c
      simp
    · have : (at_ < m + 1) ↔ at_ < m := by omega
      simp [c, this]
theorem excess_pinch {arcs : List Cir.Arc} {lo hi x S : List Int} {at_ : Nat} (nd : S.Nodup) (hl : arcs.length = x.length) (hat : at_ < arcs.length) (he : (Cir.arcOf arcs at_).1 ∉ S ∧ (Cir.arcOf arcs at_).2 ∈ S)
    (h1 : ∀ k, k < arcs.length → (Cir.arcOf arcs k).1 ∉ S → (Cir.arcOf arcs k).2 ∈ S → Cir.part lo k = Cir.part x k + if k = at_ then 1 else 0) (h2 : ∀ k, k < arcs.length → (Cir.arcOf arcs k).1 ∈ S → (Cir.arcOf arcs k).2 ∉ S → Cir.part hi k = Cir.part x k)
    (bal : ∀ v, Cir.net arcs x v = 0) : Cir.excess arcs lo hi S = 1 := by
  have e1 := Cir.net_list S nd arcs x hl
  rw [Cir.netS_zero bal] at e1
  have e2 : Cir.excess arcs lo hi S = ((List.range arcs.length).map fun k => Cir.part x k * (Cir.inS S (Cir.arcOf arcs k).2 - Cir.inS S (Cir.arcOf arcs k).1) + if k = at_ then (1 : Int) else 0).sum := by
    unfold Cir.excess
    congr 1
    refine List.map_congr_left fun k hk => ?_
    have hk := List.mem_range.mp hk
    unfold Cir.inS
    by_cases c1 : (Cir.arcOf arcs k).1 ∈ S
    · have na : k ≠ at_ := fun z => he.1 (by rw [← z]; exact c1)
      by_cases c2 : (Cir.arcOf arcs k).2 ∈ S
      · simp [c1, c2, na]
      · rw [if_neg (fun z => c2 z.2), if_pos ⟨c1, c2⟩, if_neg c2, if_pos c1, if_neg na, h2 k hk c1 c2]
        omega
    · by_cases c2 : (Cir.arcOf arcs k).2 ∈ S
      · rw [if_pos ⟨c1, c2⟩, if_pos c2, if_neg c1, h1 k hk c1 c2]
        omega
      · have na : k ≠ at_ := fun z => c2 (by rw [z]; exact he.2)
        simp [c1, c2, na]
  rw [e2, sum_map_add, ← e1, sum_pt, if_pos hat]
  rfl
theorem asc_snoc {S : List Nat} {i : Nat} (h : S.Pairwise (· < ·)) (hb : ∀ k ∈ S, k < i) : (S ++ [i]).Pairwise (· < ·) ∧ ∀ k ∈ S ++ [i], k < i + 1 := by
  refine ⟨?_, fun k hk => ?_⟩
  · rw [List.pairwise_append]
    refine ⟨h, by simp, fun a ha b hb' => ?_⟩
    rw [List.mem_singleton] at hb'
    rw [hb']
    exact hb a ha
  · rcases List.mem_append.mp hk with hk | hk
    · have := hb k hk
      omega
    · rw [List.mem_singleton] at hk
      omega
/-- at a: a list of pairs of ints, the arcs of a drawn network -/
def PairAt (K : PySem.W.Frag) (H : Hp) (a : Addr) (as : List Cir.Arc) : Prop :=
  ∃ ts : List Addr, SqL K H a (ts.map V.ref) ∧ ts.length = as.length ∧ ∀ (k : Nat) (t : Addr), ts[k]? = some t → SqT K H t [.int (Cir.arcOf as k).1, .int (Cir.arcOf as k).2]
theorem PairAt.fr {K : PySem.W.Frag} {H H' : Hp} {a : Addr} {as : List Cir.Arc} (h : PairAt K H a as) (e : Fr [] H H') : PairAt K H' a as := by
  obtain ⟨ts, h1, h2, h3⟩ := h
  exact ⟨ts, e.l h1, h2, fun k t a => e.t (h3 k t a)⟩
theorem PairAt.at {K : PySem.W.Frag} {H : Hp} {a : Addr} {as : List Cir.Arc} (h : PairAt K H a as) : ∃ ts : List Addr, SqL K H a (ts.map V.ref) ∧ ts.length = as.length ∧
    ∀ k, k < as.length → ∃ t, ts[k]? = some t ∧ atI (ts.map V.ref) (k : Int) = some (.ref t) ∧ SqT K H t [.int (Cir.arcOf as k).1, .int (Cir.arcOf as k).2] := by
  obtain ⟨ts, h1, h2, h3⟩ := h
  refine ⟨ts, h1, h2, fun k hk => ?_⟩
  have e : ts[k]? = some (ts[k]'(by omega)) := List.getElem?_eq_getElem _
  exact ⟨_, e, at_map e, h3 k _ e⟩
/-- the bounds, in a list that is changed -/
def BndU (H : Hp) (bo : Addr) (us : List Addr) (lo hi : List Int) : Prop :=
  H bo = some (.lst (us.map V.ref)) ∧ us.length = lo.length ∧ hi.length = lo.length ∧ ∀ (k : Nat) (u : Addr), us[k]? = some u → H u = some (.tup [.int (Cir.part lo k), .int (Cir.part hi k)])
theorem BndU.fr {S : List Addr} {H H' : Hp} {bo : Addr} {us : List Addr} {lo hi : List Int} (h : BndU H bo us lo hi) (e : Fr S H H') (hb : bo ∉ S) (hS : ∀ a ∈ S, ∀ l, H a ≠ some (.tup l)) : BndU H' bo us lo hi := by
  obtain ⟨h1, h2, h3, h4⟩ := h
  exact ⟨e _ _ h1 hb, h2, h3, fun k u hu => e _ _ (h4 k u hu) fun z => hS u z _ (h4 k u hu)⟩
theorem BndU.put {H : Hp} {bo u : Addr} {us : List Addr} {lo hi : List Int} (h : BndU H bo us lo hi) (hu : H u = none) {k : Nat} (hk : k < lo.length) (y z : Int) :
    BndU (upd (upd H u (.tup [.int y, .int z])) bo (.lst ((us.map V.ref).set k (.ref u)))) bo (us.set k u) (lo.set k y) (hi.set k z) := by
  obtain ⟨h1, h2, h3, h4⟩ := h
  refine ⟨by rw [upd_same, List.map_set], by simp [h2], by simp [h3], fun j v hv => ?_⟩
  by_cases c : k = j
  · subst c
    rw [List.getElem?_set_self (by omega)] at hv
    rw [← Option.some.inj hv, upd_ne (ne_of_none h1 hu).symm, upd_same, Cir.part_set_same hk, Cir.part_set_same (by omega)]
  · rw [List.getElem?_set_ne c] at hv
    have z := h4 j v hv
    rw [upd_ne (ne_of z h1 (by intro y; cases y)), upd_ne (ne_of_none z hu), Cir.part_set_ne c, Cir.part_set_ne c]
    exact z
theorem BndU.at {H : Hp} {bo : Addr} {us : List Addr} {lo hi : List Int} (h : BndU H bo us lo hi) {k : Nat} (hk : k < lo.length) : ∃ u, atI (us.map V.ref) (k : Int) = some (.ref u) ∧ H u = some (.tup [.int (Cir.part lo k), .int (Cir.part hi k)]) := by
  obtain ⟨h1, h2, h3, h4⟩ := h
  have e : us[k]? = some (us[k]'(by omega)) := List.getElem?_eq_getElem _
  exact ⟨_, at_map e, h4 k _ e⟩
theorem sql_put {K : PySem.W.Frag} {H : Hp} {a q : Addr} {xs : List V} {o : HO} (h : SqL K H a xs) (n : a ≠ q) : SqL K (upd H q o) a xs := by
  rcases h with (h | ⟨o, h⟩) | h
  · exact .inl (.inl (by rw [upd_ne n]; exact h))
  · exact .inl (.inr ⟨o, by rw [upd_ne n]; exact h⟩)
  · exact .inr h
theorem sqt_put {K : PySem.W.Frag} {H : Hp} {a q : Addr} {xs ys : List V} {o : HO} (h : SqT K H a xs) (n : H q = some (.lst ys)) : SqT K (upd H q o) a xs := by
  rcases h with (h | ⟨o, h⟩) | h
  · exact .inl (.inl (by rw [upd_ne (ne_of h n (by intro z; cases z))]; exact h))
  · exact .inl (.inr ⟨o, by rw [upd_ne (ne_of h n (by intro z; cases z))]; exact h⟩)
  · exact .inr h
theorem PairAt.put {K : PySem.W.Frag} {H : Hp} {a q : Addr} {as : List Cir.Arc} {ys : List V} {o : HO} (h : PairAt K H a as) (n : a ≠ q) (hq : H q = some (.lst ys)) : PairAt K (upd H q o) a as := by
  obtain ⟨ts, h1, h2, h3⟩ := h
  exact ⟨ts, sql_put h1 n, h2, fun k t a => sqt_put (h3 k t a) hq⟩
def spPinched (K : PySem.W.Frag) : Sp := fun vs H Q _ => ∃ (b c : Addr) (n : Nat) (pa px bo : Addr) (us : List Addr) (as : List Cir.Arc) (xs lo hi : List Int), vs = [.ref b, .int (n : Int), .ref pa, .ref px, .ref bo] ∧ BagC H b c ∧ n ≤ 1000 ∧ PairAt K H pa as ∧ SqL K H px (xs.map V.int) ∧ BndU H bo us lo hi ∧
  as.length = xs.length ∧ lo.length = as.length ∧ as.length ≤ 10000 ∧ bo ≠ b ∧ bo ≠ c ∧ pa ≠ bo ∧ px ≠ bo ∧ pa ≠ b ∧ px ≠ b ∧ (∀ v, Cir.net as xs v = 0) ∧ (∀ k, k < as.length → Cir.part lo k ≤ Cir.part xs k ∧ Cir.part xs k ≤ Cir.part hi k) ∧
  (∀ H' : Hp, Fr [b, bo] H H' → BagC H' b c → BndU H' bo us lo hi → Q (.bl false) H') ∧
  (∀ (us' : List Addr) (lo' hi' S : List Int) (H' : Hp), Fr [b, bo] H H' → BagC H' b c → BndU H' bo us' lo' hi' → lo'.length = as.length → (∀ k, k < as.length → Cir.part lo' k ≤ Cir.part hi' k) → S.Nodup → 0 < Cir.excess as lo' hi' S → Q (.bl true) H')
theorem sql_frb {K : PySem.W.Frag} {H H' : Hp} {a q : Addr} {xs : List V} (h : SqL K H a xs) (e : Fr [q] H H') (n : a ≠ q) : SqL K H' a xs := by
  rcases h with (h | ⟨o, h⟩) | h
  · exact .inl (.inl (e _ _ h (by simpa using n)))
  · exact .inl (.inr ⟨o, e _ _ h (by simpa using n)⟩)
  · exact .inr h
theorem sqt_frb {K : PySem.W.Frag} {H H' : Hp} {a q : Addr} {xs ys : List V} (h : SqT K H a xs) (e : Fr [q] H H') (hq : H q = some (.lst ys)) : SqT K H' a xs := by
  rcases h with (h | ⟨o, h⟩) | h
  · exact .inl (.inl (e _ _ h (by simpa using ne_of h hq (by intro z; cases z))))
  · exact .inl (.inr ⟨o, e _ _ h (by simpa using ne_of h hq (by intro z; cases z))⟩)
  · exact .inr h
theorem PairAt.frb {K : PySem.W.Frag} {H H' : Hp} {a q : Addr} {as : List Cir.Arc} {ys : List V} (h : PairAt K H a as) (e : Fr [q] H H') (n : a ≠ q) (hq : H q = some (.lst ys)) : PairAt K H' a as := by
  obtain ⟨ts, h1, h2, h3⟩ := h
  exact ⟨ts, sql_frb h1 e n, h2, fun k t a => sqt_frb (h3 k t a) e hq⟩
structure PinU (K : PySem.W.Frag) (b c pa px bo D En : Addr) (H H' : Hp) (as : List Cir.Arc) (xs : List Int) (S2 : List Int) (EN : List Nat) (us : List Addr) (lo hi : List Int) : Prop where
  fr : Fr [b, bo] H H'
  bag : BagC H' b c
  pr : PairAt K H' pa as
  am : SqL K H' px (xs.map V.int)
  bn : BndU H' bo us lo hi
  ln : lo.length = as.length
  bd : ∀ k, k < as.length → Cir.part lo k ≤ Cir.part xs k ∧ Cir.part xs k ≤ Cir.part hi k
  hd : H' D = some (.lst (S2.map V.int))
  he : H' En = some (.lst (EN.map vN))
theorem PinU.put {K : PySem.W.Frag} {b c pa px bo D En u : Addr} {H H' : Hp} {as : List Cir.Arc} {xs : List Int} {S2 : List Int} {EN : List Nat} {us : List Addr} {lo hi : List Int} (h : PinU K b c pa px bo D En H H' as xs S2 EN us lo hi) (hu : H' u = none)
    (nbb : bo ≠ b) (nbc : bo ≠ c) (npa : pa ≠ bo) (npx : px ≠ bo) (nD : D ≠ bo) (nE : En ≠ bo) {k : Nat} (hk : k < as.length) {y z : Int} (hy : y ≤ Cir.part xs k) (hz : Cir.part xs k ≤ z) :
    PinU K b c pa px bo D En H (upd (upd H' u (.tup [.int y, .int z])) bo (.lst ((us.map V.ref).set k (.ref u)))) as xs S2 EN (us.set k u) (lo.set k y) (hi.set k z) := by
  have hb1 : (upd H' u (.tup [.int y, .int z])) bo = some (.lst (us.map V.ref)) := by rw [upd_ne (ne_of_none h.bn.1 hu)]; exact h.bn.1
  have f1 : Fr [] H' (upd H' u (.tup [.int y, .int z])) := (Fr.refl _ _).new hu
  refine ⟨?_, ?_, (h.pr.fr f1).put npa hb1, sql_put (f1.l h.am) npx, h.bn.put hu (by rw [h.ln]; exact hk) y z, by rw [List.length_set]; exact h.ln, fun j hj => ?_, ?_, ?_⟩
  · intro a o ha hn
    have z := h.fr a o ha hn
    simp only [List.mem_cons, List.not_mem_nil, or_false, not_or] at hn
    rw [upd_ne hn.2, upd_ne (ne_of_none z hu)]
    exact z
  · exact (h.bag.new hu).put nbb nbc
  · have hl := h.ln
    have hh := h.bn.2.2.1
    by_cases c : k = j
    · subst c
      rw [Cir.part_set_same (by omega), Cir.part_set_same (by omega)]
      exact ⟨hy, hz⟩
    · rw [Cir.part_set_ne c, Cir.part_set_ne c]
      exact h.bd j hj
  · rw [upd_ne nD, upd_ne (ne_of_none h.hd hu)]
    exact h.hd
  · rw [upd_ne nE, upd_ne (ne_of_none h.he hu)]
    exact h.he
theorem inNat {K : PySem.W.Frag} {H : Hp} {a : Addr} {k : Nat} {EN : List Nat} {Q : VK} (hS : SqL K H a (EN.map vN)) (q : Q (.bl (decide (k ∈ EN))) H) : rIn K false (.int (k : Int)) (.ref a) H Q := ⟨a, _, rfl, .inl hS, rfl, flat_nats EN, by rw [inV_nats]; exact q⟩
theorem BndU.stay {H : Hp} {bo q : Addr} {us : List Addr} {lo hi : List Int} {o : HO} (h : BndU H bo us lo hi) (hq : H q = none) : (upd H q o) bo = some (.lst (us.map V.ref)) := by
  rw [upd_ne (ne_of_none h.1 hq)]
  exact h.1
section
variable {P : Program} {w : World} {K : PySem.W.Frag} {mg : Str → Option Value} {base : Heap}
theorem ok_law_pinched {f : Addr} {fd : FuncData} (F : Fun K "_law_pinched" "_law_pinched" s_law_pinched f fd) (T : Blt mg) (F_law_take : FnB P w K mg base CX0 1 "_law_take" ["bag", "many"] spTake) :
    FnOk P w K mg base CX0 2 f fd ["bag", "count", "arcs", "amounts", "bounds"] (spPinched K) := by
  refine F.ok sc_law_pinched (fun vs H Q E h => ?_) (fun cdv A outer s H vs Q E hr h => ?_)
  · obtain ⟨b, c, n, pa, px, bo, us, as, xs, lo, hi, rfl, _⟩ := h
    rfl
  · obtain ⟨b, c, n, pa, px, bo, us, as, xs, lo, hi, rfl, hB, hn, hP, hX, hBn, hlx, hll, hl, nbb, nbc, npa, npx, npb, nxb, bal, hin, kF, kT⟩ := h
    refine ⟨_, (pss_cons (ps_set (i := 6) sc_law_pinched.nd rfl (Or.inr rfl) (pe_lc (own := [("k", 5)]) rfl sc_law_pinched.nd (pi_range1 (by rfl) T.m_range (pa_cons (pv 1) pa_nil)) (blkOk_by (own := [("k", 5)]) (N := n_law_pinched) (sc := defScope s_law_pinched) (by decide +kernel)) (fun _ _ _ _ _ => (pg_name (i := 5) sc_law_pinched.nd rfl (Or.inl rfl))) (fun _ _ _ _ _ => pts_one (pt_cmpR op_eq (pe_callF F_law_take (hr.mono (by decide)) rfl pass0 (pa_cons (pv 0) (pa_cons pe_int pa_nil))) pe_int (nomark _))) (fun _ _ _ _ _ => (pv 5))))
    (pss_cons (ps_setLc (i := 7) (own := [("k", 5)]) rfl sc_law_pinched.nd rfl rfl (sw_true rfl rfl rfl (by decide +kernel)) (pi_range1 (by rfl) T.m_range (pa_cons (pe_callB call_len_seq (by rfl) T.m_len (by decide +kernel) (pa_cons (pv 2) pa_nil)) pa_nil)) (blkOk_by (own := [("k", 5)]) (N := n_law_pinched) (sc := defScope s_law_pinched) (by decide +kernel)) (fun _ _ _ _ _ => (pg_name (i := 5) sc_law_pinched.nd rfl (Or.inl rfl))) (fun _ _ _ _ _ => pts_one (PW.pt (pw_and (pt_cmpR (op_notIn_seqK (K := K) rfl) (pe_ix (r := rIxT K) ix_tup (pe_ix (r := rIxL K) ix_list (pv 2) (pv 5) (fun _ _ => rfl)) pe_int (fun _ _ => rfl)) (pv 6) rfl) (pw_and1 (pt_cmpR (op_in_seqK (K := K) rfl) (pe_ix (r := rIxT K) ix_tup (pe_ix (r := rIxL K) ix_list (pv 2) (pv 5) (fun _ _ => rfl)) pe_int (fun _ _ => rfl)) (pv 6) rfl))))) (fun _ _ _ _ _ => (pv 5)))
    (pss_cons (ps_if (pt_cmpR op_eq (pe_callB call_len_seq (by rfl) T.m_len (by decide +kernel) (pa_cons (pv 7) pa_nil)) pe_int (nomark _))
      (pss_one (ps_ret pe_bl))
      pss_nil)
    (pss_cons (ps_for PassesOwn.never rfl (pi_range1 (by rfl) T.m_range (pa_cons (pe_callB call_len_seq (by rfl) T.m_len (by decide +kernel) (pa_cons (pv 2) pa_nil)) pa_nil)) (pg_name (i := 5) sc_law_pinched.nd rfl (Or.inl rfl))
      (Evl.pss_cut (ps_if (PW.pt (pw_and (pt_cmpR op_in_seq (pe_ix ix_tup (pe_ix ix_list (pv 2) (pv 5) (fun _ _ => rfl)) pe_int (fun _ _ => rfl)) (pv 6) rfl) (pw_and1 (pt_cmpR op_notIn_seq (pe_ix ix_tup (pe_ix ix_list (pv 2) (pv 5) (fun _ _ => rfl)) pe_int (fun _ _ => rfl)) (pv 6) rfl))))
        (pss_one (ps_asg (pe_tup (pa_cons (pe_ix ix_tup (pe_ix ix_list (pv 4) (pv 5) (fun _ _ => rfl)) pe_int (fun _ _ => rfl)) (pa_cons (pe_ix ix_list (pv 3) (pv 5) (fun _ _ => rfl)) pa_nil))) (pg_sub (pv 4) (pv 5) set_list)))
        pss_nil)
      (pss_one (ps_if (pt_cmpR op_in_seq (pv 5) (pv 7) rfl)
        (pss_one (ps_asg (pe_tup (pa_cons (pe_ix ix_list (pv 3) (pv 5) (fun _ _ => rfl)) (pa_cons (pe_callB (call_max2 rfl) (by rfl) T.m_max (by decide +kernel) (pa_cons (pe_ix ix_tup (pe_ix ix_list (pv 4) (pv 5) (fun _ _ => rfl)) pe_int (fun _ _ => rfl)) (pa_cons (pe_ix ix_list (pv 3) (pv 5) (fun _ _ => rfl)) pa_nil))) pa_nil))) (pg_sub (pv 4) (pv 5) set_list)))
        pss_nil))))
    (pss_cons (ps_set (i := 8) sc_law_pinched.nd rfl (Or.inl rfl) (pe_ix ix_list (pv 7) (pe_callF F_law_take (hr.mono (by decide)) rfl pass0 (pa_cons (pv 0) (pa_cons (pe_callB call_len_seq (by rfl) T.m_len (by decide +kernel) (pa_cons (pv 7) pa_nil)) pa_nil))) (fun _ _ => rfl)))
    (pss_cons (ps_asg (pe_tup (pa_cons (pe_op op_add (pe_ix ix_list (pv 3) (pv 8) (fun _ _ => rfl)) pe_int) (pa_cons (pe_callB (call_max2 rfl) (by rfl) T.m_max (by decide +kernel) (pa_cons (pe_ix ix_tup (pe_ix ix_list (pv 4) (pv 8) (fun _ _ => rfl)) pe_int (fun _ _ => rfl)) (pa_cons (pe_op op_add (pe_ix ix_list (pv 3) (pv 8) (fun _ _ => rfl)) pe_int) pa_nil))) pa_nil))) (pg_sub (pv 4) (pv 8) set_list))
    (pss_one (ps_ret pe_bl)))))))), ?_⟩
    obtain ⟨bi, bv, bs, hb0⟩ := hB.b
    -- nodes
    refine ⟨_, rfl, _, rfl, (rg_ok (by omega)).1, (rg_ok (by omega)).2, fun D hD => lc_rng (n := n)
      (fun i H2 => Fr [b] H H2 ∧ BagC H2 b c ∧ ∃ S : List Nat, H2 D = some (.lst (S.map vN)) ∧ S.Pairwise (· < ·) ∧ ∀ k ∈ S, k < i) ⟨((Fr.refl [b] H).new hD), hB.new hD, [], upd_same, List.Pairwise.nil, fun k h => by simp at h⟩ ?_ ?_⟩
    · rintro i H2 hi' ⟨e2, B2, S, hd, asc, bd⟩
      refine ⟨rfl, _, rfl, b, c, 2, rfl, B2, by decide, by decide, fun z H3 z0 z1 e3 B3 => ⟨rfl, _, rfl, eq_if (fun _ => ?_) fun _ => ?_⟩⟩
      · have hd3 := e3 _ _ hd (by rw [List.mem_singleton]; exact (hB.neb hD))
        refine ⟨_, rfl, _, hd3, len_lt ?_, (e2.trans e3).put (.inr hD), B3.put (hB.neb hD) (hB.nec hD), S ++ [i], ?_, (asc_snoc asc bd).1, (asc_snoc asc bd).2⟩
        · rw [List.length_map]
          have := Cir.nodup_le n (Cir.ints_ S) (Cir.ints_nd (asc.imp fun {a b} h => by omega)) fun v hv => by
            obtain ⟨k, hk, rfl⟩ := Cir.mem_ints.mp hv
            have := bd k hk
            omega
          simp [Cir.ints_] at this
          omega
        · rw [upd_same, List.map_append]
          rfl
      · have hd3 := e3 _ _ hd (by rw [List.mem_singleton]; exact (hB.neb hD))
        exact ⟨e2.trans e3, B3, S, hd3, asc, fun k hk => by have := bd k hk; omega⟩
    rintro H2 ⟨e2, B2, S, hd, asc, bd⟩
    have hd : H2 D = some (.lst ((Cir.ints_ S).map V.int)) := by
      rw [ints_map]
      exact hd
    have Snd : (Cir.ints_ S).Nodup := Cir.ints_nd (asc.imp fun {a b} h => by omega)
    revert hd Snd
    generalize Cir.ints_ S = S2
    intro hd Snd
    have hP2 := hP.frb e2 npb hb0
    obtain ⟨ts, hL, hts, hT⟩ := hP2.at
    -- entering
    refine ⟨_, rfl, _, _, rfl, .inl hL, _, rfl, (rg_ok (by rw [List.length_map]; omega)).1, (rg_ok (by rw [List.length_map]; omega)).2, fun En hEn => lc_rng (n := (ts.map V.ref).length)
      (fun i H3 => H3 = upd H2 En (.lst (((List.range i).filter fun k => decide ((Cir.arcOf as k).1 ∉ S2 ∧ (Cir.arcOf as k).2 ∈ S2)).map vN))) rfl ?_ ?_⟩
    · rintro i H3 hi' rfl
      rw [List.length_map, hts] at hi'
      obtain ⟨t, _, a1, a2⟩ := hT i hi'
      have f3 : Fr [] H2 (upd H2 En (.lst (((List.range i).filter fun k => decide ((Cir.arcOf as k).1 ∉ S2 ∧ (Cir.arcOf as k).2 ∈ S2)).map vN))) := (Fr.refl [] H2).new hEn
      have keep : ¬ ((Cir.arcOf as i).1 ∉ S2 ∧ (Cir.arcOf as i).2 ∈ S2) → (upd H2 En (.lst (((List.range i).filter fun k => decide ((Cir.arcOf as k).1 ∉ S2 ∧ (Cir.arcOf as k).2 ∈ S2)).map vN))) = upd H2 En (.lst (((List.range (i + 1)).filter fun k => decide ((Cir.arcOf as k).1 ∉ S2 ∧ (Cir.arcOf as k).2 ∈ S2)).map vN)) := fun z => by
        rw [filter_succ, if_neg (by simpa using z), List.append_nil]
      refine ⟨rfl, _, rfl, _, rfl, _, _, _, _, rfl, rfl, f3.l hL, a1, _, _, _, _, rfl, rfl, f3.t a2, rfl, _, rfl, notin_rd (SqL.of (f3 _ _ hd (by simp))) ⟨_, rfl, not_if (fun c1 => ⟨_, rfl, _, rfl, _, _, _, _, rfl, rfl, f3.l hL, a1, _, _, _, _, rfl, rfl, f3.t a2, rfl, _, rfl, in_rd (SqL.of (f3 _ _ hd (by simp))) ⟨_, rfl, dec_iff (fun c2 => ?_) fun c2 => ?_⟩⟩) fun c1 => ?_⟩⟩
      · refine ⟨_, rfl, _, upd_same, len_lt ?_, ?_⟩
        · rw [List.length_map]
          refine Nat.lt_of_le_of_lt (List.length_filter_le _ _) ?_
          rw [List.length_range]
          omega
        · rw [upd_upd, filter_succ, if_pos (decide_eq_true ⟨c1, c2⟩), List.map_append]
          rfl
      · exact keep fun z => c2 z.2
      · exact keep fun z => z.1 c1
    rintro H3 rfl
    rw [List.length_map, hts]
    have hEn0 : H En = none := fr_free e2 (B2.neb hEn) hEn
    have hD0 : H D = none := hD
    have hb2 : ∃ l, H2 b = some (.lst l) := by
      obtain ⟨i, v, s, z⟩ := B2.b
      exact ⟨_, z⟩
    have nDo : D ≠ bo := (ne_of_none hBn.1 hD).symm
    have nEo : En ≠ bo := (ne_of_none hBn.1 hEn0).symm
    generalize hEN : (List.range as.length).filter (fun k => decide ((Cir.arcOf as k).1 ∉ S2 ∧ (Cir.arcOf as k).2 ∈ S2)) = EN
    have memE : ∀ k, k ∈ EN ↔ k < as.length ∧ (Cir.arcOf as k).1 ∉ S2 ∧ (Cir.arcOf as k).2 ∈ S2 := fun k => by
      rw [← hEN, List.mem_filter, List.mem_range, decide_eq_true_eq]
    have f3 : Fr [] H2 (upd H2 En (.lst (EN.map vN))) := (Fr.refl [] H2).new hEn
    have U : PinU K b c pa px bo D En H (upd H2 En (.lst (EN.map vN))) as xs S2 EN us lo hi := by
      refine ⟨(e2.sub (by simp)).trans (f3.sub (by simp)), B2.new hEn, hP2.fr f3, f3.l (sql_frb hX e2 nxb), ?_, hll, hin, f3 _ _ hd (by simp), upd_same⟩
      exact (hBn.fr e2 (by simpa using nbb) (fun a ha l z => by
        rw [List.mem_singleton] at ha
        rw [ha, hb0] at z
        cases z)).fr f3 (by simp) (fun a ha => by simp at ha)
    show tSeq _ _ _ _ (upd H2 En (.lst (EN.map vN)))
    revert U
    generalize upd H2 En (.lst (EN.map vN)) = H3
    intro U
    refine ⟨_, rfl, _, _, rfl, .inl (SqL.of U.he), rfl, _, rfl, eq_if (fun _ => ?_) fun hne => ?_⟩
    · exact kF H3 U.fr U.bag U.bn
    rw [List.length_map] at hne
    -- the bounds
    obtain ⟨ts3, hL3, hts3, hT3⟩ := U.pr.at
    refine ⟨_, rfl, _, _, rfl, .inl hL3, _, rfl, (rg_ok (by rw [List.length_map]; omega)).1, (rg_ok (by rw [List.length_map]; omega)).2, for_rng (n := (ts3.map V.ref).length)
      (fun i σ H' => ∃ (us : List Addr) (lo hi : List Int), PinU K b c pa px bo D En H H' as xs S2 EN us lo hi ∧ (∀ j, j < as.length → j < i → (Cir.arcOf as j).1 ∈ S2 → (Cir.arcOf as j).2 ∉ S2 → Cir.part hi j = Cir.part xs j) ∧ (∀ j, j < as.length → j < i → (Cir.arcOf as j).1 ∉ S2 → (Cir.arcOf as j).2 ∈ S2 → Cir.part lo j = Cir.part xs j) ∧
        ∃ o5 o8 : Option V, σ = [some (.ref b), some (.int (n : Int)), some (.ref pa), some (.ref px), some (.ref bo), o5, some (.ref D), some (.ref En), o8])
      ⟨us, lo, hi, U, fun j _ hj => by omega, fun j _ hj => by omega, _, _, rfl⟩ ?_ ?_⟩
    · clear U hin hll hBn hL3 hT3
      rintro i σ H4 hi' ⟨us, lo, hi, U, hlv, hen, o5, o8, rfl⟩
      rw [List.length_map, hts3] at hi'
      obtain ⟨ts4, hL4, hts4, hT4⟩ := U.pr.at
      obtain ⟨t, _, a1, a2⟩ := hT4 i hi'
      have hxi : i < xs.length := by omega
      have bdi := U.bd i hi'
      refine ⟨fun σ' H' => ∃ (us : List Addr) (lo hi : List Int), PinU K b c pa px bo D En H H' as xs S2 EN us lo hi ∧ (∀ j, j < as.length → j < i + 1 → (Cir.arcOf as j).1 ∈ S2 → (Cir.arcOf as j).2 ∉ S2 → Cir.part hi j = Cir.part xs j) ∧ (∀ j, j < as.length → j < i → (Cir.arcOf as j).1 ∉ S2 → (Cir.arcOf as j).2 ∈ S2 → Cir.part lo j = Cir.part xs j) ∧
        σ' = [some (.ref b), some (.int (n : Int)), some (.ref pa), some (.ref px), some (.ref bo), some (.int (i : Int)), some (.ref D), some (.ref En), o8], ?_, ?_⟩
      · have no : ¬ ((Cir.arcOf as i).1 ∈ S2 ∧ (Cir.arcOf as i).2 ∉ S2) → ∃ (us : List Addr) (lo hi : List Int), PinU K b c pa px bo D En H H4 as xs S2 EN us lo hi ∧ (∀ j, j < as.length → j < i + 1 → (Cir.arcOf as j).1 ∈ S2 → (Cir.arcOf as j).2 ∉ S2 → Cir.part hi j = Cir.part xs j) ∧ (∀ j, j < as.length → j < i → (Cir.arcOf as j).1 ∉ S2 → (Cir.arcOf as j).2 ∈ S2 → Cir.part lo j = Cir.part xs j) ∧
            ([some (.ref b), some (.int (n : Int)), some (.ref pa), some (.ref px), some (.ref bo), some (.int (i : Int)), some (.ref D), some (.ref En), o8] : List (Option V)) = [some (.ref b), some (.int (n : Int)), some (.ref pa), some (.ref px), some (.ref bo), some (.int (i : Int)), some (.ref D), some (.ref En), o8] := fun z => by
          refine ⟨us, lo, hi, U, fun j hj hji c1 c2 => ?_, hen, rfl⟩
          by_cases d : j = i
          · rw [d] at c1 c2
            exact absurd ⟨c1, c2⟩ z
          · exact hlv j hj (by omega) c1 c2
        refine ⟨_, rfl, _, rfl, _, _, _, _, rfl, rfl, hL4, a1, _, _, _, _, rfl, rfl, a2, rfl, _, rfl, in_rd (SqL.of U.hd) ⟨_, rfl, dec_iff (fun c1 => ⟨_, rfl, _, rfl, _, _, _, _, rfl, rfl, hL4, a1, _, _, _, _, rfl, rfl, a2, rfl, _, rfl, notin_rd (SqL.of U.hd) ⟨_, rfl, not_if (fun c2 => ?_) fun c2 => no fun z => z.2 c2⟩⟩) fun c1 => no fun z => c1 z.1⟩⟩
        obtain ⟨u, u1, u2⟩ := U.bn.at (k := i) (by rw [U.ln]; exact hi')
        refine ⟨_, rfl, _, rfl, _, _, _, _, rfl, rfl, SqL.of U.bn.1, u1, _, _, _, _, rfl, rfl, SqT.of u2, rfl, _, rfl, _, rfl, _, _, _, _, rfl, rfl, U.am, at_part hxi, by show 2 ≤ sizeLine; decide, fun q hq => ⟨_, rfl, _, rfl, _, _, _, _, rfl, rfl, U.bn.stay hq, ix_nat (by rw [List.length_map, U.bn.2.1, U.ln]; exact hi'), ?_⟩⟩
        · have hll := U.ln
          have hh := U.bn.2.2.1
          refine ⟨_, _, _, U.put hq nbb nbc npa npx nDo nEo hi' bdi.1 (Int.le_refl _), fun j hj hji d1 d2 => ?_, fun j hj hji d1 d2 => ?_, rfl⟩
          · by_cases d : i = j
            · subst d
              rw [Cir.part_set_same (by omega)]
            · rw [Cir.part_set_ne d]
              exact hlv j hj (by omega) d1 d2
          · rw [Cir.part_set_ne (by omega)]
            exact hen j hj hji d1 d2
      clear U hlv hen hL4 hT4 bdi a1 a2
      rintro σ' H5 ⟨us, lo, hi, U, hlv, hen, rfl⟩
      have bdi := U.bd i hi'
      refine ⟨_, rfl, _, rfl, inNat (SqL.of U.he) ⟨_, rfl, dec_iff (fun c => ?_) fun c => ?_⟩⟩
      · obtain ⟨_, c1, c2⟩ := (memE i).mp c
        obtain ⟨u, u1, u2⟩ := U.bn.at (k := i) (by rw [U.ln]; exact hi')
        refine ⟨_, rfl, _, rfl, _, _, _, _, rfl, rfl, U.am, at_part hxi, _, rfl, _, rfl, _, _, _, _, rfl, rfl, SqL.of U.bn.1, u1, _, _, _, _, rfl, rfl, SqT.of u2, rfl, _, rfl, _, rfl, _, _, _, _, rfl, rfl, U.am, at_part hxi, _, _, rfl, by show 2 ≤ sizeLine; decide, fun q hq => ⟨_, rfl, _, rfl, _, _, _, _, rfl, rfl, U.bn.stay hq, ix_nat (by rw [List.length_map, U.bn.2.1, U.ln]; exact hi'), ?_⟩⟩
        · have hll := U.ln
          have hh := U.bn.2.2.1
          refine ⟨_, _, _, U.put hq nbb nbc npa npx nDo nEo hi' (Int.le_refl _) (z := if Cir.part xs i > Cir.part hi i then Cir.part xs i else Cir.part hi i) (by split <;> omega), fun j hj hji d1 d2 => ?_, fun j hj hji d1 d2 => ?_, _, _, rfl⟩
          · by_cases d : i = j
            · subst d
              exact absurd d1 c1
            · rw [Cir.part_set_ne d]
              exact hlv j hj hji d1 d2
          · by_cases d : i = j
            · subst d
              rw [Cir.part_set_same (by omega)]
            · rw [Cir.part_set_ne d]
              exact hen j hj (by omega) d1 d2
      · refine ⟨us, lo, hi, U, hlv, fun j hj hji d1 d2 => ?_, _, _, rfl⟩
        by_cases d : j = i
        · subst d
          exact absurd ((memE j).mpr ⟨hj, d1, d2⟩) c
        · exact hen j hj (by omega) d1 d2
    · clear U hin hll hBn hL3 hT3
      rintro σ H4 ⟨us, lo, hi, U, hlv, hen, o5, o8, rfl⟩
      rw [List.length_map, hts3] at hlv hen
      -- at
      have epos : (0 : Int) < ((EN.map vN).length : Nat) := by
        rw [List.length_map]
        omega
      have elen : EN.length ≤ as.length := by
        rw [← hEN]
        exact Nat.le_trans (List.length_filter_le _ _) (by rw [List.length_range]; exact Nat.le_refl _)
      refine ⟨_, rfl, _, rfl, _, rfl, _, _, rfl, .inl (SqL.of U.he), b, c, _, rfl, U.bag, epos, log_ok ?_, fun z H5 z0 z1 e5 B5 => ?_⟩
      · rw [List.length_map]
        exact Nat.lt_of_le_of_lt (show _ ≤ 10000 by omega) (by decide)
      rw [List.length_map] at z1
      obtain ⟨zn, rfl⟩ : ∃ zn : Nat, z = (zn : Int) := ⟨z.toNat, by omega⟩
      have zl : zn < EN.length := by omega
      have hz1 : EN[zn]? = some EN[zn] := List.getElem?_eq_getElem zl
      have hz2 := (memE EN[zn]).mp (List.getElem_mem zl)
      revert hz1 hz2
      generalize EN[zn] = at_
      intro hz1 hz2
      obtain ⟨hatl, c1, c2⟩ := hz2
      have hxa : at_ < xs.length := by omega
      obtain ⟨bi4, bv4, bs4, hb4⟩ := U.bag.b
      have U5 : PinU K b c pa px bo D En H H5 as xs S2 EN us lo hi := by
        refine ⟨U.fr.trans (e5.sub (by simp)), B5, U.pr.frb e5 npb hb4, sql_frb U.am e5 nxb, U.bn.fr e5 (by simpa using nbb) (fun a ha l z => by
          rw [List.mem_singleton] at ha
          rw [ha, hb4] at z
          cases z), U.ln, U.bd, e5 _ _ U.hd (by rw [List.mem_singleton]; exact hB.neb hD), e5 _ _ U.he (by rw [List.mem_singleton]; exact hB.neb hEn0)⟩
      have bda := U5.bd at_ hatl
      obtain ⟨u, u1, u2⟩ := U5.bn.at (k := at_) (by rw [U5.ln]; exact hatl)
      refine ⟨_, _, _, _, rfl, rfl, SqL.of U5.he, at_map (f := vN) hz1, ?_⟩
      refine ⟨_, rfl, _, rfl, _, _, _, _, rfl, rfl, U5.am, at_part hxa, _, _, rfl, rfl, _, rfl, _, rfl, _, _, _, _, rfl, rfl, SqL.of U5.bn.1, u1, _, _, _, _, rfl, rfl, SqT.of u2, rfl, _, rfl, _, rfl, _, _, _, _, rfl, rfl, U5.am, at_part hxa, _, _, rfl, rfl, _, _, rfl, by show 2 ≤ sizeLine; decide, fun q hq => ⟨_, rfl, _, rfl, _, _, _, _, rfl, rfl, U5.bn.stay hq, ix_nat (by rw [List.length_map, U5.bn.2.1, U5.ln]; exact hatl), ?_⟩⟩
      have hll := U5.ln
      have hh := U5.bn.2.2.1
      have hbb := U5.bn.put hq (k := at_) (by rw [hll]; exact hatl) (Cir.part xs at_ + 1) (if Cir.part xs at_ + 1 > Cir.part hi at_ then Cir.part xs at_ + 1 else Cir.part hi at_)
      have hex : Cir.excess as (lo.set at_ (Cir.part xs at_ + 1)) (hi.set at_ (if Cir.part xs at_ + 1 > Cir.part hi at_ then Cir.part xs at_ + 1 else Cir.part hi at_)) S2 = 1 := by
        refine excess_pinch Snd hlx hatl ⟨c1, c2⟩ (fun k hk d1 d2 => ?_) (fun k hk d1 d2 => ?_) bal
        · by_cases d : at_ = k
          · subst d
            rw [Cir.part_set_same (by omega), if_pos rfl]
          · rw [Cir.part_set_ne d, if_neg (fun z => d z.symm), Int.add_zero]
            exact hen k hk hk d1 d2
        · have d : at_ ≠ k := fun z => c1 (by rw [z]; exact d1)
          rw [Cir.part_set_ne d]
          exact hlv k hk hk d1 d2
      refine kT _ _ _ S2 _ ?_ ?_ hbb (by rw [List.length_set]; exact hll) (fun k hk => ?_) Snd (by rw [hex]; decide)
      · intro a o ha hn
        have z := U5.fr a o ha hn
        simp only [List.mem_cons, List.not_mem_nil, or_false, not_or] at hn
        rw [upd_ne hn.2, upd_ne (ne_of_none z hq)]
        exact z
      · exact (U5.bag.new hq).put nbb nbc
      · by_cases d : at_ = k
        · subst d
          rw [Cir.part_set_same (by omega), Cir.part_set_same (by omega)]
          split <;> omega
        · rw [Cir.part_set_ne d, Cir.part_set_ne d]
          have := U5.bd k hk
          omega
end
/-! ### errors -/
/-- what the classes of errors answer -/
structure IsX (K : PySem.W.Frag) (C : Addr) : Prop where
  c : PySem.W.findIn K (.ref C) "__class__" = some (some (.builtin "object.__class__"))
  m : PySem.W.mroIn K C (.type "object") = some true
structure TxtL (P : Program) (K : PySem.W.Frag) (mg : Str → Option Value) (CD CA CB : Addr) : Prop extends Txt P K mg CA CB where
  h1 : PySem.W.specialIn K (.builtin "object.__class__") "__get__" = some (some (.builtin "getset_descriptor.__get__"))
  h2 : PySem.W.takesIn K (.builtin "object.__class__") = some true
  g_DealError : mg "DealError" = some (.ref CD)
  iA : IsX K CA
  kAD : PySem.W.kitOne K (.ref CA) (.ref CD) = some true
theorem bad_uniq {n : Nat} {arcs : List Cir.Arc} {lo hi : List Int} {k k' : Nat} (h : Bad n arcs lo hi k) (h' : Bad n arcs lo hi k') : k = k' := by
  rcases Nat.lt_trichotomy k k' with z | z | z
  · exact absurd (h'.2.2 k z) h.2.1
  · exact z
  · exact absurd (h.2.2 k' z) h'.2.1
theorem bad_not {n : Nat} {arcs : List Cir.Arc} {lo hi : List Int} {k : Nat} (h : Bad n arcs lo hi k) : ¬ GoodN n arcs lo hi := fun z => h.2.1 (z k h.1)
def spError (K : PySem.W.Frag) : Sp := fun vs H Q _ => ∃ (which : Int) (n : Nat) (a : Addr) (arcs : List Cir.Arc) (lo hi : List Int) (k : Nat), vs = [.int which, .int (n : Int), .ref a] ∧ NetAt K H a arcs lo hi ∧ arcs.length ≤ 10000 ∧ n < 64 ∧ Bad n arcs lo hi k ∧
  ∀ (p : Addr) (H' : Hp), Fr [] H H' → H' p = some (.lst [.int (k : Int), .bl true]) → Q (.ref p) H'
section
variable {P : Program} {w : World} {K : PySem.W.Frag} {mg : Str → Option Value} {base : Heap} {CD CA CB : Addr}
theorem ok_law_error {f : Addr} {fd : FuncData} (F : Fun K "_law_error" "_law_error" s_law_error f fd) (T : TxtL P K mg CD CA CB) (F_circulation : FnB P w K mg base (L2.CX P w) 4 "circulation" ["count", "arcs"] (spCirc K CA))
    (F_cut_holds : FnB P w K mg base (L2.CX P w) 3 "cut_holds" ["count", "arcs", "nodes"] (spHolds K CA)) : FnOk P w K mg base CX0 5 f fd ["which", "count", "arcs"] (spError K) := by
  refine F.ok sc_law_error (fun vs H Q E h => ?_) (fun cdv A outer s H vs Q E hr h => ?_)
  · obtain ⟨which, n, a, arcs, lo, hi, k0, rfl, _⟩ := h
    rfl
  · obtain ⟨which, n, a, arcs, lo, hi, k0, rfl, hA, hl, hn, hbad, k⟩ := h
    obtain ⟨fA, TA⟩ := T.arc
    have TXA := xfB_ok TA.xf
    have TNA := TA.noF "arc" (by simp)
    refine ⟨_, (Evl.pss_cut (ps_try_gen rfl rfl sc_law_error.nd takes0
      (fun W pn xe tk po => (pss_one (ps_if (pt_cmpR op_eq (pv 0) pe_int (nomark _))
        (pss_one (ps_expr (pe_callFS F_circulation (hr.mono (by decide)) rfl (fun σ => passAt tk σ) (pa_cons (pv 1) (pa_cons (pv 2) pa_nil)))))
        (pss_one (ps_expr (pe_callFS F_cut_holds (hr.mono (by decide)) rfl (fun σ => passAt tk σ) (pa_cons (pv 1) (pa_cons (pv 2) (pa_cons (pe_lst (pa_cons pe_int pa_nil)) pa_nil)))))))))
      (HdsG.named (i := 3) ⟨rfl, by decide, .inl TA.gC⟩ rfl rfl (fun a oe cls d pn hz hf => (pss_one (ps_ret (pe_lst (pa_cons (pe_xf TXA TNA hz hf (pv 3)) (pa_cons (pe_callB (call_isX T.h1 T.h2 hz hf) (by rfl) T.m_isinstance (by decide +kernel) (pa_cons (pv 3) (pa_cons (pe_glob (v := .ref _) rfl T.g_DealError rfl) pa_nil))) pa_nil)))))) HdsG.nil))
    (pss_one (ps_ret pe_non))), ?_⟩
    refine ⟨fun σ' H' => False, ?_, fun σ' H' z => z.elim⟩
    refine ⟨_, rfl, rfl, _, rfl, eq_if (fun _ => ?_) fun _ => ?_⟩
    · refine ⟨_, rfl, _, rfl, n, a, arcs, lo, hi, rfl, hA, hl, hn, fun hg => absurd hg (bad_not hbad), fun k1 hb dd H1 e1 hx => ?_⟩
      cases bad_uniq hbad hb
      refine ⟨true, TA.te, fun _ e0 he0 => ?_, fun z => by cases z⟩
      refine ⟨_, rfl, rfl, rfl, dd, _, _, rfl, hx, rfl, ?_⟩
      refine ⟨_, rfl, CA, dd, _, _, .ref CD, true, rfl, rfl, rfl, (fun u h => h), T.kAD, hx, ⟨T.iA.c, T.iA.m, TA.xf⟩, ?_⟩
      refine ⟨by show 2 ≤ sizeLine; decide, fun p hp => ?_⟩
      exact k p _ (e1.new hp) upd_same
    · refine ⟨_, rfl, _, rfl, by show 1 ≤ sizeLine; decide, fun q hq => ⟨n, a, q, arcs, lo, hi, [0], rfl, hA.fr ((Fr.refl [] H).new hq), SqL.of upd_same, hl, by simp, fun hg => absurd hg (bad_not hbad), fun k1 hb dd H1 e1 hx => ?_⟩⟩
      cases bad_uniq hbad hb
      have e1 := ((Fr.refl [] H).new (o := .lst [.int 0]) hq).trans e1
      refine ⟨true, TA.te, fun _ e0 he0 => ?_, fun z => by cases z⟩
      refine ⟨_, rfl, rfl, rfl, dd, _, _, rfl, hx, rfl, ?_⟩
      refine ⟨_, rfl, CA, dd, _, _, .ref CD, true, rfl, rfl, rfl, (fun u h => h), T.kAD, hx, ⟨T.iA.c, T.iA.m, TA.xf⟩, ?_⟩
      refine ⟨by show 2 ≤ sizeLine; decide, fun p hp => ?_⟩
      exact k p _ (e1.new hp) upd_same
end
/-! ### cuts judged -/
theorem NetAt.frb {K : PySem.W.Frag} {H H' : Hp} {a q : Addr} {arcs : List Cir.Arc} {lo hi : List Int} {ys : List V} (h : NetAt K H a arcs lo hi) (e : Fr [q] H H') (n : a ≠ q) (hq : H q = some (.lst ys)) : NetAt K H' a arcs lo hi := by
  obtain ⟨ts, h1, h2, h3, h4, h5⟩ := h
  exact ⟨ts, sql_frb h1 e n, h2, h3, h4, fun k t a => sqt_frb (h5 k t a) e hq⟩
theorem asc_last {n last : Int} : ∀ {l : List Int} {v : Int}, ascF n last (l ++ [v]) = true → ∀ u ∈ l, u < v
  | [], _, _, u, hu => by simp at hu
  | x :: l, v, h, u, hu => by
    rw [List.cons_append, ascF, Bool.and_eq_true, Bool.and_eq_true] at h
    have ih := asc_last h.2.2
    rcases List.mem_cons.mp hu with rfl | hu
    · cases l with
      | nil =>
        have := h.2.2
        rw [List.nil_append, ascF, Bool.and_eq_true] at this
        exact of_decide_eq_true this.1
      | cons y l =>
        have h2 := h.2.2
        rw [List.cons_append, ascF, Bool.and_eq_true] at h2
        have := of_decide_eq_true h2.1
        have := ih y List.mem_cons_self
        omega
    · exact ih u hu
theorem asc_in {n last : Int} : ∀ {l : List Int}, ascF n last l = true → ∀ u ∈ l, u < n
  | [], _, u, hu => by simp at hu
  | x :: l, h, u, hu => by
    rw [ascF, Bool.and_eq_true, Bool.and_eq_true] at h
    rcases List.mem_cons.mp hu with rfl | hu
    · exact of_decide_eq_true h.2.1
    · exact asc_in h.2.2 u hu
theorem cutF_no {n : Nat} {arcs : List Cir.Arc} {lo hi nodes : List Int} (h : ¬ ascF n (-1) nodes = true) : cutF n arcs lo hi nodes = false := by
  unfold cutF
  cases e : ascF n (-1) nodes with
  | true => exact absurd e h
  | false => rfl
/-- lists of ints that stand in a list -/
def RowsAt (H : Hp) (tr : Addr) (b : Addr) (m : Nat) : Prop := ∃ rs : List Addr, H tr = some (.lst (rs.map V.ref)) ∧ rs.length ≤ m ∧ ∀ r ∈ rs, r ≠ b ∧ r ≠ tr ∧ ∃ row : List Int, row.length ≤ 1000 ∧ H r = some (.lst (row.map V.int))
theorem RowsAt.frb {H H' : Hp} {tr b : Addr} {m : Nat} (h : RowsAt H tr b m) (e : Fr [b] H H') (ht : tr ≠ b) : RowsAt H' tr b m := by
  obtain ⟨rs, h1, h2, h3⟩ := h
  refine ⟨rs, e _ _ h1 (by simpa using ht), h2, fun r hr => ?_⟩
  obtain ⟨n, n2, row, z1, z2⟩ := h3 r hr
  exact ⟨n, n2, row, z1, e _ _ z2 (by simpa using n)⟩
theorem RowsAt.snoc {H H2 : Hp} {tr b r : Addr} {m : Nat} {rs : List Addr} (e : Fr [b] H H2) (ht : tr ≠ b) (h1 : H tr = some (.lst (rs.map V.ref))) (h2 : rs.length ≤ m) (h3 : ∀ r ∈ rs, r ≠ b ∧ r ≠ tr ∧ ∃ row : List Int, row.length ≤ 1000 ∧ H r = some (.lst (row.map V.int)))
    (hr : r ≠ tr) (hb : r ≠ b) {row : List Int} (hl : row.length ≤ 1000) (hrow : H2 r = some (.lst (row.map V.int))) : RowsAt (upd H2 tr (.lst (rs.map V.ref ++ [.ref r]))) tr b (m + 1) := by
  refine ⟨rs ++ [r], by rw [upd_same, List.map_append]; rfl, by simp; omega, fun q hq => ?_⟩
  rcases List.mem_append.mp hq with hq | hq
  · obtain ⟨n, n2, row, z1, z2⟩ := h3 q hq
    exact ⟨n, n2, row, z1, by rw [upd_ne n2]; exact e _ _ z2 (by simpa using n)⟩
  · rw [List.mem_singleton] at hq
    subst hq
    exact ⟨hb, hr, row, hl, by rw [upd_ne hr]; exact hrow⟩
def spJudged (K : PySem.W.Frag) : Sp := fun vs H Q _ => ∃ (b c : Addr) (n : Nat) (a ns : Addr) (arcs : List Cir.Arc) (lo hi nodes : List Int), vs = [.ref b, .int (n : Int), .ref a, .ref ns] ∧ BagC H b c ∧ NetAt K H a arcs lo hi ∧ H ns = some (.lst (nodes.map V.int)) ∧ a ≠ b ∧ ns ≠ b ∧ arcs.length ≤ 1000 ∧ 2 ≤ n ∧ n < 64 ∧
  GoodN n arcs lo hi ∧ nodes.Pairwise (· < ·) ∧ (∀ v ∈ nodes, 0 ≤ v ∧ v < n) ∧ ∀ H' : Hp, Fr [b] H H' → BagC H' b c → Q (.bl true) H'
theorem NetAt.copy {K : PySem.W.Frag} {H : Hp} {a : Addr} {arcs : List Cir.Arc} {lo hi : List Int} (h : NetAt K H a arcs lo hi) : ∃ ys : List V, SqL K H a ys ∧ ys.length = arcs.length ∧ ∀ l, H l = none → NetAt K (upd H l (.lst ys)) l arcs lo hi := by
  obtain ⟨ts, h1, h2, h3, h4, h5⟩ := h
  exact ⟨_, h1, by rw [List.length_map]; exact h2, fun l hl => ⟨ts, SqL.of upd_same, h2, h3, h4, fun k t ht => ((Fr.refl [] H).new hl).t (h5 k t ht)⟩⟩
section
variable {P : Program} {w : World} {K : PySem.W.Frag} {mg : Str → Option Value} {base : Heap} {CA : Addr}
theorem ok_law_judged {f : Addr} {fd : FuncData} (F : Fun K "_law_judged" "_law_judged" s_law_judged f fd) (T : Blt mg) (F_law_take : FnB P w K mg base CX0 1 "_law_take" ["bag", "many"] spTake)
    (F_cut_holds : FnB P w K mg base (L2.CX P w) 3 "cut_holds" ["count", "arcs", "nodes"] (spHolds K CA)) (F_law_is_cut : FnB P w K mg base CX0 2 "_law_is_cut" ["count", "arcs", "nodes"] (spIsCut K)) : FnOk P w K mg base CX0 4 f fd ["bag", "count", "arcs", "nodes"] (spJudged K) := by
  refine F.ok sc_law_judged (fun vs H Q E h => ?_) (fun cdv A outer s H vs Q E hr h => ?_)
  · obtain ⟨b, c, n, a, ns, arcs, lo, hi, nodes, rfl, _⟩ := h
    rfl
  · obtain ⟨b, c, n, a, ns, arcs, lo, hi, nodes, rfl, hB, hA, hN, nab, nnb, hl, hn2, hn, hgood, asc, rng, k⟩ := h
    refine ⟨_, (pss_cons (ps_set (i := 4) sc_law_judged.nd rfl (Or.inl rfl) (pe_lst (pa_cons (pe_callTy call_list_of (by rfl) T.m_list (by decide +kernel) (pa_cons (pv 3) pa_nil)) (pa_cons (pe_lst pa_nil) (pa_cons (pe_listRg rfl (by rfl) T.m_list (prg_1 (by rfl) T.m_range (pv 1))) pa_nil)))))
    (pss_cons (ps_for PassesOwn.never rfl (pi_range1 (by rfl) T.m_range (pa_cons pe_int pa_nil)) (pg_name (i := 5) sc_law_judged.nd rfl (Or.inl rfl))
      (pss_cons (ps_expr (pe_bm PySem.F.plainAttrs_list PySem.F.slot_list_append PySem.F.type_list_append mt_append (pv 4) (pa_cons (pe_lc (own := [("k", 9)]) rfl sc_law_judged.nd (pi_range1 (by rfl) T.m_range (pa_cons (pv 1) pa_nil)) (blkOk_by (own := [("k", 9)]) (N := n_law_judged) (sc := defScope s_law_judged) (by decide +kernel)) (fun _ _ _ _ _ => (pg_name (i := 9) sc_law_judged.nd rfl (Or.inl rfl))) (fun _ _ _ _ _ => pts_one (pt_cmpR op_eq (pe_callF F_law_take (hr.mono (by decide)) rfl pass0 (pa_cons (pv 0) (pa_cons pe_int pa_nil))) pe_int (nomark _))) (fun _ _ _ _ _ => (pv 9))) pa_nil)))
      (pss_cons (ps_set (i := 6) sc_law_judged.nd rfl (Or.inr rfl) (pe_callF F_law_take (hr.mono (by decide)) rfl pass0 (pa_cons (pv 0) (pa_cons (pv 1) pa_nil))))
      (pss_one (ps_expr (pe_bm PySem.F.plainAttrs_list PySem.F.slot_list_append PySem.F.type_list_append mt_append (pv 4) (pa_cons (pe_callB cr_sorted (by rfl) T.m_sorted (by decide +kernel) (pa_cons (pe_lc (own := [("k", 9)]) rfl sc_law_judged.nd (pi_range1 (by rfl) T.m_range (pa_cons (pv 1) pa_nil)) (blkOk_by (own := [("k", 9)]) (N := n_law_judged) (sc := defScope s_law_judged) (by decide +kernel)) (fun _ _ _ _ _ => (pg_name (i := 9) sc_law_judged.nd rfl (Or.inl rfl))) (fun _ _ _ _ _ => pts_one (pt_cmpR op_ne (pe_cmpR (op_in_seqK (K := K) rfl) (pv 9) (pv 3) rfl) (pe_cmpR op_eq (pv 9) (pv 6) (nomark _)) (nomark _))) (fun _ _ _ _ _ => (pv 9))) pa_nil)) pa_nil)))))))
    (pss_cons (ps_for PassesOwn.never rfl (pi_list (pv 4)) (pg_name (i := 7) sc_law_judged.nd rfl (Or.inl rfl))
      (pss_cons (ps_set (i := 8) sc_law_judged.nd rfl (Or.inl rfl) (pe_callF F_cut_holds (hr.mono (by decide)) rfl passN (pa_cons (pv 1) (pa_cons (pe_callTy call_list_of (by rfl) T.m_list (by decide +kernel) (pa_cons (pv 2) pa_nil)) (pa_cons (pe_callTy call_list_of (by rfl) T.m_list (by decide +kernel) (pa_cons (pv 7) pa_nil)) pa_nil)))))
      (pss_one (ps_if (PW.pt (pw_or (pt_not (pt_val (pe_callB call_isi (by rfl) T.m_isinstance (by decide +kernel) (pa_cons (pv 8) (pa_cons (pe_bltn (v := .ty "bool") (by rfl) T.m_bool (by decide +kernel) rfl) pa_nil))))) (pw_or1 (pt_cmpR op_ne (pv 8) (pe_callF F_law_is_cut (hr.mono (by decide)) rfl pass0 (pa_cons (pv 1) (pa_cons (pv 2) (pa_cons (pv 7) pa_nil)))) (nomark _)))))
        (pss_one (ps_ret pe_bl))
        pss_nil))))
    (Evl.pss_cut (ps_if (PW.pt (pw_and (pt_cmpR op_gt (pe_callB call_len_seq (by rfl) T.m_len (by decide +kernel) (pa_cons (pv 3) pa_nil)) pe_int (nomark _)) (pw_and1 (pt_cmpR op_notBl (pe_callF F_cut_holds (hr.mono (by decide)) rfl passN (pa_cons (pv 1) (pa_cons (pv 2) (pa_cons (pe_op op_cat (pe_lst (pa_cons (pe_ix ix_list (pv 3) pe_int (fun _ _ => rfl)) (pa_cons (pe_ix ix_list (pv 3) pe_int (fun _ _ => rfl)) pa_nil))) (pe_slice sl_list (pv 3) (po_some pe_int) po_none)) pa_nil)))) pe_bl (nomark _)))))
      (pss_one (ps_ret pe_bl))
      pss_nil)
    (Evl.pss_cut (ps_if (PW.pt (pw_and (pt_cmpR op_gt (pe_callB call_len_seq (by rfl) T.m_len (by decide +kernel) (pa_cons (pv 3) pa_nil)) pe_int (nomark _)) (pw_and1 (pt_cmpR op_notBl (pe_callF F_cut_holds (hr.mono (by decide)) rfl passN (pa_cons (pv 1) (pa_cons (pv 2) (pa_cons (pe_op op_cat (pv 3) (pe_lst (pa_cons (pe_ix ix_list (pv 3) (pe_un un_neg pe_int) (fun _ _ => rfl)) pa_nil))) pa_nil)))) pe_bl (nomark _)))))
      (pss_one (ps_ret pe_bl))
      pss_nil)
    (pss_one (ps_ret (pe_and (pe_cmpR op_isBl (pe_callF F_cut_holds (hr.mono (by decide)) rfl passN (pa_cons (pv 1) (pa_cons (pv 2) (pa_cons (pe_op op_cat (pv 3) (pe_lst (pa_cons (pv 1) pa_nil))) pa_nil)))) pe_bl (nomark _)) (pe_one (pe_cmpR op_isBl (pe_callF F_cut_holds (hr.mono (by decide)) rfl passN (pa_cons (pv 1) (pa_cons (pv 2) (pa_cons (pe_op op_cat (pe_lst (pa_cons (pe_un un_neg pe_int) pa_nil)) (pv 3)) pa_nil)))) pe_bl (nomark _))))))))))), ?_⟩
    have nlen : nodes.length ≤ n := Cir.nodup_le n nodes (asc.imp fun {a b} h => by omega) rng
    obtain ⟨bi0, bv0, bs0, hb0⟩ := hB.b
    -- tried
    refine ⟨_, rfl, _, _, rfl, .inl (SqL.of hN), fun l1 h1 => ⟨by show 0 ≤ sizeLine; exact Nat.zero_le _, fun l2 h2 => ⟨_, rfl, _, rfl, RgOk.of_le (by omega) (by omega) (by omega) (by omega), fun l3 h3 => ⟨by show 3 ≤ sizeLine; decide, fun tr htr => ?_⟩⟩⟩⟩
    have f1 : Fr [] H (upd H l1 (.lst (nodes.map V.int))) := (Fr.refl _ _).new h1
    have f2 := f1.new (o := .lst []) h2
    have f3 := f2.new (o := .lst (rgV 0 (n : Int))) h3
    have f4 := f3.new (o := .lst [.ref l1, .ref l2, .ref l3]) htr
    have z1 : H l1 = none := h1
    have z2 := f1.free h2
    have z3 := f2.free h3
    have z4 := f3.free htr
    have R0 : RowsAt (upd (upd (upd (upd H l1 (.lst (nodes.map V.int))) l2 (.lst [])) l3 (.lst (rgV 0 (n : Int)))) tr (.lst [.ref l1, .ref l2, .ref l3])) tr b 3 := by
      refine ⟨[l1, l2, l3], upd_same, by simp, fun r hr => ?_⟩
      have g1 : (upd (upd (upd H l1 (.lst (nodes.map V.int))) l2 (.lst [])) l3 (.lst (rgV 0 (n : Int)))) l1 = some (.lst (nodes.map V.int)) := by
        have := (Fr.refl [] _).new (o := .lst []) h2 _ _ (upd_same (H := H) (a := l1) (o := .lst (nodes.map V.int))) (by simp)
        rw [upd_ne (ne_of_none this h3)]
        exact this
      have g2 : (upd (upd (upd H l1 (.lst (nodes.map V.int))) l2 (.lst [])) l3 (.lst (rgV 0 (n : Int)))) l2 = some (.lst []) := by
        rw [upd_ne (ne_of_none upd_same h3)]
        exact upd_same
      simp only [List.mem_cons, List.not_mem_nil, or_false] at hr
      rcases hr with rfl | rfl | rfl
      · exact ⟨hB.neb z1, ne_of_none g1 htr, nodes, by omega, by rw [upd_ne (ne_of_none g1 htr)]; exact g1⟩
      · exact ⟨hB.neb z2, ne_of_none g2 htr, [], by simp, by rw [upd_ne (ne_of_none g2 htr)]; exact g2⟩
      · refine ⟨hB.neb z3, ne_of_none upd_same htr, (List.range n).map fun (i : Nat) => (i : Int), by simp; omega, ?_⟩
        rw [upd_ne (ne_of_none upd_same htr), upd_same, List.map_map]
        unfold rgV
        rw [show ((n : Int) - 0).toNat = n by omega]
        simp
    have B0 : BagC (upd (upd (upd (upd H l1 (.lst (nodes.map V.int))) l2 (.lst [])) l3 (.lst (rgV 0 (n : Int)))) tr (.lst [.ref l1, .ref l2, .ref l3])) b c := hB.fr f4 (by simp) (by simp)
    show tSeq _ _ _ _ (upd (upd (upd (upd H l1 (.lst (nodes.map V.int))) l2 (.lst [])) l3 (.lst (rgV 0 (n : Int)))) tr (.lst [.ref l1, .ref l2, .ref l3]))
    revert R0 B0 f4
    generalize (upd (upd (upd (upd H l1 (.lst (nodes.map V.int))) l2 (.lst [])) l3 (.lst (rgV 0 (n : Int)))) tr (.lst [.ref l1, .ref l2, .ref l3])) = H4
    intro f4 R0 B0
    have ntb : tr ≠ b := hB.neb z4
    refine ⟨_, rfl, (rg_ok (n := 3) (by omega)).1, (rg_ok (n := 3) (by omega)).2, for_rng (n := 3)
      (fun i σ H' => Fr [b] H H' ∧ BagC H' b c ∧ RowsAt H' tr b (3 + 2 * i) ∧ ∃ o5 o6 o7 o8 o9 : Option V, σ = [some (.ref b), some (.int (n : Int)), some (.ref a), some (.ref ns), some (.ref tr), o5, o6, o7, o8, o9])
      ⟨f4.nil, B0, R0, _, _, _, _, _, rfl⟩ ?_ ?_⟩
    · rintro i σ H1 hi' ⟨e1, B1, R1, o5, o6, o7, o8, o9, rfl⟩
      obtain ⟨rs, t1, t2, t3⟩ := R1
      -- tried.append([..])
      refine ⟨_, rfl, .inl ⟨rfl, _, SqL.of t1⟩, _, rfl, _, rfl, (rg_ok (by omega)).1, (rg_ok (by omega)).2, fun D hD => lc_rng (n := n)
        (fun j H2 => Fr [b] H1 H2 ∧ BagC H2 b c ∧ ∃ S : List Nat, H2 D = some (.lst (S.map vN)) ∧ S.length ≤ j) ⟨(Fr.refl [b] H1).new hD, B1.new hD, [], upd_same, Nat.le_refl _⟩ ?_ ?_⟩
      · rintro j H2 hj ⟨e2, B2, S, hd, hS⟩
        refine ⟨rfl, _, rfl, b, c, 2, rfl, B2, by decide, by decide, fun z H3 z0 z1 e3 B3 => ⟨rfl, _, rfl, eq_if (fun _ => ?_) fun _ => ?_⟩⟩
        · have hd3 := e3 _ _ hd (by rw [List.mem_singleton]; exact (B1.neb hD))
          refine ⟨_, rfl, _, hd3, len_lt (by rw [List.length_map]; omega), (e2.trans e3).put (.inr hD), B3.put (B1.neb hD) (B1.nec hD), S ++ [j], ?_, by simp; omega⟩
          rw [upd_same, List.map_append]
          rfl
        · have hd3 := e3 _ _ hd (by rw [List.mem_singleton]; exact (B1.neb hD))
          exact ⟨e2.trans e3, B3, S, hd3, by omega⟩
      rintro H2 ⟨e2, B2, S, hd, hS⟩
      have t1' := e2 _ _ t1 (by simpa using ntb)
      refine ⟨_, _, _, rfl, rfl, t1', len_lt (by rw [List.length_map]; omega), ?_⟩
      have nDt : D ≠ tr := (ne_of_none t1 hD).symm
      have hd' : H2 D = some (.lst ((Cir.ints_ S).map V.int)) := by
        rw [ints_map]
        exact hd
      have e5 : Fr [b] H (upd H2 tr (.lst (rs.map V.ref ++ [.ref D]))) := (e1.trans e2).put (.inr z4)
      have B5 : BagC (upd H2 tr (.lst (rs.map V.ref ++ [.ref D]))) b c := B2.put ntb (hB.nec z4)
      have R5 := RowsAt.snoc e2 ntb t1 t2 t3 nDt (B1.neb hD) (row := Cir.ints_ S) (by simp [Cir.ints_]; omega) hd'
      show tSeq _ _ _ _ (upd H2 tr (.lst (rs.map V.ref ++ [.ref D])))
      revert e5 B5 R5
      generalize (upd H2 tr (.lst (rs.map V.ref ++ [.ref D]))) = H5
      intro e5 B5 R5
      -- node
      refine ⟨_, rfl, _, rfl, b, c, (n : Int), rfl, B5, by omega, log_ok (Nat.lt_of_le_of_lt (m := 100) (by omega) (by decide)), fun nd H6 q0 q1 e6 B6 => ?_⟩
      have R6 := R5.frb e6 ntb
      have f6 := e5.trans e6
      obtain ⟨rs6, u1, u2, u3⟩ := R6
      have hN6 := f6 _ _ hN (by simpa using nnb)
      refine ⟨_, rfl, .inl ⟨rfl, _, SqL.of u1⟩, _, rfl, _, rfl, (rg_ok (by omega)).1, (rg_ok (by omega)).2, fun D2 hD2 => lc_rng (n := n)
        (fun j H7 => Fr [] H6 H7 ∧ ∃ S : List Nat, H7 = upd H6 D2 (.lst (S.map vN)) ∧ S.length ≤ j) ⟨(Fr.refl [] H6).new hD2, [], rfl, Nat.le_refl _⟩ ?_ ?_⟩
      · rintro j H7 hj ⟨e7, S, rfl, hS⟩
        refine ⟨rfl, _, rfl, _, rfl, in_rd (SqL.of (e7 _ _ hN6 (by simp))) ⟨_, rfl, _, rfl, rfl, rfl, _, rfl, bool_iff (fun _ => ?_) fun _ => ?_⟩⟩
        · refine ⟨_, rfl, _, upd_same, len_lt (by rw [List.length_map]; omega), e7.put (.inr hD2), S ++ [j], ?_, by simp; omega⟩
          rw [upd_upd, List.map_append]
          rfl
        · exact ⟨e7, S, rfl, by omega⟩
      rintro H7 ⟨e7, S2, rfl, hS2⟩
      have hd2 : (upd H6 D2 (.lst (S2.map vN))) D2 = some (.lst ((Cir.ints_ S2).map V.int)) := by
        rw [upd_same, ints_map]
      have s2l : (Cir.ints_ S2).length ≤ n := by
        unfold Cir.ints_
        rw [List.length_map]
        exact hS2
      refine ⟨D2, Cir.ints_ S2, rfl, SqL.of hd2, by omega, fun ys p hys _ hp => ?_⟩
      have ylen : ys.length ≤ n := by rw [hys.length_eq]; exact s2l
      have e8 := e7.new (o := .lst (ys.map V.int)) hp
      have u1' := e8 _ _ u1 (by simp)
      refine ⟨_, _, _, rfl, rfl, u1', len_lt (by rw [List.length_map]; omega), ?_⟩
      have npt : p ≠ tr := (ne_of_none (e7 _ _ u1 (by simp)) hp).symm
      have npb : p ≠ b := B6.neb (e7.free hp)
      have R9 := RowsAt.snoc e8.nil ntb u1 u2 u3 npt npb (row := ys) (by omega) upd_same
      refine ⟨(f6.trans e8.nil).put (.inr z4), (B6.fr e8 (by simp) (by simp)).put ntb (hB.nec z4), ?_, _, _, _, _, _, rfl⟩
      obtain ⟨r1, r2, r3, r4⟩ := R9
      exact ⟨r1, r2, by omega, r4⟩
    · rintro σ H1 ⟨e1, B1, R1, o5, o6, o7, o8, o9, rfl⟩
      obtain ⟨rs, t1, t2, t3⟩ := R1
      have NA := hA.frb e1 nab hb0
      have hN1 := e1 _ _ hN (by simpa using nnb)
      refine ⟨_, rfl, tr, rfl, ⟨_, SqL.of t1⟩, for_list (K := K) (a := tr) (xs := rs.map V.ref) (fun i σ H' => Fr [] H1 H' ∧ ∃ o5 o6 o7 o8 o9 : Option V, σ = [some (.ref b), some (.int (n : Int)), some (.ref a), some (.ref ns), some (.ref tr), o5, o6, o7, o8, o9])
        ⟨Fr.refl _ _, _, _, _, _, _, rfl⟩ (fun i σ H' _ z => z.1.l (SqL.of t1)) ?_ ?_⟩
      · rintro i y σ H2 hy ⟨f2, p5, p6, p7, p8, p9, rfl⟩
        obtain ⟨r, hr', rfl⟩ := get_mapf hy
        obtain ⟨_, _, row, hrl, hrow⟩ := t3 r (List.mem_of_getElem? hr')
        have NA2 := NA.fr f2
        obtain ⟨ys, y1, y2, y3⟩ := NA2.copy
        have hrow2 := f2 _ _ hrow (by simp)
        refine ⟨_, rfl, _, rfl, _, _, rfl, .inl y1, fun la hla => ⟨_, rfl, _, _, rfl, .inl (SqL.of ((Fr.refl [] H2).new hla _ _ hrow2 (by simp))), fun lr hlr => ⟨n, la, lr, arcs, lo, hi, row, rfl, (y3 la hla).fr ((Fr.refl [] _).new hlr), SqL.of upd_same, by omega, hrl, fun _ H9 f9 => ?_, fun k hb => absurd hgood (bad_not hb)⟩⟩⟩
        have f9' : Fr [] H1 H9 := ((f2.new hla).new hlr).trans f9
        refine ⟨_, rfl, _, _, _, _, true, rfl, .ty _, .base (.bl _), kit_ty (by decide +kernel), _, rfl, iteF ?_⟩
        refine ⟨_, rfl, _, rfl, _, rfl, _, rfl, n, a, r, arcs, lo, hi, row, rfl, NA.fr f9', f9' _ _ hrow (by simp), rfl, _, rfl, iteN (by simp) ?_⟩
        exact ⟨f9', _, _, _, _, _, rfl⟩
      rintro σ H2 ⟨g2, p5, p6, p7, p8, p9, rfl⟩
      have hN2 := g2 _ _ hN1 (by simp)
      -- the first two turned
      refine ⟨fun σ' H' => Fr [] H1 H' ∧ σ' = [some (.ref b), some (.int (n : Int)), some (.ref a), some (.ref ns), some (.ref tr), p5, p6, p7, p8, p9], ?_, ?_⟩
      · refine ⟨_, rfl, _, _, rfl, .inl (SqL.of hN2), _, _, rfl, rfl, _, rfl, dec_iff (fun c1 => ?_) fun _ => ⟨g2, rfl⟩⟩
        rw [List.length_map] at c1
        obtain ⟨x, y, rest, rfl⟩ : ∃ x y rest, nodes = x :: y :: rest := by
          match nodes, c1 with
          | [], h => simp at h
          | [x], h => simp at h
          | x :: y :: rest, _ => exact ⟨x, y, rest, rfl⟩
        have hxy : x < y := (List.pairwise_cons.mp asc).1 y List.mem_cons_self
        refine ⟨_, rfl, _, rfl, _, rfl, _, _, _, _, rfl, rfl, SqL.of hN2, at_map (f := V.int) (j := 1) rfl, _, rfl, _, _, _, _, rfl, rfl, SqL.of hN2, at_map (f := V.int) (j := 0) rfl, by show 2 ≤ sizeLine; decide, fun p hp => ⟨_, rfl, _, rfl, _, _, rfl, SqL.of ((Fr.refl [] H2).new hp _ _ hN2 (by simp)), fun q hq => ?_⟩⟩
        have hpq : (upd (upd H2 p (.lst [.int y, .int x])) q (.lst (cutV ((x :: y :: rest).map V.int) (some 2) none))) p = some (.lst [.int y, .int x]) := by
          rw [upd_ne (ne_of_none upd_same hq)]
          exact upd_same
        have ecut : cutV ((x :: y :: rest).map V.int) (some 2) none = rest.map V.int := by
          have := cut_drop ((x :: y :: rest).map V.int) 2 (by simp)
          exact this
        have g3 := (g2.new (o := .lst [.int y, .int x]) hp).new (o := .lst (cutV ((x :: y :: rest).map V.int) (some 2) none)) hq
        refine ⟨p, q, _, _, rfl, rfl, hpq, upd_same, ?_, fun s hs => ⟨n, a, s, arcs, lo, hi, y :: x :: rest, rfl, (NA.fr g3).fr ((Fr.refl [] _).new hs), ?_, by omega, by simpa using (show (x :: y :: rest).length ≤ 1000 by omega), fun _ H9 f9 => ?_, fun k hb => absurd hgood (bad_not hb)⟩⟩
        · rw [ecut]
          exact len_line (by simp at nlen ⊢; omega)
        · rw [ecut]
          exact SqL.of upd_same
        · have hno : cutF n arcs lo hi (y :: x :: rest) = false := cutF_no (by
            intro z
            rw [ascF, ascF, Bool.and_eq_true, Bool.and_eq_true, Bool.and_eq_true] at z
            have := of_decide_eq_true z.2.2.1
            omega)
          rw [hno]
          exact ⟨_, _, rfl, rfl, _, rfl, iteN rfl ⟨(g3.new hs).trans f9, rfl⟩⟩
      rintro σ' H3 ⟨g3, rfl⟩
      have hN3 := g3 _ _ hN1 (by simp)
      -- the last one twice
      refine ⟨fun σ' H' => Fr [] H1 H' ∧ σ' = [some (.ref b), some (.int (n : Int)), some (.ref a), some (.ref ns), some (.ref tr), p5, p6, p7, p8, p9], ?_, ?_⟩
      · refine ⟨_, rfl, _, _, rfl, .inl (SqL.of hN3), _, _, rfl, rfl, _, rfl, dec_iff (fun c1 => ?_) fun _ => ⟨g3, rfl⟩⟩
        rw [List.length_map] at c1
        have hne : nodes ≠ [] := by
          rintro rfl
          simp at c1
        obtain ⟨ini, v, rfl⟩ : ∃ ini v, nodes = ini ++ [v] := ⟨_, _, (List.dropLast_concat_getLast hne).symm⟩
        have hlast : atI ((ini ++ [v]).map V.int) (-1) = some (V.int v) := by
          rw [List.map_append]
          exact atI_last _ _
        refine ⟨_, rfl, _, rfl, _, rfl, _, rfl, _, rfl, _, _, _, _, rfl, rfl, SqL.of hN3, hlast, by show 1 ≤ sizeLine; decide, fun q hq => ?_⟩
        have g4 := g3.new (o := .lst [.int v]) hq
        refine ⟨ns, q, _, _, rfl, rfl, g4 _ _ hN1 (by simp), upd_same, ?_, fun s hs => ⟨n, a, s, arcs, lo, hi, (ini ++ [v]) ++ [v], rfl, (NA.fr g4).fr ((Fr.refl [] _).new hs), ?_, by omega, ?_, fun _ H9 f9 => ?_, fun k hb => absurd hgood (bad_not hb)⟩⟩
        · exact len_line (by simp at nlen ⊢; omega)
        · refine SqL.of ?_
          rw [upd_same, List.map_append (l₁ := ini ++ [v])]
          rfl
        · simp at nlen ⊢
          omega
        · have hno : cutF n arcs lo hi ((ini ++ [v]) ++ [v]) = false := cutF_no (by
            intro z
            have := asc_last z v (by simp)
            omega)
          rw [hno]
          exact ⟨_, _, rfl, rfl, _, rfl, iteN rfl ⟨(g4.new hs).trans f9, rfl⟩⟩
      rintro σ' H4 ⟨g4, rfl⟩
      have hN4 := g4 _ _ hN1 (by simp)
      -- the count, -1
      have q1 := g4
      refine ⟨_, rfl, _, rfl, _, rfl, _, rfl, by show 1 ≤ sizeLine; decide, fun q hq => ?_⟩
      have g5 := g4.new (o := .lst [.int (n : Int)]) hq
      refine ⟨ns, q, _, _, rfl, rfl, g5 _ _ hN1 (by simp), upd_same, ?_, fun s hs => ⟨n, a, s, arcs, lo, hi, nodes ++ [(n : Int)], rfl, (NA.fr g5).fr ((Fr.refl [] _).new hs), ?_, by omega, ?_, fun _ H9 f9 => ?_, fun k hb => absurd hgood (bad_not hb)⟩⟩
      · exact len_line (by simp at nlen ⊢; omega)
      · refine SqL.of ?_
        rw [upd_same, List.map_append]
        rfl
      · simp at nlen ⊢
        omega
      have hno : cutF n arcs lo hi (nodes ++ [(n : Int)]) = false := cutF_no (by
        intro z
        have := asc_in z (n : Int) (by simp)
        omega)
      rw [hno]
      have g9 := (g5.new hs).trans f9
      refine ⟨_, _, rfl, rfl, true, rfl, iteT ?_⟩
      refine ⟨_, rfl, _, rfl, _, rfl, by show 1 ≤ sizeLine; decide, fun q2 hq2 => ?_⟩
      have g10 := g9.new (o := .lst [.int (-1)]) hq2
      refine ⟨_, rfl, q2, ns, _, _, rfl, rfl, upd_same, g10 _ _ hN1 (by simp), ?_, fun s2 hs2 => ⟨n, a, s2, arcs, lo, hi, (-1) :: nodes, rfl, (NA.fr g10).fr ((Fr.refl [] _).new hs2), ?_, by omega, ?_, fun _ H10 f10 => ?_, fun k hb => absurd hgood (bad_not hb)⟩⟩
      · exact len_line (by simp at nlen ⊢; omega)
      · refine SqL.of ?_
        rw [upd_same]
        rfl
      · simp at nlen ⊢
        omega
      have hno2 : cutF n arcs lo hi ((-1) :: nodes) = false := cutF_no (by
        intro z
        rw [ascF, Bool.and_eq_true] at z
        have := of_decide_eq_true z.1
        omega)
      rw [hno2]
      refine ⟨_, _, rfl, rfl, ?_⟩
      have g11 := (g10.new hs2).trans f10
      exact k H10 (e1.trans g11.nil) (B1.fr g11 (by simp) (by simp))
end
/-! ### the law -/
/-! law(script): slots 0 script 1 bag 2 large 3 count 4 base 5 amounts 6 bounds 7 due 8 kind 9 lows 10 arcs 11 passed 12 told 13 nodes 14 at 15 tail 16 head 17 low 18 high 19 wrong 20 k -/
abbrev s_law : Stmt := top 22
abbrev n_law : List Str := ["script", "bag", "large", "count", "base", "amounts", "bounds", "due", "kind", "lows", "arcs", "passed", "told", "nodes", "at", "tail", "head", "low", "high", "wrong", "k"]
theorem sc_law : FnScope n_law ["script"] (defScope s_law) := ⟨rfl, rfl, rfl, by decide +kernel, rfl, by decide +kernel, by decide +kernel⟩
theorem op_catTK {X : Cx} {K : PySem.W.Frag} (hK : X.K = K) : OpR X (binaryOp .Add) (rCatT K) := by
  subst hK
  exact op_catT
def spLaw (K : PySem.W.Frag) : Sp := fun vs H Q _ => ∃ (a : Addr) (ns : List Int), vs = [.ref a] ∧ SqL K H a (ns.map V.int) ∧ ns.length ≤ 63 ∧ ∀ H', Q (.bl true) H'
/-- what is due, by how the bounds were made -/
def Due (as : List Cir.Arc) (lo hi : List Int) (w : Str) : Prop :=
  (w = ("whole" : Str) ∧ ∃ x, Cir.Bn as lo hi x ∧ ∀ v, Cir.net as x v = 0) ∨ (w = ("cut" : Str) ∧ ∃ S : List Int, S.Nodup ∧ 0 < Cir.excess as lo hi S)
theorem net_far {n : Nat} {as : List Cir.Arc} {x : List Int} (hg : ∀ k, k < as.length → Cir.Good n (Cir.arcOf as k)) (hl : as.length = x.length) (h : ∀ v : Nat, v < n → Cir.net as x v = 0) : ∀ v, Cir.net as x v = 0 := by
  have key : ∀ (as : List Cir.Arc) (x : List Int), (∀ k, k < as.length → Cir.Good n (Cir.arcOf as k)) → ∀ v : Int, ¬ (0 ≤ v ∧ v < n) → Cir.net as x v = 0 := by
    intro as
    induction as with
    | nil => intro x _ v _; cases x <;> rfl
    | cons p as ih =>
      intro x hg v hv
      cases x with
      | nil => rfl
      | cons y x =>
        have g := hg 0 (by simp)
        have e : Cir.arcOf (p :: as) 0 = p := rfl
        rw [e] at g
        have r := ih x (fun k hk => hg (k + 1) (by simpa using hk)) v hv
        show y * Cir.dlt p v + Cir.net as x v = 0
        rw [r]
        have : Cir.dlt p v = 0 := by
          unfold Cir.dlt Cir.ind
          have g1 := g.1
          have g2 := g.2.1
          rw [if_neg (by omega), if_neg (by omega)]
          rfl
        rw [this, Int.mul_zero]
        rfl
  intro v
  by_cases c : 0 ≤ v ∧ v < n
  · have := h v.toNat (by omega)
    rwa [Int.toNat_of_nonneg c.1] at this
  · exact key as x hg v c
theorem due_word {n : Nat} {as : List Cir.Arc} {lo hi : List Int} {w : Str} (hg : GoodN n as lo hi) (l1 : lo.length = as.length) (l2 : hi.length = as.length) (d : Due as lo hi w) :
    wordOf (Cir.circF n as lo hi) = w ∧ ((w = ("whole" : Str) ∧ Cir.Bn as lo hi (ansOf (Cir.circF n as lo hi)) ∧ (∀ v : Nat, v < n → Cir.net as (ansOf (Cir.circF n as lo hi)) v = 0)) ∨
      (w = ("cut" : Str) ∧ (ansOf (Cir.circF n as lo hi)).Pairwise (· < ·) ∧ (∀ v ∈ ansOf (Cir.circF n as lo hi), 0 ≤ v ∧ v < n) ∧ 0 < Cir.excess as lo hi (ansOf (Cir.circF n as lo hi)))) := by
  have hg1 : ∀ k, k < as.length → Cir.Good n (Cir.arcOf as k) := fun k hk => (hg k hk).1
  have no : ∀ {x S : List Int}, Cir.Bn as lo hi x → (∀ v, Cir.net as x v = 0) → S.Nodup → 0 < Cir.excess as lo hi S → False := fun {x S} B b nd h => by
    have := Cir.weak B nd
    rw [Cir.netS_zero b] at this
    omega
  rcases Cir.circ_ok hg1 l1 l2 (fun k hk => (hg k hk).2) with ⟨e, B, b⟩ | ⟨S, e, asc, rng, ex⟩
  · have b' := net_far hg1 B.lx.symm b
    have w1 : wordOf (Cir.circF n as lo hi) = "whole" := by
      unfold wordOf
      rw [e]
      rfl
    have w2 : ansOf (Cir.circF n as lo hi) = (Cir.circF n as lo hi).x := by
      unfold ansOf
      rw [e]
      rfl
    rcases d with ⟨rfl, _⟩ | ⟨rfl, S, nd, ex⟩
    · exact ⟨w1, .inl ⟨rfl, by rw [w2]; exact B, by rw [w2]; exact b⟩⟩
    · exact (no B b' nd ex).elim
  · have w1 : wordOf (Cir.circF n as lo hi) = "cut" := by
      unfold wordOf
      rw [e]
      rfl
    have w2 : ansOf (Cir.circF n as lo hi) = S := by
      unfold ansOf
      rw [e]
      rfl
    rcases d with ⟨rfl, x, B, b⟩ | ⟨rfl, _⟩
    · exact (no B b (asc.imp fun {a b} h => by omega) ex).elim
    · exact ⟨w1, .inr ⟨rfl, by rw [w2]; exact asc, by rw [w2]; exact rng, by rw [w2]; exact ex⟩⟩
/-- where no set of nodes bars, there is a circulation -/
theorem due_whole {n : Nat} {as : List Cir.Arc} {lo hi : List Int} (hg : GoodN n as lo hi) (l1 : lo.length = as.length) (l2 : hi.length = as.length) (h : ∀ S, ¬ 0 < Cir.excess as lo hi S) : Due as lo hi "whole" := by
  have hg1 : ∀ k, k < as.length → Cir.Good n (Cir.arcOf as k) := fun k hk => (hg k hk).1
  rcases Cir.circ_ok hg1 l1 l2 (fun k hk => (hg k hk).2) with ⟨e, B, b⟩ | ⟨S, e, asc, rng, ex⟩
  · exact .inl ⟨rfl, _, B, net_far hg1 B.lx.symm b⟩
  · exact absurd ex (h S)
theorem NetSt.bo {b c pa px bo : Addr} {H H1 H2 : Hp} {ts : List Addr} {as : List Cir.Arc} {xs : List Int} {l : List V} (N : NetSt b c pa px H H1 ts as xs) (e : Fr [b, bo] H1 H2) (B2 : BagC H2 b c) (h0 : H bo = none) (hl : H1 bo = some (.lst l)) (npa : pa ≠ bo) (npx : px ≠ bo) : NetSt b c pa px H H2 ts as xs := by
  obtain ⟨bi, bv, bs, hb⟩ := N.bag.b
  refine ⟨fun a o ha hn => e a o (N.fr a o ha hn) ?_, B2, e _ _ N.la (by simp [N.pab, npa]), e _ _ N.lx (by simp [N.pxb, npx]), N.ln, fun k t p ht hp => e _ _ (N.tup k t p ht hp) ?_, N.na, N.nx, N.ne, N.bag0⟩
  · simp only [List.mem_cons, List.not_mem_nil, or_false, not_or]
    exact ⟨by simpa using hn, fun z => by rw [z, h0] at ha; cases ha⟩
  · simp only [List.mem_cons, List.not_mem_nil, or_false, not_or]
    exact ⟨ne_of (N.tup k t p ht hp) hb (by intro z; cases z), ne_of (N.tup k t p ht hp) hl (by intro z; cases z)⟩
theorem NetSt.pairs {K : PySem.W.Frag} {b c pa px : Addr} {H H1 : Hp} {ts : List Addr} {as : List Cir.Arc} {xs : List Int} (N : NetSt b c pa px H H1 ts as xs) : PairAt K H1 pa as := by
  refine ⟨ts, SqL.of N.la, N.ln, fun k t ht => SqT.of ?_⟩
  have hk : k < as.length := by rw [← N.ln]; exact (List.getElem?_eq_some_iff.mp ht).1
  exact N.tup k t _ ht (Cir.get_arc hk)
theorem BndU.snoc {H : Hp} {bo u : Addr} {us : List Addr} {lo hi : List Int} (h : BndU H bo us lo hi) (hu : H u = none) (y z : Int) : BndU (upd (upd H u (.tup [.int y, .int z])) bo (.lst (us.map V.ref ++ [.ref u]))) bo (us ++ [u]) (lo ++ [y]) (hi ++ [z]) := by
  obtain ⟨h1, h2, h3, h4⟩ := h
  refine ⟨by rw [upd_same, List.map_append]; rfl, by simp [h2], by simp [h3], fun j v hv => ?_⟩
  rcases Cir.getElem?_snoc_last hv with ⟨hl, hv⟩ | ⟨hl, rfl⟩
  · have z := h4 j v hv
    rw [Cir.part_snoc_lt (by omega), Cir.part_snoc_lt (by omega), upd_ne (ne_of z h1 (by intro y; cases y)), upd_ne (ne_of_none z hu)]
    exact z
  · rw [hl, upd_ne (ne_of_none h1 hu).symm, upd_same, h2, Cir.part_snoc]
    rw [show lo.length = hi.length from h3.symm, Cir.part_snoc]
def dQ (as : List Cir.Arc) (lo hi : List Int) (k : Nat) : PyData := .tuple [.int (Cir.arcOf as k).1, .int (Cir.arcOf as k).2, .int (Cir.part lo k), .int (Cir.part hi k)]
def dNet (as : List Cir.Arc) (lo hi : List Int) : PyData := .list ((List.range as.length).map (dQ as lo hi))
theorem dpa_get {K : PySem.W.Frag} {H : Hp} : ∀ (ts : List Addr) (ds : List PyData), ts.length = ds.length → (∀ (k : Nat) (t : Addr) (d : PyData), ts[k]? = some t → ds[k]? = some d → Dp K H (.ref t) d) → DpAll K H (ts.map V.ref) ds
  | [], [], _, _ => .nil
  | t :: ts, d :: ds, hl, h => .cons (h 0 t d rfl rfl) (dpa_get ts ds (by simpa using hl) fun k t' d' a b => h (k + 1) t' d' a b)
  | [], _ :: _, hl, _ => by simp at hl
  | _ :: _, [], hl, _ => by simp at hl
theorem dp_net {K : PySem.W.Frag} {H : Hp} {a : Addr} {as : List Cir.Arc} {lo hi : List Int} (h : NetAt K H a as lo hi) : Dp K H (.ref a) (dNet as lo hi) := by
  obtain ⟨ts, h1, h2, h3, h4, h5⟩ := h
  refine .lst h1 (dpa_get ts _ (by simp [h2]) fun k t d ht hd => ?_)
  rw [List.getElem?_map] at hd
  have hk : k < as.length := by rw [← h2]; exact (List.getElem?_eq_some_iff.mp ht).1
  rw [List.getElem?_range hk] at hd
  rw [← Option.some.inj hd]
  exact .tup (h5 k t ht) (.cons (.int _) (.cons (.int _) (.cons (.int _) (.cons (.int _) .nil))))
theorem net_lay (as : List Cir.Arc) (lo hi : List Int) : (dNet as lo hi).canLay0 = true := by
  simp only [dNet, PyData.canLay0]
  exact layAll_of _ fun d hd => by
    obtain ⟨k, _, rfl⟩ := List.mem_map.mp hd
    simp [dQ, PyData.canLay0, PyData.canLayAll0]
theorem net_shaped (as : List Cir.Arc) (lo hi : List Int) : SeqAt.shaped (dNet as lo hi) = true := by
  refine shaped_of (net_lay as lo hi) ?_
  have := depAll_of 2 ((List.range as.length).map (dQ as lo hi)) fun d hd => by
    obtain ⟨k, _, rfl⟩ := List.mem_map.mp hd
    simp [dQ, PyData.depth, PyData.depthAll]
  simp only [dNet, PyData.depth]
  omega
def dTold (w : Str) (l : List Int) : PyData := .tuple [.str w, dInts l]
theorem told_lay {w : Str} (hw : w = ("whole" : Str) ∨ w = ("cut" : Str)) (l : List Int) : (dTold w l).canLay0 = true := by
  have ho : PyData.strOk w = true := by rcases hw with rfl | rfl <;> decide +kernel
  simp only [dTold, PyData.canLay0, PyData.canLayAll0, ho, dInts, ints_lay]
  rfl
theorem told_shaped {w : Str} (hw : w = ("whole" : Str) ∨ w = ("cut" : Str)) (l : List Int) : SeqAt.shaped (dTold w l) = true := by
  refine shaped_of (told_lay hw l) ?_
  have := ints_depth l
  simp only [dTold, PyData.depth, PyData.depthAll, dInts]
  omega
theorem dp_told {K : PySem.W.Frag} {H : Hp} {p l : Addr} {w : Str} {an : List Int} (hp : H p = some (.tup [.str w, .ref l])) (hl : H l = some (.lst (an.map V.int))) : Dp K H (.ref p) (dTold w an) :=
  .tup (SqT.of hp) (.cons (.str _) (.cons (dp_ints (SqL.of hl)) .nil))
theorem Due.word {as : List Cir.Arc} {lo hi : List Int} {w : Str} (h : Due as lo hi w) : w = ("whole" : Str) ∨ w = ("cut" : Str) := h.imp (·.1) (·.1)
theorem asc_yes {n last : Int} : ∀ {l : List Int}, l.Pairwise (· < ·) → (∀ v ∈ l, last < v ∧ v < n) → ascF n last l = true
  | [], _, _ => rfl
  | v :: l, h, hr => by
    rw [ascF, decide_eq_true (hr v List.mem_cons_self).1, decide_eq_true (hr v List.mem_cons_self).2]
    obtain ⟨h1, h2⟩ := List.pairwise_cons.mp h
    exact asc_yes h2 fun u hu => ⟨h1 u hu, (hr u (List.mem_cons_of_mem _ hu)).2⟩
theorem cutF_yes {n : Nat} {arcs : List Cir.Arc} {lo hi nodes : List Int} (h : nodes.Pairwise (· < ·)) (hr : ∀ v ∈ nodes, 0 ≤ v ∧ v < n) (he : 0 < Cir.excess arcs lo hi nodes) : cutF n arcs lo hi nodes = true := by
  unfold cutF
  rw [asc_yes h (fun v hv => ⟨by have := (hr v hv).1; omega, (hr v hv).2⟩), decide_eq_true he]
  rfl
def dE (k : Int) : PyData := .list [.int k, .bool true]
theorem dE_lay (k : Int) : (dE k).canLay0 = true := by simp [dE, PyData.canLay0, PyData.canLayAll0]
theorem dE_shaped (k : Int) : SeqAt.shaped (dE k) = true := shaped_of (dE_lay k) (by simp [dE, PyData.depth, PyData.depthAll])
theorem dp_E {K : PySem.W.Frag} {H : Hp} {p : Addr} {k : Int} (h : H p = some (.lst [.int k, .bl true])) : Dp K H (.ref p) (dE k) := .lst (SqL.of h) (.cons (.int _) (.cons (.bl _) .nil))
theorem bad_set {n : Nat} {as : List Cir.Arc} {lo hi : List Int} {k : Nat} {e : Cir.Arc} {l h : Int} (hg : GoodN n as lo hi) (l1 : lo.length = as.length) (l2 : hi.length = as.length) (hk : k < as.length) (hb : ¬ (Cir.Good n e ∧ l ≤ h)) : Bad n (as.set k e) (lo.set k l) (hi.set k h) k := by
  have ae : ∀ j, Cir.arcOf (as.set k e) j = if k = j then (if k < as.length then e else (0, 0)) else Cir.arcOf as j := fun j => by
    by_cases c : k = j
    · subst c
      rw [if_pos rfl, if_pos hk]
      exact Cir.arc_get (List.getElem?_set_self hk)
    · rw [if_neg c]
      unfold Cir.arcOf
      rw [List.getD_eq_getElem?_getD, List.getD_eq_getElem?_getD, List.getElem?_set_ne c]
  refine ⟨by rw [List.length_set]; exact hk, ?_, fun j hj => ?_⟩
  · unfold GoodB
    rw [ae k, if_pos rfl, if_pos hk, Cir.part_set_same (by omega), Cir.part_set_same (by omega)]
    exact hb
  · unfold GoodB
    rw [ae j, if_neg (by omega), Cir.part_set_ne (by omega), Cir.part_set_ne (by omega)]
    exact hg j (by omega)
theorem net_set_at {K : PySem.W.Frag} {H : Hp} {ar tz : Addr} {qs : List Addr} {as : List Cir.Arc} {lo hi : List Int} {k : Nat} {e : Cir.Arc} {l h : Int} (hq : H ar = some (.lst (qs.map V.ref))) (hl : qs.length = as.length) (l1 : lo.length = as.length) (l2 : hi.length = as.length) (hk : k < as.length)
    (h3 : ∀ (k : Nat) (q : Addr), qs[k]? = some q → H q = some (.tup (q4 as lo hi k))) (ht : H tz = some (.tup [.int e.1, .int e.2, .int l, .int h])) :
    NetAt K (upd H ar (.lst ((qs.map V.ref).set k (.ref tz)))) ar (as.set k e) (lo.set k l) (hi.set k h) := by
  refine ⟨qs.set k tz, SqL.of (by rw [upd_same, List.map_set]), by simp [hl], by simp [l1], by simp [l2], fun j q hj => SqT.of ?_⟩
  by_cases c : k = j
  · subst c
    rw [List.getElem?_set_self (by omega)] at hj
    rw [← Option.some.inj hj, upd_ne (ne_of ht hq (by intro y; cases y)), ht]
    unfold q4
    rw [Cir.arc_get (List.getElem?_set_self hk), Cir.part_set_same (by omega), Cir.part_set_same (by omega)]
  · rw [List.getElem?_set_ne c] at hj
    have z := h3 j q hj
    rw [upd_ne (ne_of z hq (by intro y; cases y)), z]
    unfold q4
    have ae : Cir.arcOf (as.set k e) j = Cir.arcOf as j := by
      unfold Cir.arcOf
      rw [List.getD_eq_getElem?_getD, List.getD_eq_getElem?_getD, List.getElem?_set_ne c]
    rw [ae, Cir.part_set_ne c, Cir.part_set_ne c]
section
variable {P : Program} {w : World} {K : PySem.W.Frag} {mg : Str → Option Value} {base : Heap} {CA : Addr}
theorem ok_law {f : Addr} {fd : FuncData} (F : Fun K "law" "law" s_law f fd) (T : Blt mg) (F_law_bag : FnB P w K mg base CX0 1 "_law_bag" ["script"] (spBag K)) (F_law_take : FnB P w K mg base CX0 1 "_law_take" ["bag", "many"] spTake)
    (F_law_base : FnB P w K mg base CX0 2 "_law_base" ["bag", "count", "most"] spBase) (F_law_pinched : FnB P w K mg base CX0 2 "_law_pinched" ["bag", "count", "arcs", "amounts", "bounds"] (spPinched K)) (F_law_barred : FnB P w K mg base CX0 2 "_law_barred" ["count", "arcs"] (spBarred K))
    (F_circulation : FnB P w K mg base (L2.CX P w) 4 "circulation" ["count", "arcs"] (spCirc K CA)) (F_law_is_cut : FnB P w K mg base CX0 2 "_law_is_cut" ["count", "arcs", "nodes"] (spIsCut K)) (F_law_whole : FnB P w K mg base CX0 1 "_law_whole" ["count", "arcs", "told"] (spWhole K))
    (F_law_judged : FnB P w K mg base CX0 4 "_law_judged" ["bag", "count", "arcs", "nodes"] (spJudged K)) (F_law_error : FnB P w K mg base CX0 5 "_law_error" ["which", "count", "arcs"] (spError K)) : FnOk P w K mg base CX0 6 f fd ["script"] (spLaw K) := by
  refine F.ok sc_law (fun vs H Q E h => ?_) (fun cdv A outer s H vs Q E hr h => ?_)
  · obtain ⟨a, ns, rfl, _⟩ := h
    rfl
  · obtain ⟨a0, ns, rfl, hS, hlen, k⟩ := h
    refine ⟨_, (pss_cons (ps_set (i := 1) sc_law.nd rfl (Or.inr rfl) (pe_callF F_law_bag (hr.mono (by decide)) rfl pass0 (pa_cons (pv 0) pa_nil)))
    (pss_cons (ps_set (i := 2) sc_law.nd rfl (Or.inl rfl) (pe_cmpR op_eq (pe_callF F_law_take (hr.mono (by decide)) rfl pass0 (pa_cons (pv 1) (pa_cons pe_int pa_nil))) pe_int (nomark _)))
    (pss_cons (ps_set (i := 3) sc_law.nd rfl (Or.inl rfl) (pe_op op_add pe_int (pe_callF F_law_take (hr.mono (by decide)) rfl pass0 (pa_cons (pv 1) (pa_cons (pe_ifExp (pt_val (pv 2)) pe_int pe_int) pa_nil)))))
    (pss_cons (ps_asg (pe_callF F_law_base (hr.mono (by decide)) rfl pass0 (pa_cons (pv 1) (pa_cons (pv 3) (pa_cons (pe_ifExp (pt_val (pv 2)) pe_int pe_int) pa_nil)))) (pg_unl rfl (pgs_cons (pg_name (i := 4) sc_law.nd rfl (Or.inr rfl)) (pgs_cons (pg_name (i := 5) sc_law.nd rfl (Or.inr rfl)) pgs_nil))))
    (pss_cons (ps_set (i := 6) sc_law.nd rfl (Or.inr rfl) (pe_lc (own := [("k", 20)]) rfl sc_law.nd (pi_range1 (by rfl) T.m_range (pa_cons (pe_callB call_len_seq (by rfl) T.m_len (by decide +kernel) (pa_cons (pv 4) pa_nil)) pa_nil)) (blkOk_by (own := [("k", 20)]) (N := n_law) (sc := defScope s_law) (by decide +kernel)) (fun _ _ _ _ _ => (pg_name (i := 20) sc_law.nd rfl (Or.inl rfl))) (fun _ _ _ _ _ => pts_nil) (fun _ _ _ _ _ => (pe_tup (pa_cons (pe_op op_sub (pe_ix (r := rIxL K) ix_list (pv 5) (pv 20) (fun _ _ => rfl)) (pe_callF F_law_take (hr.mono (by decide)) rfl pass0 (pa_cons (pv 1) (pa_cons pe_int pa_nil)))) (pa_cons (pe_op op_add (pe_ix (r := rIxL K) ix_list (pv 5) (pv 20) (fun _ _ => rfl)) (pe_callF F_law_take (hr.mono (by decide)) rfl pass0 (pa_cons (pv 1) (pa_cons pe_int pa_nil)))) pa_nil))))))
    (pss_cons (ps_set (i := 7) sc_law.nd rfl (Or.inl rfl) pe_str)
    (pss_cons (ps_set (i := 8) sc_law.nd rfl (Or.inl rfl) (pe_callF F_law_take (hr.mono (by decide)) rfl pass0 (pa_cons (pv 1) (pa_cons pe_int pa_nil))))
    (Evl.pss_cut (ps_if (PW.pt (pw_or (pt_cmpR op_eq (pv 8) pe_int (nomark _)) (pw_or1 (pt_cmpR op_eq (pv 8) pe_int (nomark _)))))
      (pss_one (ps_if (pt_val (pe_callF F_law_pinched (hr.mono (by decide)) rfl pass0 (pa_cons (pv 1) (pa_cons (pv 3) (pa_cons (pv 4) (pa_cons (pv 5) (pa_cons (pv 6) pa_nil)))))))
        (pss_one (ps_set (i := 7) sc_law.nd rfl (Or.inl rfl) pe_str))
        pss_nil))
      pss_nil)
    (Evl.pss_cut (ps_if (PW.pt (pw_and (pt_cmpR op_eq (pv 8) pe_int (nomark _)) (pw_and1 (pt_not (pt_val (pv 2))))))
      (pss_cons (ps_set (i := 9) sc_law.nd rfl (Or.inr rfl) (pe_lc (own := [("k", 20)]) rfl sc_law.nd (pi_range1 (by rfl) T.m_range (pa_cons (pe_callB call_len_seq (by rfl) T.m_len (by decide +kernel) (pa_cons (pv 4) pa_nil)) pa_nil)) (blkOk_by (own := [("k", 20)]) (N := n_law) (sc := defScope s_law) (by decide +kernel)) (fun _ _ _ _ _ => (pg_name (i := 20) sc_law.nd rfl (Or.inl rfl))) (fun _ _ _ _ _ => pts_nil) (fun _ _ _ _ _ => (pe_op op_sub (pe_callF F_law_take (hr.mono (by decide)) rfl pass0 (pa_cons (pv 1) (pa_cons pe_int pa_nil))) pe_int))))
      (pss_one (ps_set (i := 6) sc_law.nd rfl (Or.inr rfl) (pe_lc (own := [("k", 20)]) rfl sc_law.nd (pi_range1 (by rfl) T.m_range (pa_cons (pe_callB call_len_seq (by rfl) T.m_len (by decide +kernel) (pa_cons (pv 4) pa_nil)) pa_nil)) (blkOk_by (own := [("k", 20)]) (N := n_law) (sc := defScope s_law) (by decide +kernel)) (fun _ _ _ _ _ => (pg_name (i := 20) sc_law.nd rfl (Or.inl rfl))) (fun _ _ _ _ _ => pts_nil) (fun _ _ _ _ _ => (pe_tup (pa_cons (pe_ix (r := rIxL K) ix_list (pv 9) (pv 20) (fun _ _ => rfl)) (pa_cons (pe_op op_add (pe_ix (r := rIxL K) ix_list (pv 9) (pv 20) (fun _ _ => rfl)) (pe_callF F_law_take (hr.mono (by decide)) rfl pass0 (pa_cons (pv 1) (pa_cons pe_int pa_nil)))) pa_nil))))))))
      pss_nil)
    (pss_cons (ps_setLc (i := 10) (own := [("k", 20)]) rfl sc_law.nd rfl rfl (sw_true rfl rfl rfl (by decide +kernel)) (pi_range1 (by rfl) T.m_range (pa_cons (pe_callB call_len_seq (by rfl) T.m_len (by decide +kernel) (pa_cons (pv 4) pa_nil)) pa_nil)) (blkOk_by (own := [("k", 20)]) (N := n_law) (sc := defScope s_law) (by decide +kernel)) (fun _ _ _ _ _ => (pg_name (i := 20) sc_law.nd rfl (Or.inl rfl))) (fun _ _ _ _ _ => pts_nil) (fun _ _ _ _ _ => (pe_op (op_catTK (K := K) rfl) (pe_ix (r := rIxL K) ix_list (pv 4) (pv 20) (fun _ _ => rfl)) (pe_ix (r := rIxL K) ix_list (pv 6) (pv 20) (fun _ _ => rfl)))))
    (Evl.pss_cut (ps_if (PW.pt (pw_and (pt_cmpR op_eq (pv 8) pe_int (nomark _)) (pw_and (pt_not (pt_val (pv 2))) (pw_and1 (pt_val (pe_callF F_law_barred (hr.mono (by decide)) rfl pass0 (pa_cons (pv 3) (pa_cons (pv 10) pa_nil))))))))
      (pss_one (ps_set (i := 7) sc_law.nd rfl (Or.inl rfl) pe_str))
      pss_nil)
    (pss_cons (ps_set (i := 11) sc_law.nd rfl (Or.inl rfl) (pe_callTy call_list_of (by rfl) T.m_list (by decide +kernel) (pa_cons (pv 10) pa_nil)))
    (pss_cons (ps_set (i := 12) sc_law.nd rfl (Or.inl rfl) (pe_callF F_circulation (hr.mono (by decide)) rfl passN (pa_cons (pv 3) (pa_cons (pv 11) pa_nil))))
    (pss_cons (ps_if (PW.pt (pw_or (pt_not (pt_val (pe_callB call_isi (by rfl) T.m_isinstance (by decide +kernel) (pa_cons (pv 12) (pa_cons (pe_bltn (v := .ty "tuple") (by rfl) T.m_tuple (by decide +kernel) rfl) pa_nil))))) (pw_or (pt_cmpR op_ne (pe_callB call_len_seq (by rfl) T.m_len (by decide +kernel) (pa_cons (pv 12) pa_nil)) pe_int (nomark _)) (pw_or (pt_cmpR op_ne (pe_ix ix_tup (pv 12) pe_int (fun _ _ => rfl)) (pv 7) (nomark _)) (pw_or1 (pt_cmpR (op_neD hr.units) (pv 11) (pv 10) (nomark _)))))))
      (pss_one (ps_ret pe_bl))
      pss_nil)
    (pss_cons (ps_if (pt_cmpR (op_neD hr.units) (pe_callF F_circulation (hr.mono (by decide)) rfl passN (pa_cons (pv 3) (pa_cons (pe_callTy call_list_of (by rfl) T.m_list (by decide +kernel) (pa_cons (pv 10) pa_nil)) pa_nil))) (pv 12) (nomark _))
      (pss_one (ps_ret pe_bl))
      pss_nil)
    (pss_cons (ps_setLc (i := 13) (own := [("k", 20)]) rfl sc_law.nd rfl rfl (sw_true rfl rfl rfl (by decide +kernel)) (pi_range1 (by rfl) T.m_range (pa_cons (pv 3) pa_nil)) (blkOk_by (own := [("k", 20)]) (N := n_law) (sc := defScope s_law) (by decide +kernel)) (fun _ _ _ _ _ => (pg_name (i := 20) sc_law.nd rfl (Or.inl rfl))) (fun _ _ _ _ _ => pts_one (pt_cmpR op_eq (pe_callF F_law_take (hr.mono (by decide)) rfl pass0 (pa_cons (pv 1) (pa_cons pe_int pa_nil))) pe_int (nomark _))) (fun _ _ _ _ _ => (pv 20)))
    (Evl.pss_cut (ps_if (pt_cmpR op_eq (pv 7) pe_str (nomark _))
      (pss_cons (ps_if (pt_not (pt_val (pe_callF F_law_is_cut (hr.mono (by decide)) rfl pass0 (pa_cons (pv 3) (pa_cons (pv 10) (pa_cons (pe_ix ix_tup (pv 12) pe_int (fun _ _ => rfl)) pa_nil))))))
        (pss_one (ps_ret pe_bl))
        pss_nil)
      (pss_one (ps_set (i := 13) sc_law.nd rfl (Or.inl rfl) (pe_callTy call_list_of (by rfl) T.m_list (by decide +kernel) (pa_cons (pe_ix ix_tup (pv 12) pe_int (fun _ _ => rfl)) pa_nil)))))
      (pss_one (ps_if (pt_not (pt_val (pe_callF F_law_whole (hr.mono (by decide)) rfl pass0 (pa_cons (pv 3) (pa_cons (pv 10) (pa_cons (pe_ix ix_tup (pv 12) pe_int (fun _ _ => rfl)) pa_nil))))))
        (pss_one (ps_ret pe_bl))
        pss_nil)))
    (pss_cons (ps_if (pt_not (pt_val (pe_callF F_law_judged (hr.mono (by decide)) rfl pass0 (pa_cons (pv 1) (pa_cons (pv 3) (pa_cons (pv 10) (pa_cons (pv 13) pa_nil)))))))
      (pss_one (ps_ret pe_bl))
      pss_nil)
    (pss_cons (ps_set (i := 14) sc_law.nd rfl (Or.inl rfl) (pe_callF F_law_take (hr.mono (by decide)) rfl pass0 (pa_cons (pv 1) (pa_cons (pe_callB call_len_seq (by rfl) T.m_len (by decide +kernel) (pa_cons (pv 10) pa_nil)) pa_nil))))
    (pss_cons (ps_asg (pe_ix ix_list (pv 10) (pv 14) (fun _ _ => rfl)) (pg_tup rfl (pgs_cons (pg_name (i := 15) sc_law.nd rfl (Or.inl rfl)) (pgs_cons (pg_name (i := 16) sc_law.nd rfl (Or.inl rfl)) (pgs_cons (pg_name (i := 17) sc_law.nd rfl (Or.inl rfl)) (pgs_cons (pg_name (i := 18) sc_law.nd rfl (Or.inl rfl)) pgs_nil))))))
    (pss_cons (ps_set (i := 19) sc_law.nd rfl (Or.inl rfl) (pe_lst (pa_cons (pe_tup (pa_cons (pv 15) (pa_cons (pv 15) (pa_cons (pv 17) (pa_cons (pv 18) pa_nil))))) (pa_cons (pe_tup (pa_cons (pv 3) (pa_cons (pv 16) (pa_cons (pv 17) (pa_cons (pv 18) pa_nil))))) (pa_cons (pe_tup (pa_cons (pv 15) (pa_cons (pe_un un_neg pe_int) (pa_cons (pv 17) (pa_cons (pv 18) pa_nil))))) (pa_cons (pe_tup (pa_cons (pv 15) (pa_cons (pv 16) (pa_cons (pe_op op_add (pv 18) pe_int) (pa_cons (pv 18) pa_nil))))) pa_nil))))))
    (pss_cons (ps_asg (pe_ix ix_list (pv 19) (pe_callF F_law_take (hr.mono (by decide)) rfl pass0 (pa_cons (pv 1) (pa_cons pe_int pa_nil))) (fun _ _ => rfl)) (pg_sub (pv 10) (pv 14) set_list))
    (pss_one (ps_ret (pe_and (pe_cmpR (op_eqD hr.units) (pe_callF F_law_error (hr.mono (by decide)) rfl pass0 (pa_cons pe_int (pa_cons (pv 3) (pa_cons (pv 10) pa_nil)))) (pe_lst (pa_cons (pv 14) (pa_cons pe_bl pa_nil))) (nomark _)) (pe_one (pe_cmpR (op_eqD hr.units) (pe_callF F_law_error (hr.mono (by decide)) rfl pass0 (pa_cons pe_int (pa_cons (pv 3) (pa_cons (pv 10) pa_nil)))) (pe_lst (pa_cons (pv 14) (pa_cons pe_bl pa_nil))) (nomark _)))))))))))))))))))))))))))), ?_⟩
    refine ⟨_, rfl, a0, ns, rfl, hS, by omega, fun b c H1 hb hc e1 B1 => ?_⟩
    refine ⟨_, rfl, b, c, 10, rfl, B1, by decide, by decide, fun z H2 z0 z1 e2 B2 => ⟨rfl, ?_⟩⟩
    dsimp only
    generalize decide (V.int z = V.int 0) = lg
    refine ⟨_, rfl, ?_⟩
    refine tIf_q lg 29 5 (fun R h => ⟨_, rfl, _, rfl, h⟩) (fun R h => h) (fun R h => h) ?_
    refine ⟨b, c, _, rfl, B2, by cases lg <;> decide, by cases lg <;> decide, fun t H3 t0 t1 e3 B3 => ⟨_, _, rfl, rfl, ?_⟩⟩
    obtain ⟨tn, rfl⟩ : ∃ tn : Nat, t = (tn : Int) := ⟨t.toNat, by omega⟩
    have hn30 : 2 + tn < 31 ∧ (lg = false → 2 + tn ≤ 6) := by
      cases lg
      · have : (tn : Int) < 5 := t1
        exact ⟨by omega, fun _ => by omega⟩
      · have : (tn : Int) < 29 := t1
        exact ⟨by omega, fun z => by cases z⟩
    have hn2 : 2 ≤ 2 + tn := by omega
    show tSeq _ _ _ [some (.ref a0), some (.ref b), some (.bl lg), some (.int ((2 + tn : Nat) : Int)), none, none, none, none, none, none, none, none, none, none, none, none, none, none, none, none, none] _
    revert hn30 hn2
    generalize 2 + tn = n
    intro hn30 hn2
    refine ⟨_, rfl, _, rfl, ?_⟩
    refine tIf_q lg 60 12 (fun R h => ⟨_, rfl, _, rfl, h⟩) (fun R h => h) (fun R h => h) ?_
    have hms : ∃ most : Nat, (if lg = true then (60 : Int) else 12) = (most : Int) ∧ 2 ≤ most ∧ most ≤ 60 := by
      cases lg
      · exact ⟨12, rfl, by omega, by omega⟩
      · exact ⟨60, rfl, by omega, by omega⟩
    obtain ⟨most, hme, hm2, hm60⟩ := hms
    refine ⟨b, c, n, most, by rw [hme]; rfl, B3, hn2, by omega, hm2, by omega, fun p pa px ts as xs H4 N4 hp ok pos bal => ?_⟩
    refine ⟨p, _, rfl, SqL.of hp, rfl, _, _, rfl, _, _, rfl, rfl, ?_⟩
    have few : as.length ≤ 60 := Nat.le_trans ok.few hm60
    have good := ok.good
    have hlx := ok.len
    clear hme hm2 hm60 ok most hp p
    -- bounds
    have hts : (ts.map V.ref).length = as.length := by rw [List.length_map, N4.ln]
    refine ⟨_, rfl, _, _, rfl, .inl (SqL.of N4.la), _, rfl, (rg_ok (by rw [hts]; omega)).1, (rg_ok (by rw [hts]; omega)).2, fun bo hbo => lc_rng (n := (ts.map V.ref).length)
      (fun i H5 => NetSt b c pa px H3 H5 ts as xs ∧ ∃ (us : List Addr) (lo hi : List Int), BndU H5 bo us lo hi ∧ lo.length = i ∧ ∀ k, k < i → Cir.part lo k ≤ Cir.part xs k ∧ Cir.part xs k ≤ Cir.part hi k)
      ⟨N4.new hbo, [], [], [], ⟨upd_same, rfl, rfl, fun k u hu => by simp at hu⟩, rfl, fun k hk => by omega⟩ ?_ ?_⟩
    · rintro i H5 hi' ⟨N5, us, lo, hi, BU, hlo, hin⟩
      rw [hts] at hi'
      have hxi : i < xs.length := by omega
      refine ⟨rfl, _, rfl, _, rfl, _, _, _, _, rfl, rfl, SqL.of N5.lx, at_part hxi, _, rfl, b, c, 4, rfl, N5.bag, by decide, by decide, fun t1 H6 p0 p1 e6 B6 => ⟨_, _, rfl, rfl, ?_⟩⟩
      have N6 := N5.take e6 B6
      have bof : bo ≠ b := N4.bag.neb hbo
      have boc : bo ≠ c := N4.bag.nec hbo
      obtain ⟨bi5, bv5, bs5, hb5⟩ := N5.bag.b
      have BU6 := BU.fr e6 (by simpa using bof) (fun a ha l z => by
        rw [List.mem_singleton] at ha
        rw [ha, hb5] at z
        cases z)
      refine ⟨_, rfl, _, rfl, _, _, _, _, rfl, rfl, SqL.of N6.lx, at_part hxi, _, rfl, b, c, 4, rfl, N6.bag, by decide, by decide, fun t2 H7 p2 p3 e7 B7 => ⟨_, _, rfl, rfl, by show 2 ≤ sizeLine; decide, fun u hu => ?_⟩⟩
      have N7 := N6.take e7 B7
      obtain ⟨bi6, bv6, bs6, hb6⟩ := N6.bag.b
      have BU7 := BU6.fr e7 (by simpa using bof) (fun a ha l z => by
        rw [List.mem_singleton] at ha
        rw [ha, hb6] at z
        cases z)
      refine ⟨_, BU7.stay hu, len_lt (by rw [List.length_map, BU7.2.1]; omega), ?_, us ++ [u], lo ++ [Cir.part xs i - t1], hi ++ [Cir.part xs i + t2], BU7.snoc hu _ _, by simp [hlo], fun k hk => ?_⟩
      · exact (N7.new hu).lst (BU7.stay hu) (ne_of_none N4.la hbo).symm (ne_of_none N4.lx hbo).symm bof boc (fr_free N4.fr bof hbo)
      · have hh := BU.2.2.1
        by_cases d : k < i
        · rw [Cir.part_snoc_lt (by omega), Cir.part_snoc_lt (by omega)]
          exact hin k d
        · have e1 : k = lo.length := by omega
          have e2 : k = hi.length := by omega
          have l1 : Cir.part (lo ++ [Cir.part xs i - t1]) k = Cir.part xs i - t1 := by rw [e1, Cir.part_snoc]
          have l2 : Cir.part (hi ++ [Cir.part xs i + t2]) k = Cir.part xs i + t2 := by rw [e2, Cir.part_snoc]
          rw [l1, l2, show k = i by omega]
          omega
    rintro H5 ⟨N5, us, lo, hi, BU, hlo, hin⟩
    rw [hts] at hlo hin
    have bof : bo ≠ b := N4.bag.neb hbo
    have boc : bo ≠ c := N4.bag.nec hbo
    have boa : bo ≠ pa := (ne_of_none N4.la hbo).symm
    have box : bo ≠ px := (ne_of_none N4.lx hbo).symm
    have bo0 : H3 bo = none := fr_free N4.fr bof hbo
    clear N4 hbo
    -- kind
    refine ⟨_, rfl, b, c, 4, rfl, N5.bag, by decide, by decide, fun kd H6 k0 k1 e6 B6 => ?_⟩
    have N6 := N5.take e6 B6
    obtain ⟨bi5, bv5, bs5, hb5⟩ := N5.bag.b
    have BU6 := BU.fr e6 (by simpa using bof) (fun a ha l z => by
      rw [List.mem_singleton] at ha
      rw [ha, hb5] at z
      cases z)
    clear N5 BU B6 e6 hb5
    -- pinched
    refine ⟨fun σ' H' => ∃ (us : List Addr) (lo hi : List Int) (w : Str), NetSt b c pa px H3 H' ts as xs ∧ BndU H' bo us lo hi ∧ lo.length = as.length ∧ (∀ k, k < as.length → Cir.part lo k ≤ Cir.part hi k) ∧ Due as lo hi w ∧ (kd = 3 → w = ("whole" : Str)) ∧
      σ' = [some (.ref a0), some (.ref b), some (.bl lg), some (.int (n : Int)), some (.ref pa), some (.ref px), some (.ref bo), some (.str w), some (.int kd), none, none, none, none, none, none, none, none, none, none, none, none], ?_, ?_⟩
    · have stay : (kd = 3 → True) → ∃ (us : List Addr) (lo hi : List Int) (w : Str), NetSt b c pa px H3 H6 ts as xs ∧ BndU H6 bo us lo hi ∧ lo.length = as.length ∧ (∀ k, k < as.length → Cir.part lo k ≤ Cir.part hi k) ∧ Due as lo hi w ∧ (kd = 3 → w = ("whole" : Str)) ∧
          ([some (.ref a0), some (.ref b), some (.bl lg), some (.int (n : Int)), some (.ref pa), some (.ref px), some (.ref bo), some (.str "whole"), some (.int kd), none, none, none, none, none, none, none, none, none, none, none, none] : List (Option V)) = [some (.ref a0), some (.ref b), some (.bl lg), some (.int (n : Int)), some (.ref pa), some (.ref px), some (.ref bo), some (.str w), some (.int kd), none, none, none, none, none, none, none, none, none, none, none, none] := fun _ => by
        refine ⟨us, lo, hi, "whole", N6, BU6, hlo, fun k hk => ?_, .inl ⟨rfl, xs, ⟨hlx.symm, hlo, by rw [BU6.2.2.1, hlo], hin⟩, bal⟩, fun _ => rfl, rfl⟩
        have := hin k hk
        omega
      refine ⟨_, rfl, rfl, _, rfl, eq_if (fun c1 => ?_) fun _ => ⟨_, rfl, rfl, _, rfl, eq_if (fun c1 => ?_) fun _ => stay fun _ => trivial⟩⟩
      all_goals
        have hk3 : kd ≠ 3 := by omega
        refine ⟨_, rfl, _, rfl, _, rfl, _, rfl, _, rfl, b, c, n, pa, px, bo, us, as, xs, lo, hi, rfl, N6.bag, by omega, N6.pairs, SqL.of N6.lx, BU6, hlx, hlo, by omega, bof, boc, boa.symm, box.symm, N6.pab, N6.pxb, bal, hin, fun H7 f7 B7 BU7 => ⟨_, rfl, iteF ?_⟩, fun us' lo' hi' S H7 f7 B7 BU7 hl' hle' nd ex => ⟨_, rfl, iteT ?_⟩⟩
        · refine ⟨us, lo, hi, "whole", N6.bo f7 B7 bo0 BU6.1 boa.symm box.symm, BU7, hlo, fun k hk => ?_, .inl ⟨rfl, xs, ⟨hlx.symm, hlo, by rw [BU6.2.2.1, hlo], hin⟩, bal⟩, fun _ => rfl, rfl⟩
          have := hin k hk
          omega
        · exact ⟨us', lo', hi', "cut", N6.bo f7 B7 bo0 BU6.1 boa.symm box.symm, BU7, hl', hle', .inr ⟨rfl, S, nd, ex⟩, fun z => absurd z hk3, rfl⟩
    · clear N6 BU6 hin hlo us lo hi
      rintro σ' H7 ⟨us, lo, hi, w, N7, BU7, hlo, hle, due, hkd, rfl⟩
      -- free bounds
      refine ⟨fun σ' H' => ∃ (bo : Addr) (us : List Addr) (lo hi : List Int) (w : Str) (o9 : Option V), NetSt b c pa px H3 H' ts as xs ∧ BndU H' bo us lo hi ∧ lo.length = as.length ∧ (∀ k, k < as.length → Cir.part lo k ≤ Cir.part hi k) ∧ (¬ (kd = 3 ∧ lg = false) → Due as lo hi w) ∧ (kd = 3 → w = ("whole" : Str)) ∧
        σ' = [some (.ref a0), some (.ref b), some (.bl lg), some (.int (n : Int)), some (.ref pa), some (.ref px), some (.ref bo), some (.str w), some (.int kd), o9, none, none, none, none, none, none, none, none, none, none, none], ?_, ?_⟩
      · refine ⟨_, rfl, rfl, _, rfl, eq_if (fun c3 => ⟨_, rfl, _, rfl, ?_⟩) fun c3 => ⟨bo, us, lo, hi, w, none, N7, BU7, hlo, hle, fun _ => due, hkd, rfl⟩⟩
        cases lg with
        | true => exact iteF ⟨bo, us, lo, hi, w, none, N7, BU7, hlo, hle, fun _ => due, hkd, rfl⟩
        | false =>
          refine iteT ?_
          have hw := hkd c3
          refine ⟨_, rfl, _, _, rfl, .inl (SqL.of N7.la), _, rfl, (rg_ok (by rw [hts]; omega)).1, (rg_ok (by rw [hts]; omega)).2, fun D hD => lc_rng (n := (ts.map V.ref).length)
            (fun i H8 => NetSt b c pa px H3 H8 ts as xs ∧ ∃ ls : List Int, H8 D = some (.lst (ls.map V.int)) ∧ ls.length = i) ⟨N7.new hD, [], upd_same, rfl⟩ ?_ ?_⟩
          · rintro i H8 hi' ⟨N8, ls, hl1, hl2⟩
            rw [hts] at hi'
            refine ⟨rfl, _, rfl, b, c, 6, rfl, N8.bag, by decide, by decide, fun t1 H9 p0 p1 e9 B9 => ⟨_, _, rfl, rfl, ?_⟩⟩
            have N9 := N8.take e9 B9
            have Db : D ≠ b := N7.bag.neb hD
            have hl3 := e9 _ _ hl1 (by simpa using Db)
            refine ⟨_, hl3, len_lt (by rw [List.length_map]; omega), N9.lst hl3 (ne_of_none N7.la hD).symm (ne_of_none N7.lx hD).symm Db (N7.bag.nec hD) (fr_free N7.fr Db hD), ls ++ [t1 - 2], ?_, by simp [hl2]⟩
            rw [upd_same, List.map_append]
            rfl
          rintro H8 ⟨N8, ls, hl1, hl2⟩
          rw [hts] at hl2
          have Db : D ≠ b := N7.bag.neb hD
          refine ⟨_, rfl, _, _, rfl, .inl (SqL.of N8.la), _, rfl, (rg_ok (by rw [hts]; omega)).1, (rg_ok (by rw [hts]; omega)).2, fun bo2 hbo => lc_rng (n := (ts.map V.ref).length)
            (fun i H5 => NetSt b c pa px H3 H5 ts as xs ∧ H5 D = some (.lst (ls.map V.int)) ∧ ∃ (us : List Addr) (lo hi : List Int), BndU H5 bo2 us lo hi ∧ lo.length = i ∧ ∀ k, k < i → Cir.part lo k ≤ Cir.part hi k)
            ⟨N8.new hbo, by rw [upd_ne (ne_of_none hl1 hbo)]; exact hl1, [], [], [], ⟨upd_same, rfl, rfl, fun k u hu => by simp at hu⟩, rfl, fun k hk => by omega⟩ ?_ ?_⟩
          · rintro i H9 hi' ⟨N9, hl9, us, lo, hi, BU, hlo, hin⟩
            rw [hts] at hi'
            have hli : i < ls.length := by omega
            have bof : bo2 ≠ b := N8.bag.neb hbo
            obtain ⟨bi5, bv5, bs5, hb5⟩ := N9.bag.b
            refine ⟨rfl, _, rfl, _, rfl, _, _, _, _, rfl, rfl, SqL.of hl9, at_part hli, _, rfl, _, rfl, _, _, _, _, rfl, rfl, SqL.of hl9, at_part hli, _, rfl, b, c, 5, rfl, N9.bag, by decide, by decide, fun t2 H10 p2 p3 e10 B10 => ⟨_, _, rfl, rfl, by show 2 ≤ sizeLine; decide, fun u hu => ?_⟩⟩
            have N10 := N9.take e10 B10
            have BU10 := BU.fr e10 (by simpa using bof) (fun a ha l z => by
              rw [List.mem_singleton] at ha
              rw [ha, hb5] at z
              cases z)
            have hl10 := e10 _ _ hl9 (by simpa using Db)
            refine ⟨_, BU10.stay hu, len_lt (by rw [List.length_map, BU10.2.1]; omega), ?_, ?_, us ++ [u], lo ++ [Cir.part ls i], hi ++ [Cir.part ls i + t2], BU10.snoc hu _ _, by simp [hlo], fun k hk => ?_⟩
            · exact (N10.new hu).lst (BU10.stay hu) (ne_of_none N8.la hbo).symm (ne_of_none N8.lx hbo).symm bof (N8.bag.nec hbo) (fr_free N8.fr bof hbo)
            · rw [upd_ne (ne_of_none hl1 hbo), upd_ne (ne_of_none hl10 hu)]
              exact hl10
            · have hh := BU.2.2.1
              by_cases d : k < i
              · rw [Cir.part_snoc_lt (by omega), Cir.part_snoc_lt (by omega)]
                exact hin k d
              · have e1 : k = lo.length := by omega
                have e2 : k = hi.length := by omega
                have l1 : Cir.part (lo ++ [Cir.part ls i]) k = Cir.part ls i := by rw [e1, Cir.part_snoc]
                have l2 : Cir.part (hi ++ [Cir.part ls i + t2]) k = Cir.part ls i + t2 := by rw [e2, Cir.part_snoc]
                rw [l1, l2]
                omega
          rintro H9 ⟨N9, hl9, us2, lo2, hi2, BU, hlo2, hin2⟩
          rw [hts] at hlo2 hin2
          exact ⟨bo2, us2, lo2, hi2, w, _, N9, BU, hlo2, hin2, fun z => absurd ⟨c3, rfl⟩ z, fun _ => hw, rfl⟩
      rintro σ' H8 ⟨bo, us, lo, hi, w, o9, N8, BU8, hlo, hle, due, hkd, rfl⟩
      have hg : GoodN n as lo hi := fun k hk => ⟨good k hk, hle k hk⟩
      have hih : hi.length = as.length := by rw [BU8.2.2.1, hlo]
      -- arcs
      refine ⟨_, rfl, _, _, rfl, .inl (SqL.of N8.la), _, rfl, (rg_ok (by rw [hts]; omega)).1, (rg_ok (by rw [hts]; omega)).2, fun ar har => lc_rng (n := (ts.map V.ref).length)
        (fun i H9 => Fr [] H8 H9 ∧ ∃ qs : List Addr, H9 ar = some (.lst (qs.map V.ref)) ∧ qs.length = i ∧ ∀ (k : Nat) (q : Addr), qs[k]? = some q → H9 q = some (.tup (q4 as lo hi k))) ⟨(Fr.refl [] H8).new har, [], upd_same, rfl, fun k q h => by simp at h⟩ ?_ ?_⟩
      · rintro i H9 hi' ⟨e9, qs, q1, q2, q3⟩
        rw [hts] at hi'
        have ht : ts[i]? = some (ts[i]'(by rw [N8.ln]; exact hi')) := List.getElem?_eq_getElem _
        have htup := N8.tup i _ _ ht (Cir.get_arc hi')
        obtain ⟨u, u1, u2⟩ := BU8.at (k := i) (by rw [hlo]; exact hi')
        refine ⟨rfl, _, rfl, _, rfl, _, _, _, _, rfl, rfl, SqL.of (e9 _ _ N8.la (by simp)), at_map ht, _, rfl, _, rfl, _, _, _, _, rfl, rfl, SqL.of (e9 _ _ BU8.1 (by simp)), u1, _, _, _, _, rfl, rfl, SqT.of (e9 _ _ htup (by simp)), SqT.of (e9 _ _ u2 (by simp)), by simp, by show 4 ≤ sizeLine; decide, (fun z => by cases z), fun _ q hq => ?_⟩
        have q1' : (upd H9 q (.tup ([V.int (Cir.arcOf as i).1, V.int (Cir.arcOf as i).2] ++ [V.int (Cir.part lo i), V.int (Cir.part hi i)]))) ar = some (.lst (qs.map V.ref)) := by rw [upd_ne (ne_of_none q1 hq)]; exact q1
        refine ⟨_, q1', len_lt (by rw [List.length_map]; omega), (e9.new hq).put (.inr har), qs ++ [q], by rw [upd_same, List.map_append]; rfl, by simp [q2], fun k r hr => ?_⟩
        rcases Cir.getElem?_snoc_last hr with ⟨hl, hr⟩ | ⟨hl, rfl⟩
        · have z := q3 k r hr
          rw [upd_ne (ne_of z q1 (by intro y; cases y)), upd_ne (ne_of_none z hq)]
          exact z
        · rw [hl, q2, upd_ne (ne_of_none q1 hq).symm]
          exact upd_same
      rintro H9 ⟨e9, qs, q1, q2, q3⟩
      rw [hts] at q2
      have arb : ar ≠ b := N8.bag.neb har
      have arc_ : ar ≠ c := N8.bag.nec har
      have B9 : BagC H9 b c := N8.bag.fr e9 (by simp) (by simp)
      have NA9 : NetAt K H9 ar as lo hi := ⟨qs, SqL.of q1, q2, hlo, hih, fun k q hq => SqT.of (q3 k q hq)⟩
      clear N8 BU8 e9 har
      -- barred
      refine ⟨fun σ' H' => ∃ w : Str, Fr [] H9 H' ∧ Due as lo hi w ∧ σ' = [some (.ref a0), some (.ref b), some (.bl lg), some (.int (n : Int)), some (.ref pa), some (.ref px), some (.ref bo), some (.str w), some (.int kd), o9, some (.ref ar), none, none, none, none, none, none, none, none, none, none], ?_, ?_⟩
      · refine ⟨_, rfl, rfl, _, rfl, eq_if (fun c3 => ⟨_, rfl, _, rfl, ?_⟩) fun c3 => ⟨w, Fr.refl _ _, due fun z => c3 z.1, rfl⟩⟩
        cases lg with
        | true => exact iteF ⟨w, Fr.refl _ _, due fun z => (by cases z.2), rfl⟩
        | false =>
          refine iteT ?_
          refine ⟨_, rfl, _, rfl, n, ar, as, lo, hi, rfl, NA9, hn30.2 rfl, good, fun bb H10 e10 y1 y2 => ⟨_, rfl, ?_⟩⟩
          cases bb with
          | true => exact iteT ⟨"cut", e10, .inr ⟨rfl, y1 rfl⟩, rfl⟩
          | false =>
            refine iteF ⟨w, e10, ?_, rfl⟩
            rw [hkd c3]
            exact due_whole hg hlo hih (y2 rfl)
      clear due hkd w
      rintro σ' H10 ⟨w, e10, due, rfl⟩
      have NA10 := NA9.fr e10
      have B10 : BagC H10 b c := B9.fr e10 (by simp) (by simp)
      obtain ⟨ys, y1, y2, y3⟩ := NA10.copy
      -- passed
      refine ⟨_, rfl, _, _, rfl, .inl y1, fun lp hlp => ?_⟩
      have e11 : Fr [] H10 (upd H10 lp (.lst ys)) := (Fr.refl _ _).new hlp
      have NAp := y3 lp hlp
      show tSeq _ _ _ _ (upd H10 lp (.lst ys))
      revert e11 NAp
      generalize upd H10 lp (.lst ys) = H11
      intro e11 NAp
      -- told
      obtain ⟨hw, hans⟩ := due_word hg hlo hih due
      refine ⟨_, rfl, _, rfl, n, lp, as, lo, hi, rfl, NAp, by omega, by omega, fun _ p l H12 zp zl e12 hp hl => ?_, fun k hb => absurd hg (bad_not hb)⟩
      rw [hw] at hp
      have lnb : l ≠ b := (B10.fr e11 (by simp) (by simp)).neb zl
      have e12' := e11.trans e12
      have NA12 := NA10.fr e12'
      have NAp12 := NAp.fr e12
      refine ⟨_, rfl, _, _, _, _, true, rfl, .ty _, .base (.tup hp), kit_ty (by decide +kernel), _, rfl, iteF ?_⟩
      refine ⟨_, rfl, _, _, rfl, .inr (SqT.of hp), rfl, _, rfl, iteN (by rfl) ?_⟩
      refine ⟨_, rfl, _, _, _, _, rfl, rfl, SqT.of hp, rfl, _, rfl, rfl, _, rfl, iteN (by simp) ?_⟩
      refine ⟨_, rfl, _, rfl, dNet as lo hi, dNet as lo hi, dp_net NAp12, dp_net NA12, net_shaped _ _ _, net_shaped _ _ _, _, rfl, iteN (by rw [SeqAt.eqv_refl _ (net_lay as lo hi)]; rfl) ?_⟩
      -- once more
      obtain ⟨ys2, y4, y5, y6⟩ := NA12.copy
      refine ⟨_, rfl, _, rfl, _, _, rfl, .inl y4, fun l2 hl2 => ⟨n, l2, as, lo, hi, rfl, y6 l2 hl2, by omega, by omega, fun _ p2 l3 H13 zp2 zl2 e13 hp2 hl3 => ?_, fun k hb => absurd hg (bad_not hb)⟩⟩
      rw [hw] at hp2
      have e13' : Fr [] H12 H13 := ((Fr.refl [] H12).new hl2).trans e13
      have hp13 := e13' _ _ hp (by simp)
      have hl13 := e13' _ _ hl (by simp)
      refine ⟨_, rfl, dTold w _, dTold w _, dp_told hp2 hl3, dp_told hp13 hl13, told_shaped due.word _, told_shaped due.word _, _, rfl, iteN (by rw [SeqAt.eqv_refl _ (told_lay due.word _)]; rfl) ?_⟩
      have e14 := e10.trans (e12'.trans e13')
      have NA13 := NA9.fr e14
      have B13 : BagC H13 b c := B9.fr e14 (by simp) (by simp)
      have q13 := e14 _ _ q1 (by simp)
      have q313 : ∀ (k : Nat) (q : Addr), qs[k]? = some q → H13 q = some (.tup (q4 as lo hi k)) := fun k q hq => e14 _ _ (q3 k q hq) (by simp)
      clear e14 e13' e13 hp2 hl3 y6 y5 y4 NA12 NAp12 hp hl e12' e12 zp zl zp2 zl2 hl2 NAp e11 hlp y3 y2 y1 B10 NA10 e10 NA9 B9 q3 q1
      revert hans hl13
      generalize ansOf (Cir.circF n as lo hi) = an
      intro hans hl13
      -- nodes
      obtain ⟨bi13, bv13, bs13, hb13⟩ := B13.b
      refine ⟨_, rfl, _, rfl, (rg_ok (by omega)).1, (rg_ok (by omega)).2, fun D hD => lc_rng (n := n)
        (fun i H2 => Fr [b] H13 H2 ∧ BagC H2 b c ∧ ∃ S : List Nat, H2 D = some (.lst (S.map vN)) ∧ S.Pairwise (· < ·) ∧ ∀ k ∈ S, k < i) ⟨((Fr.refl [b] H13).new hD), B13.new hD, [], upd_same, List.Pairwise.nil, fun k h => by simp at h⟩ ?_ ?_⟩
      · rintro i H2 hi' ⟨e2, B2, S, hd, asc, bd⟩
        refine ⟨rfl, _, rfl, b, c, 2, rfl, B2, by decide, by decide, fun z H3 z0 z1 e3 B3 => ⟨rfl, _, rfl, eq_if (fun _ => ?_) fun _ => ?_⟩⟩
        · have hd3 := e3 _ _ hd (by rw [List.mem_singleton]; exact (B13.neb hD))
          refine ⟨_, rfl, _, hd3, len_lt ?_, (e2.trans e3).put (.inr hD), B3.put (B13.neb hD) (B13.nec hD), S ++ [i], ?_, (asc_snoc asc bd).1, (asc_snoc asc bd).2⟩
          · rw [List.length_map]
            have := Cir.nodup_le n (Cir.ints_ S) (Cir.ints_nd (asc.imp fun {a b} h => by omega)) fun v hv => by
              obtain ⟨k, hk, rfl⟩ := Cir.mem_ints.mp hv
              have := bd k hk
              omega
            simp [Cir.ints_] at this
            omega
          · rw [upd_same, List.map_append]
            rfl
        · have hd3 := e3 _ _ hd (by rw [List.mem_singleton]; exact (B13.neb hD))
          exact ⟨e2.trans e3, B3, S, hd3, asc, fun k hk => by have := bd k hk; omega⟩
      rintro H14 ⟨e14, B14, S, hd, asc, bd⟩
      have hd : H14 D = some (.lst ((Cir.ints_ S).map V.int)) := by
        rw [ints_map]
        exact hd
      have asc2 : (Cir.ints_ S).Pairwise (· < ·) := List.Pairwise.map _ (fun a b h => by omega) asc
      have rng2 : ∀ v ∈ Cir.ints_ S, 0 ≤ v ∧ v < n := fun v hv => by
        obtain ⟨k, hk, rfl⟩ := Cir.mem_ints.mp hv
        have := bd k hk
        omega
      have Db : D ≠ b := B13.neb hD
      have NA14 := NA13.frb e14 arb hb13
      have neP : p ≠ b := ne_of hp13 hb13 (by intro z; cases z)
      have hp14 := e14 _ _ hp13 (by simpa using neP)
      refine ⟨fun σ' H' => ∃ (nd : Addr) (nn : List Int), Fr [] H14 H' ∧ H' nd = some (.lst (nn.map V.int)) ∧ nd ≠ b ∧ nn.Pairwise (· < ·) ∧ (∀ v ∈ nn, 0 ≤ v ∧ v < n) ∧ σ' = [some (.ref a0), some (.ref b), some (.bl lg), some (.int (n : Int)), some (.ref pa), some (.ref px), some (.ref bo), some (.str w), some (.int kd), o9, some (.ref ar), some (.ref lp), some (.ref p), some (.ref nd), none, none, none, none, none, none, none], ?_, ?_⟩
      · have hl14 := e14 _ _ hl13 (by simpa using lnb)
        refine ⟨_, rfl, rfl, _, rfl, ?_⟩
        rcases hans with ⟨hww, BN, bal2⟩ | ⟨hww, a3, r3, ex⟩
        · refine dec_iff (fun cc => ?_) fun _ => ?_
          · rw [hww] at cc
            exact absurd (V.str.inj cc) (by decide +kernel)
          · exact ⟨_, rfl, _, rfl, _, rfl, _, _, _, _, rfl, rfl, SqT.of hp14, rfl, n, ar, l, as, lo, hi, an, rfl, NA14, hl14, by omega, by omega, good, BN, bal2, fun H15 e15 => ⟨_, rfl, iteF ⟨D, Cir.ints_ S, e15, e15 _ _ hd (by simp), Db, asc2, rng2, rfl⟩⟩⟩
        · refine dec_iff (fun _ => ?_) fun cc => absurd (congrArg V.str hww) cc
          refine ⟨_, rfl, _, rfl, _, rfl, _, _, _, _, rfl, rfl, SqT.of hp14, rfl, n, ar, l, as, lo, hi, an, rfl, NA14, hl14, ?_⟩
          rw [cutF_yes a3 r3 ex]
          refine ⟨_, rfl, iteF ?_⟩
          refine ⟨_, rfl, _, _, _, _, rfl, rfl, SqT.of hp14, rfl, _, _, rfl, .inl (SqL.of hl14), fun nd hnd => ?_⟩
          exact ⟨nd, an, (Fr.refl _ _).new hnd, upd_same, B14.neb hnd, a3, r3, rfl⟩
      rintro σ' H15 ⟨nd, nn, e15, hnd, ndb, asc3, rng3, rfl⟩
      have NA15 := NA14.fr e15
      have B15 : BagC H15 b c := B14.fr e15 (by simp) (by simp)
      refine ⟨_, rfl, _, rfl, _, rfl, _, rfl, b, c, n, ar, nd, as, lo, hi, nn, rfl, B15, NA15, hnd, arb, ndb, by omega, hn2, by omega, hg, asc3, rng3, fun H16 e16 B16 => ⟨_, rfl, iteF ?_⟩⟩
      obtain ⟨bi15, bv15, bs15, hb15⟩ := B15.b
      have NA16 := NA15.frb e16 arb hb15
      have q16 : H16 ar = some (.lst (qs.map V.ref)) := e16 _ _ (e15 _ _ (e14 _ _ q13 (by simpa using arb)) (by simp)) (by simpa using arb)
      -- at
      refine ⟨_, rfl, _, rfl, _, _, rfl, .inl (SqL.of q16), b, c, _, rfl, B16, by rw [List.length_map, q2]; omega, log_ok (Nat.lt_of_le_of_lt (m := 100) (by rw [List.length_map, q2]; omega) (by decide)), fun at_ H17 a0' a1' e17 B17 => ?_⟩
      rw [List.length_map, q2] at a1'
      obtain ⟨at_, rfl⟩ : ∃ q : Nat, at_ = (q : Int) := ⟨at_.toNat, by omega⟩
      have hat : at_ < as.length := by omega
      obtain ⟨bi16, bv16, bs16, hb16⟩ := B16.b
      have NA17 := NA16.frb e17 arb hb16
      have q17 := e17 _ _ q16 (by simpa using arb)
      have qt : qs[at_]? = some (qs[at_]'(by omega)) := List.getElem?_eq_getElem _
      have tup17 : SqT K H17 (qs[at_]'(by omega)) (q4 as lo hi at_) := by
        refine SqT.of ?_
        have z := q313 at_ _ qt
        have n13 := ne_of z hb13 (by intro y; cases y)
        have z14 := e14 _ _ z (by simpa using n13)
        have z15 := e15 _ _ z14 (by simp)
        have z16 := e16 _ _ z15 (by rw [List.mem_singleton]; exact ne_of z15 hb15 (by intro y; cases y))
        exact e17 _ _ z16 (by rw [List.mem_singleton]; exact ne_of z16 hb16 (by intro y; cases y))
      refine ⟨_, rfl, _, rfl, _, _, _, _, rfl, rfl, SqL.of q17, at_map qt, _, _, rfl, tup17, rfl, _, _, rfl, _, _, rfl, _, _, rfl, _, _, rfl, rfl, ?_⟩
      generalize htl : (Cir.arcOf as at_).1 = tl
      generalize hhd : (Cir.arcOf as at_).2 = hd_
      generalize hlw : Cir.part lo at_ = lw
      generalize hhg : Cir.part hi at_ = hg_
      -- wrong
      refine ⟨_, rfl, _, rfl, _, rfl, _, rfl, by show 4 ≤ sizeLine; decide, fun t1 h1 => ⟨_, rfl, _, rfl, _, rfl, _, rfl, by show 4 ≤ sizeLine; decide, fun t2 h2 => ⟨_, rfl, _, rfl, _, rfl, _, rfl, by show 4 ≤ sizeLine; decide, fun t3 h3 => ⟨_, rfl, _, rfl, _, rfl, _, _, rfl, rfl, _, rfl, by show 4 ≤ sizeLine; decide, fun t4 h4 => ⟨by show 4 ≤ sizeLine; decide, fun wr hwr => ?_⟩⟩⟩⟩⟩
      have g1 : Fr [] H17 (upd H17 t1 (.tup [.int tl, .int tl, .int lw, .int hg_])) := (Fr.refl _ _).new h1
      have g2 := g1.new (o := .tup [.int (n : Int), .int hd_, .int lw, .int hg_]) h2
      have g3 := g2.new (o := .tup [.int tl, .int (-1), .int lw, .int hg_]) h3
      have g4 := g3.new (o := .tup [.int tl, .int hd_, .int (hg_ + 1), .int hg_]) h4
      have g5 := g4.new (o := .lst [.ref t1, .ref t2, .ref t3, .ref t4]) hwr
      have w1 := ((((Fr.refl [] (upd H17 t1 (.tup [.int tl, .int tl, .int lw, .int hg_]))).new (o := .tup [.int (n : Int), .int hd_, .int lw, .int hg_]) h2).new (o := .tup [.int tl, .int (-1), .int lw, .int hg_]) h3).new (o := .tup [.int tl, .int hd_, .int (hg_ + 1), .int hg_]) h4).new (o := .lst [.ref t1, .ref t2, .ref t3, .ref t4]) hwr _ _ upd_same (by simp)
      have w2 := (((Fr.refl [] (upd (upd H17 t1 (.tup [.int tl, .int tl, .int lw, .int hg_])) t2 (.tup [.int (n : Int), .int hd_, .int lw, .int hg_]))).new (o := .tup [.int tl, .int (-1), .int lw, .int hg_]) h3).new (o := .tup [.int tl, .int hd_, .int (hg_ + 1), .int hg_]) h4).new (o := .lst [.ref t1, .ref t2, .ref t3, .ref t4]) hwr _ _ upd_same (by simp)
      have w3 := ((Fr.refl [] (upd (upd (upd H17 t1 (.tup [.int tl, .int tl, .int lw, .int hg_])) t2 (.tup [.int (n : Int), .int hd_, .int lw, .int hg_])) t3 (.tup [.int tl, .int (-1), .int lw, .int hg_]))).new (o := .tup [.int tl, .int hd_, .int (hg_ + 1), .int hg_]) h4).new (o := .lst [.ref t1, .ref t2, .ref t3, .ref t4]) hwr _ _ upd_same (by simp)
      have w4 := (Fr.refl [] (upd (upd (upd (upd H17 t1 (.tup [.int tl, .int tl, .int lw, .int hg_])) t2 (.tup [.int (n : Int), .int hd_, .int lw, .int hg_])) t3 (.tup [.int tl, .int (-1), .int lw, .int hg_])) t4 (.tup [.int tl, .int hd_, .int (hg_ + 1), .int hg_]))).new (o := .lst [.ref t1, .ref t2, .ref t3, .ref t4]) hwr _ _ upd_same (by simp)
      have w5 : (upd (upd (upd (upd (upd H17 t1 (.tup [.int tl, .int tl, .int lw, .int hg_])) t2 (.tup [.int (n : Int), .int hd_, .int lw, .int hg_])) t3 (.tup [.int tl, .int (-1), .int lw, .int hg_])) t4 (.tup [.int tl, .int hd_, .int (hg_ + 1), .int hg_])) wr (.lst [.ref t1, .ref t2, .ref t3, .ref t4])) wr = some (.lst [.ref t1, .ref t2, .ref t3, .ref t4]) := upd_same
      have wrb : wr ≠ b := B17.neb (g4.free hwr)
      show tSeq _ _ _ _ (upd (upd (upd (upd (upd H17 t1 (.tup [.int tl, .int tl, .int lw, .int hg_])) t2 (.tup [.int (n : Int), .int hd_, .int lw, .int hg_])) t3 (.tup [.int tl, .int (-1), .int lw, .int hg_])) t4 (.tup [.int tl, .int hd_, .int (hg_ + 1), .int hg_])) wr (.lst [.ref t1, .ref t2, .ref t3, .ref t4]))
      revert g5 w1 w2 w3 w4 w5
      generalize (upd (upd (upd (upd (upd H17 t1 (.tup [.int tl, .int tl, .int lw, .int hg_])) t2 (.tup [.int (n : Int), .int hd_, .int lw, .int hg_])) t3 (.tup [.int tl, .int (-1), .int lw, .int hg_])) t4 (.tup [.int tl, .int hd_, .int (hg_ + 1), .int hg_])) wr (.lst [.ref t1, .ref t2, .ref t3, .ref t4])) = H18
      intro g5 w1 w2 w3 w4 w5
      clear g1 g2 g3 g4 h1 h2 h3 h4 hwr
      have B18 : BagC H18 b c := B17.fr g5 (by simp) (by simp)
      refine ⟨_, rfl, _, rfl, b, c, 4, rfl, B18, by decide, by decide, fun z H19 zz0 zz1 e19 B19 => ?_⟩
      obtain ⟨bi18, bv18, bs18, hb18⟩ := B18.b
      obtain ⟨bi17, bv17, bs17, hb17⟩ := B17.b
      have q19 := e19 _ _ (g5 _ _ q17 (by simp)) (by simpa using arb)
      have q319 : ∀ (k : Nat) (q : Addr), qs[k]? = some q → H19 q = some (.tup (q4 as lo hi k)) := fun k q hq => by
        have z := q313 k q hq
        have z14 := e14 _ _ z (by rw [List.mem_singleton]; exact ne_of z hb13 (by intro y; cases y))
        have z15 := e15 _ _ z14 (by simp)
        have z16 := e16 _ _ z15 (by rw [List.mem_singleton]; exact ne_of z15 hb15 (by intro y; cases y))
        have z17 := e17 _ _ z16 (by rw [List.mem_singleton]; exact ne_of z16 hb16 (by intro y; cases y))
        have z18 := g5 _ _ z17 (by simp)
        exact e19 _ _ z18 (by rw [List.mem_singleton]; exact ne_of z18 hb18 (by intro y; cases y))
      have up : ∀ {t : Addr} {l : List V}, H18 t = some (.tup l) → H19 t = some (.tup l) := fun {t l} z => e19 _ _ z (by rw [List.mem_singleton]; exact ne_of z hb18 (by intro y; cases y))
      have w5' := e19 _ _ w5 (by simpa using wrb)
      have g := good at_ hat
      rw [← Prod.eta (Cir.arcOf as at_), htl, hhd] at g
      have pick : ∃ (tz : Addr) (e : Cir.Arc) (l h : Int), atI ([.ref t1, .ref t2, .ref t3, .ref t4] : List V) z = some (.ref tz) ∧ H19 tz = some (.tup [.int e.1, .int e.2, .int l, .int h]) ∧ ¬ (Cir.Good n e ∧ l ≤ h) := by
        have zc : z = 0 ∨ z = 1 ∨ z = 2 ∨ z = 3 := by omega
        rcases zc with rfl | rfl | rfl | rfl
        · exact ⟨t1, (tl, tl), lw, hg_, rfl, up w1, fun y => y.1.2.2 rfl⟩
        · exact ⟨t2, (n, hd_), lw, hg_, rfl, up w2, fun y => absurd y.1.1.2 (by show ¬ (n : Int) < n; omega)⟩
        · exact ⟨t3, (tl, -1), lw, hg_, rfl, up w3, fun y => absurd y.1.2.1.1 (by show ¬ (0 : Int) ≤ -1; omega)⟩
        · exact ⟨t4, (tl, hd_), hg_ + 1, hg_, rfl, up w4, fun y => by have := y.2; omega⟩
      obtain ⟨tz, e, l_, h_, pk1, pk2, pk3⟩ := pick
      refine ⟨_, _, _, _, rfl, rfl, SqL.of w5', pk1, _, rfl, _, rfl, _, _, _, _, rfl, rfl, q19, ix_nat (by rw [List.length_map, q2]; exact hat), ?_⟩
      have NA20 := net_set_at (K := K) q19 q2 hlo hih hat q319 pk2
      have hbad := bad_set hg hlo hih hat pk3
      generalize (upd H19 ar (.lst ((qs.map V.ref).set at_ (.ref tz)))) = H20 at NA20 ⊢
      refine ⟨_, rfl, _, rfl, 0, n, ar, _, _, _, at_, rfl, NA20, by rw [List.length_set]; omega, by omega, hbad, fun p1 H21 e21 hp1 => ⟨_, rfl, by show 2 ≤ sizeLine; decide, fun q1 hq1 => ?_⟩⟩
      refine ⟨dE at_, dE at_, dp_E (by rw [upd_ne (ne_of_none hp1 hq1)]; exact hp1), dp_E upd_same, dE_shaped _, dE_shaped _, ?_⟩
      rw [SeqAt.eqv_refl _ (dE_lay _)]
      have e22 := e21.new (o := .lst [.int (at_ : Int), .bl true]) hq1
      refine ⟨true, rfl, iteT ?_⟩
      refine ⟨_, rfl, _, rfl, 1, n, ar, _, _, _, at_, rfl, NA20.fr e22, by rw [List.length_set]; omega, by omega, hbad, fun p2 H23 e23 hp2 => ⟨_, rfl, by show 2 ≤ sizeLine; decide, fun q2_ hq2 => ?_⟩⟩
      refine ⟨dE at_, dE at_, dp_E (by rw [upd_ne (ne_of_none hp2 hq2)]; exact hp2), dp_E upd_same, dE_shaped _, dE_shaped _, ?_⟩
      rw [SeqAt.eqv_refl _ (dE_lay _)]
      exact k _
end

/-! ### what the top has written, and the law -/
theorem all_mk {P : Program} {w : World} {K : PySem.W.Frag} {h : Heap} {mg : Str → Option Value} {fa CA CD CB f1 f2 f3 f4 f5 f6 f7 f8 f9 f10 f11 f12 f13 f14 f15 f16 f17 f18 f19 f20 f21 : Addr} (X : K.In h) (G : h.Ns mainGlobals mg) (hfa : mg "law" = some (.ref fa))
    {od1 an1 : Option Addr} {sl1 : Array (Option Value)} {oc1 kV1 dc1 pm1 cd1 ct1 : Value}
    {od2 an2 : Option Addr} {sl2 : Array (Option Value)} {oc2 kV2 dc2 pm2 cd2 ct2 : Value}
    {od3 an3 : Option Addr} {sl3 : Array (Option Value)} {oc3 kV3 dc3 pm3 cd3 ct3 : Value}
    {od4 an4 : Option Addr} {sl4 : Array (Option Value)} {oc4 kV4 dc4 pm4 cd4 ct4 : Value}
    {od5 an5 : Option Addr} {sl5 : Array (Option Value)} {oc5 kV5 dc5 pm5 cd5 ct5 : Value}
    {od6 an6 : Option Addr} {sl6 : Array (Option Value)} {oc6 kV6 dc6 pm6 cd6 ct6 : Value}
    {od7 an7 : Option Addr} {sl7 : Array (Option Value)} {oc7 kV7 dc7 pm7 cd7 ct7 : Value}
    {od8 an8 : Option Addr} {sl8 : Array (Option Value)} {oc8 kV8 dc8 pm8 cd8 ct8 : Value}
    {od9 an9 : Option Addr} {sl9 : Array (Option Value)} {oc9 kV9 dc9 pm9 cd9 ct9 : Value}
    {od10 an10 : Option Addr} {sl10 : Array (Option Value)} {oc10 kV10 dc10 pm10 cd10 ct10 : Value}
    {od11 an11 : Option Addr} {sl11 : Array (Option Value)} {oc11 kV11 dc11 pm11 cd11 ct11 : Value}
    {od12 an12 : Option Addr} {sl12 : Array (Option Value)} {oc12 kV12 dc12 pm12 cd12 ct12 : Value}
    {od13 an13 : Option Addr} {sl13 : Array (Option Value)} {oc13 kV13 dc13 pm13 cd13 ct13 : Value}
    {od14 an14 : Option Addr} {sl14 : Array (Option Value)} {oc14 kV14 dc14 pm14 cd14 ct14 : Value}
    {od15 an15 : Option Addr} {sl15 : Array (Option Value)} {oc15 kV15 dc15 pm15 cd15 ct15 : Value}
    {od16 an16 : Option Addr} {sl16 : Array (Option Value)} {oc16 kV16 dc16 pm16 cd16 ct16 : Value}
    {od17 an17 : Option Addr} {sl17 : Array (Option Value)} {oc17 kV17 dc17 pm17 cd17 ct17 : Value}
    {od18 an18 : Option Addr} {sl18 : Array (Option Value)} {oc18 kV18 dc18 pm18 cd18 ct18 : Value}
    {od19 an19 : Option Addr} {sl19 : Array (Option Value)} {oc19 kV19 dc19 pm19 cd19 ct19 : Value}
    {od20 an20 : Option Addr} {sl20 : Array (Option Value)} {oc20 kV20 dc20 pm20 cd20 ct20 : Value}
    {od21 an21 : Option Addr} {sl21 : Array (Option Value)} {oc21 kV21 dc21 pm21 cd21 ct21 : Value}
    (gA : PySem.W.nsIn K mainGlobals "BadArc" = some (some (.ref CA)))
    (TA : ∃ fI, XS.ErrTxt P K mg "BadArc" "BadArc.__init__" s_iA ["arc"] CA fI)
    (a1 : PySem.W.nsIn K mainGlobals "_check_bounds" = some (some (.ref f1)))
    (l1 : K.lookup f1 = some ⟨oc1, od1, .func (PySem.W.fnOf "_check_bounds" "_check_bounds" (defArgs s_check_bounds) (defBody s_check_bounds) (defScope s_check_bounds) .none kV1 dc1 pm1 an1 cd1 ct1), sl1⟩)
    (c1 : PySem.W.codeIn K cd1 "_check_bounds" = true) (k1 : PySem.W.keepIn K (.ref f1) = true)
    (a2 : PySem.W.nsIn K mainGlobals "_spare" = some (some (.ref f2)))
    (l2 : K.lookup f2 = some ⟨oc2, od2, .func (PySem.W.fnOf "_spare" "_spare" (defArgs s_spare) (defBody s_spare) (defScope s_spare) .none kV2 dc2 pm2 an2 cd2 ct2), sl2⟩)
    (c2 : PySem.W.codeIn K cd2 "_spare" = true) (k2 : PySem.W.keepIn K (.ref f2) = true)
    (a3 : PySem.W.nsIn K mainGlobals "_near" = some (some (.ref f3)))
    (l3 : K.lookup f3 = some ⟨oc3, od3, .func (PySem.W.fnOf "_near" "_near" (defArgs s_near) (defBody s_near) (defScope s_near) .none kV3 dc3 pm3 an3 cd3 ct3), sl3⟩)
    (c3 : PySem.W.codeIn K cd3 "_near" = true) (k3 : PySem.W.keepIn K (.ref f3) = true)
    (a4 : PySem.W.findIn K (.ref CB) "__init__" = some (some (.ref f4))) (i4 : PySem.W.isFn K (.ref f4) = true)
    (l4 : K.lookup f4 = some ⟨oc4, od4, .func (PySem.W.fnOf "__init__" "Bed.__init__" (defArgs s_Bed__init) (defBody s_Bed__init) (defScope s_Bed__init) .none kV4 dc4 pm4 an4 cd4 ct4), sl4⟩)
    (c4 : PySem.W.codeIn K cd4 "Bed.__init__" = true) (k4 : PySem.W.keepIn K (.ref f4) = true)
    (a5 : PySem.W.findIn K (.ref CB) "leads" = some (some (.ref f5))) (i5 : PySem.W.isFn K (.ref f5) = true)
    (l5 : K.lookup f5 = some ⟨oc5, od5, .func (PySem.W.fnOf "leads" "Bed.leads" (defArgs s_Bed_leads) (defBody s_Bed_leads) (defScope s_Bed_leads) .none kV5 dc5 pm5 an5 cd5 ct5), sl5⟩)
    (c5 : PySem.W.codeIn K cd5 "Bed.leads" = true) (k5 : PySem.W.keepIn K (.ref f5) = true)
    (a6 : PySem.W.findIn K (.ref CB) "reach" = some (some (.ref f6))) (i6 : PySem.W.isFn K (.ref f6) = true)
    (l6 : K.lookup f6 = some ⟨oc6, od6, .func (PySem.W.fnOf "reach" "Bed.reach" (defArgs s_Bed_reach) (defBody s_Bed_reach) (defScope s_Bed_reach) .none kV6 dc6 pm6 an6 cd6 ct6), sl6⟩)
    (c6 : PySem.W.codeIn K cd6 "Bed.reach" = true) (k6 : PySem.W.keepIn K (.ref f6) = true)
    (a7 : PySem.W.findIn K (.ref CB) "push" = some (some (.ref f7))) (i7 : PySem.W.isFn K (.ref f7) = true)
    (l7 : K.lookup f7 = some ⟨oc7, od7, .func (PySem.W.fnOf "push" "Bed.push" (defArgs s_Bed_push) (defBody s_Bed_push) (defScope s_Bed_push) .none kV7 dc7 pm7 an7 cd7 ct7), sl7⟩)
    (c7 : PySem.W.codeIn K cd7 "Bed.push" = true) (k7 : PySem.W.keepIn K (.ref f7) = true)
    (a8 : PySem.W.findIn K (.ref CB) "settle" = some (some (.ref f8))) (i8 : PySem.W.isFn K (.ref f8) = true)
    (l8 : K.lookup f8 = some ⟨oc8, od8, .func (PySem.W.fnOf "settle" "Bed.settle" (defArgs s_Bed_settle) (defBody s_Bed_settle) (defScope s_Bed_settle) .none kV8 dc8 pm8 an8 cd8 ct8), sl8⟩)
    (c8 : PySem.W.codeIn K cd8 "Bed.settle" = true) (k8 : PySem.W.keepIn K (.ref f8) = true)
    (a9 : PySem.W.nsIn K mainGlobals "circulation" = some (some (.ref f9)))
    (l9 : K.lookup f9 = some ⟨oc9, od9, .func (PySem.W.fnOf "circulation" "circulation" (defArgs s_circulation) (defBody s_circulation) (defScope s_circulation) .none kV9 dc9 pm9 an9 cd9 ct9), sl9⟩)
    (c9 : PySem.W.codeIn K cd9 "circulation" = true) (k9 : PySem.W.keepIn K (.ref f9) = true)
    (a10 : PySem.W.nsIn K mainGlobals "cut_holds" = some (some (.ref f10)))
    (l10 : K.lookup f10 = some ⟨oc10, od10, .func (PySem.W.fnOf "cut_holds" "cut_holds" (defArgs s_cut_holds) (defBody s_cut_holds) (defScope s_cut_holds) .none kV10 dc10 pm10 an10 cd10 ct10), sl10⟩)
    (c10 : PySem.W.codeIn K cd10 "cut_holds" = true) (k10 : PySem.W.keepIn K (.ref f10) = true)
    (a11 : PySem.W.nsIn K mainGlobals "_law_bag" = some (some (.ref f11)))
    (l11 : K.lookup f11 = some ⟨oc11, od11, .func (PySem.W.fnOf "_law_bag" "_law_bag" (defArgs s_law_bag) (defBody s_law_bag) (defScope s_law_bag) .none kV11 dc11 pm11 an11 cd11 ct11), sl11⟩)
    (c11 : PySem.W.codeIn K cd11 "_law_bag" = true) (k11 : PySem.W.keepIn K (.ref f11) = true)
    (a12 : PySem.W.nsIn K mainGlobals "_law_take" = some (some (.ref f12)))
    (l12 : K.lookup f12 = some ⟨oc12, od12, .func (PySem.W.fnOf "_law_take" "_law_take" (defArgs s_law_take) (defBody s_law_take) (defScope s_law_take) .none kV12 dc12 pm12 an12 cd12 ct12), sl12⟩)
    (c12 : PySem.W.codeIn K cd12 "_law_take" = true) (k12 : PySem.W.keepIn K (.ref f12) = true)
    (a13 : PySem.W.nsIn K mainGlobals "_law_base" = some (some (.ref f13)))
    (l13 : K.lookup f13 = some ⟨oc13, od13, .func (PySem.W.fnOf "_law_base" "_law_base" (defArgs s_law_base) (defBody s_law_base) (defScope s_law_base) .none kV13 dc13 pm13 an13 cd13 ct13), sl13⟩)
    (c13 : PySem.W.codeIn K cd13 "_law_base" = true) (k13 : PySem.W.keepIn K (.ref f13) = true)
    (a14 : PySem.W.nsIn K mainGlobals "_law_excess" = some (some (.ref f14)))
    (l14 : K.lookup f14 = some ⟨oc14, od14, .func (PySem.W.fnOf "_law_excess" "_law_excess" (defArgs s_law_excess) (defBody s_law_excess) (defScope s_law_excess) .none kV14 dc14 pm14 an14 cd14 ct14), sl14⟩)
    (c14 : PySem.W.codeIn K cd14 "_law_excess" = true) (k14 : PySem.W.keepIn K (.ref f14) = true)
    (a15 : PySem.W.nsIn K mainGlobals "_law_barred" = some (some (.ref f15)))
    (l15 : K.lookup f15 = some ⟨oc15, od15, .func (PySem.W.fnOf "_law_barred" "_law_barred" (defArgs s_law_barred) (defBody s_law_barred) (defScope s_law_barred) .none kV15 dc15 pm15 an15 cd15 ct15), sl15⟩)
    (c15 : PySem.W.codeIn K cd15 "_law_barred" = true) (k15 : PySem.W.keepIn K (.ref f15) = true)
    (a16 : PySem.W.nsIn K mainGlobals "_law_pinched" = some (some (.ref f16)))
    (l16 : K.lookup f16 = some ⟨oc16, od16, .func (PySem.W.fnOf "_law_pinched" "_law_pinched" (defArgs s_law_pinched) (defBody s_law_pinched) (defScope s_law_pinched) .none kV16 dc16 pm16 an16 cd16 ct16), sl16⟩)
    (c16 : PySem.W.codeIn K cd16 "_law_pinched" = true) (k16 : PySem.W.keepIn K (.ref f16) = true)
    (a17 : PySem.W.nsIn K mainGlobals "_law_whole" = some (some (.ref f17)))
    (l17 : K.lookup f17 = some ⟨oc17, od17, .func (PySem.W.fnOf "_law_whole" "_law_whole" (defArgs s_law_whole) (defBody s_law_whole) (defScope s_law_whole) .none kV17 dc17 pm17 an17 cd17 ct17), sl17⟩)
    (c17 : PySem.W.codeIn K cd17 "_law_whole" = true) (k17 : PySem.W.keepIn K (.ref f17) = true)
    (a18 : PySem.W.nsIn K mainGlobals "_law_is_cut" = some (some (.ref f18)))
    (l18 : K.lookup f18 = some ⟨oc18, od18, .func (PySem.W.fnOf "_law_is_cut" "_law_is_cut" (defArgs s_law_is_cut) (defBody s_law_is_cut) (defScope s_law_is_cut) .none kV18 dc18 pm18 an18 cd18 ct18), sl18⟩)
    (c18 : PySem.W.codeIn K cd18 "_law_is_cut" = true) (k18 : PySem.W.keepIn K (.ref f18) = true)
    (a19 : PySem.W.nsIn K mainGlobals "_law_error" = some (some (.ref f19)))
    (l19 : K.lookup f19 = some ⟨oc19, od19, .func (PySem.W.fnOf "_law_error" "_law_error" (defArgs s_law_error) (defBody s_law_error) (defScope s_law_error) .none kV19 dc19 pm19 an19 cd19 ct19), sl19⟩)
    (c19 : PySem.W.codeIn K cd19 "_law_error" = true) (k19 : PySem.W.keepIn K (.ref f19) = true)
    (a20 : PySem.W.nsIn K mainGlobals "_law_judged" = some (some (.ref f20)))
    (l20 : K.lookup f20 = some ⟨oc20, od20, .func (PySem.W.fnOf "_law_judged" "_law_judged" (defArgs s_law_judged) (defBody s_law_judged) (defScope s_law_judged) .none kV20 dc20 pm20 an20 cd20 ct20), sl20⟩)
    (c20 : PySem.W.codeIn K cd20 "_law_judged" = true) (k20 : PySem.W.keepIn K (.ref f20) = true)
    (a21 : PySem.W.nsIn K mainGlobals "law" = some (some (.ref f21)))
    (l21 : K.lookup f21 = some ⟨oc21, od21, .func (PySem.W.fnOf "law" "law" (defArgs s_law) (defBody s_law) (defScope s_law) .none kV21 dc21 pm21 an21 cd21 ct21), sl21⟩)
    (c21 : PySem.W.codeIn K cd21 "law" = true) (k21 : PySem.W.keepIn K (.ref f21) = true)
    (z_len : PySem.W.nsIn K mainGlobals "len" = some none)
    (z_int : PySem.W.nsIn K mainGlobals "int" = some none)
    (z_range : PySem.W.nsIn K mainGlobals "range" = some none)
    (z_list : PySem.W.nsIn K mainGlobals "list" = some none)
    (z_min : PySem.W.nsIn K mainGlobals "min" = some none)
    (z_max : PySem.W.nsIn K mainGlobals "max" = some none)
    (z_abs : PySem.W.nsIn K mainGlobals "abs" = some none)
    (z_isinstance : PySem.W.nsIn K mainGlobals "isinstance" = some none)
    (z_bool : PySem.W.nsIn K mainGlobals "bool" = some none)
    (z_str : PySem.W.nsIn K mainGlobals "str" = some none)
    (z_tuple : PySem.W.nsIn K mainGlobals "tuple" = some none)
    (z_dict : PySem.W.nsIn K mainGlobals "dict" = some none)
    (z_sorted : PySem.W.nsIn K mainGlobals "sorted" = some none)
    (z_sum : PySem.W.nsIn K mainGlobals "sum" = some none)
    (z_repr : PySem.W.nsIn K mainGlobals "repr" = some none)
    (z_zip : PySem.W.nsIn K mainGlobals "zip" = some none)
    (z_enumerate : PySem.W.nsIn K mainGlobals "enumerate" = some none)
    (z_reversed : PySem.W.nsIn K mainGlobals "reversed" = some none)
    (gD : PySem.W.nsIn K mainGlobals "DealError" = some (some (.ref CD)))
    (bg : PySem.W.nsIn K mainGlobals "Bed" = some (some (.ref CB)))
    (h1 : PySem.W.specialIn K (.builtin "object.__class__") "__get__" = some (some (.builtin "getset_descriptor.__get__")))
    (h2 : PySem.W.takesIn K (.builtin "object.__class__") = some true)
    (iAc : PySem.W.findIn K (.ref CA) "__class__" = some (some (.builtin "object.__class__")))
    (iAm : PySem.W.mroIn K CA (.type "object") = some true)
    (kAD : PySem.W.kitOne K (.ref CA) (.ref CD) = some true)
    (bpg : PySem.W.plainGet K CB Str.empty = true)
    (bhd : PySem.W.hasDictIn K CB = true)
    (bpo : PySem.W.plainOver K CB = true)
    (bsa : PySem.W.findIn K (.ref CB) "__setattr__" = some (some (.builtin "object.__setattr__")))
    (bmk : PySem.W.makesIn K CB = true)
    (bkc : PySem.W.keepIn K (.ref CB) = true)
    (bnT : PySem.W.findIn K (.ref CB) "tails" = some none)
    (bnH : PySem.W.findIn K (.ref CB) "heads" = some none)
    (bnL : PySem.W.findIn K (.ref CB) "lows" = some none)
    (bnU : PySem.W.findIn K (.ref CB) "highs" = some none)
    (bnC : PySem.W.findIn K (.ref CB) "carried" = some none)
    (bnN : PySem.W.findIn K (.ref CB) "near" = some none)
    (bnS : PySem.W.findIn K (.ref CB) "spare" = some none)
    : ∃ fd : FuncData, (∀ (s : Shared) (v : Value), BindsTo s fd ⟨[v], []⟩ [("script", v)]) ∧ ∀ base : Heap, K.In base → base.Ns mainGlobals mg → FnOk P w K mg base CX0 6 fa fd ["script"] (spLaw K) := by
  have e := hfa.symm.trans (PySem.W.mg_of X G a21)
  cases e
  have B : Blt mg := { m_len := PySem.W.mg_none_of X G z_len, m_int := PySem.W.mg_none_of X G z_int, m_range := PySem.W.mg_none_of X G z_range, m_list := PySem.W.mg_none_of X G z_list, m_min := PySem.W.mg_none_of X G z_min, m_max := PySem.W.mg_none_of X G z_max, m_abs := PySem.W.mg_none_of X G z_abs, m_isinstance := PySem.W.mg_none_of X G z_isinstance, m_bool := PySem.W.mg_none_of X G z_bool, m_str := PySem.W.mg_none_of X G z_str, m_tuple := PySem.W.mg_none_of X G z_tuple, m_dict := PySem.W.mg_none_of X G z_dict, m_sorted := PySem.W.mg_none_of X G z_sorted, m_sum := PySem.W.mg_none_of X G z_sum, m_repr := PySem.W.mg_none_of X G z_repr, m_zip := PySem.W.mg_none_of X G z_zip, m_enumerate := PySem.W.mg_none_of X G z_enumerate, m_reversed := PySem.W.mg_none_of X G z_reversed }
  have T0 : Txt P K mg CA CB := { B with arc := TA, clB := ⟨bpg, bhd, bpo, bsa⟩, nT := bnT, nH := bnH, nL := bnL, nU := bnU, nC := bnC, nN := bnN, nS := bnS }
  have T : TxtL P K mg CD CA CB := { T0 with h1 := h1, h2 := h2, g_DealError := PySem.W.mg_of X G gD, iA := ⟨iAc, iAm⟩, kAD := kAD }
  have F1 := fun_mk (st := s_check_bounds) l1 c1 k1
  have b1 := F1.binds (ps := ["count", "arcs"]) fun _ _ _ _ _ _ us hl => match us, hl with | [_, _], _ => rfl
  have F2 := fun_mk (st := s_spare) l2 c2 k2
  have b2 := F2.binds (ps := ["count", "arcs", "amounts"]) fun _ _ _ _ _ _ us hl => match us, hl with | [_, _, _], _ => rfl
  have F3 := fun_mk (st := s_near) l3 c3 k3
  have b3 := F3.binds (ps := ["count", "arcs"]) fun _ _ _ _ _ _ us hl => match us, hl with | [_, _], _ => rfl
  have F4 := fun_mk (st := s_Bed__init) l4 c4 k4
  have b4 := F4.binds (ps := ["self", "count", "arcs"]) fun _ _ _ _ _ _ us hl => match us, hl with | [_, _, _], _ => rfl
  have F5 := fun_mk (st := s_Bed_leads) l5 c5 k5
  have b5 := F5.binds (ps := ["self", "node", "arc"]) fun _ _ _ _ _ _ us hl => match us, hl with | [_, _, _], _ => rfl
  have F6 := fun_mk (st := s_Bed_reach) l6 c6 k6
  have b6 := F6.binds (ps := ["self", "starts", "goals"]) fun _ _ _ _ _ _ us hl => match us, hl with | [_, _, _], _ => rfl
  have F7 := fun_mk (st := s_Bed_push) l7 c7 k7
  have b7 := F7.binds (ps := ["self", "came", "goal", "most"]) fun _ _ _ _ _ _ us hl => match us, hl with | [_, _, _, _], _ => rfl
  have F8 := fun_mk (st := s_Bed_settle) l8 c8 k8
  have b8 := F8.binds (ps := ["self"]) fun _ _ _ _ _ _ us hl => match us, hl with | [_], _ => rfl
  have F9 := fun_mk (st := s_circulation) l9 c9 k9
  have b9 := F9.binds (ps := ["count", "arcs"]) fun _ _ _ _ _ _ us hl => match us, hl with | [_, _], _ => rfl
  have F10 := fun_mk (st := s_cut_holds) l10 c10 k10
  have b10 := F10.binds (ps := ["count", "arcs", "nodes"]) fun _ _ _ _ _ _ us hl => match us, hl with | [_, _, _], _ => rfl
  have F11 := fun_mk (st := s_law_bag) l11 c11 k11
  have b11 := F11.binds (ps := ["script"]) fun _ _ _ _ _ _ us hl => match us, hl with | [_], _ => rfl
  have F12 := fun_mk (st := s_law_take) l12 c12 k12
  have b12 := F12.binds (ps := ["bag", "many"]) fun _ _ _ _ _ _ us hl => match us, hl with | [_, _], _ => rfl
  have F13 := fun_mk (st := s_law_base) l13 c13 k13
  have b13 := F13.binds (ps := ["bag", "count", "most"]) fun _ _ _ _ _ _ us hl => match us, hl with | [_, _, _], _ => rfl
  have F14 := fun_mk (st := s_law_excess) l14 c14 k14
  have b14 := F14.binds (ps := ["arcs", "nodes"]) fun _ _ _ _ _ _ us hl => match us, hl with | [_, _], _ => rfl
  have F15 := fun_mk (st := s_law_barred) l15 c15 k15
  have b15 := F15.binds (ps := ["count", "arcs"]) fun _ _ _ _ _ _ us hl => match us, hl with | [_, _], _ => rfl
  have F16 := fun_mk (st := s_law_pinched) l16 c16 k16
  have b16 := F16.binds (ps := ["bag", "count", "arcs", "amounts", "bounds"]) fun _ _ _ _ _ _ us hl => match us, hl with | [_, _, _, _, _], _ => rfl
  have F17 := fun_mk (st := s_law_whole) l17 c17 k17
  have b17 := F17.binds (ps := ["count", "arcs", "told"]) fun _ _ _ _ _ _ us hl => match us, hl with | [_, _, _], _ => rfl
  have F18 := fun_mk (st := s_law_is_cut) l18 c18 k18
  have b18 := F18.binds (ps := ["count", "arcs", "nodes"]) fun _ _ _ _ _ _ us hl => match us, hl with | [_, _, _], _ => rfl
  have F19 := fun_mk (st := s_law_error) l19 c19 k19
  have b19 := F19.binds (ps := ["which", "count", "arcs"]) fun _ _ _ _ _ _ us hl => match us, hl with | [_, _, _], _ => rfl
  have F20 := fun_mk (st := s_law_judged) l20 c20 k20
  have b20 := F20.binds (ps := ["bag", "count", "arcs", "nodes"]) fun _ _ _ _ _ _ us hl => match us, hl with | [_, _, _, _], _ => rfl
  have F21 := fun_mk (st := s_law) l21 c21 k21
  have b21 := F21.binds (ps := ["script"]) fun _ _ _ _ _ _ us hl => match us, hl with | [_], _ => rfl
  refine ⟨PySem.W.fnOf "law" "law" (defArgs s_law) (defBody s_law) (defScope s_law) .none kV21 dc21 pm21 an21 cd21 ct21, fun s v => .of_eq rfl, fun base _ _ => ?_⟩
  have G_check_bounds : FnB P w K mg base (L2.CX P w) 2 "_check_bounds" ["count", "arcs"] (spCheck K CA) := ⟨f1, _, ok_check_bounds F1 T0, PySem.W.mg_of X G a1, k1, b1⟩
  have G_spare : FnB P w K mg base CX0 1 "_spare" ["count", "arcs", "amounts"] (spSpare K) := ⟨f2, _, ok_spare F2 T0, PySem.W.mg_of X G a2, k2, b2⟩
  have G_near : FnB P w K mg base CX0 1 "_near" ["count", "arcs"] (spNear K) := ⟨f3, _, ok_near F3 T0, PySem.W.mg_of X G a3, k3, b3⟩
  have G_Bed__init : MkB P w K mg base CX0 2 CB "Bed" ["self", "count", "arcs"] (spInit K CB) := ⟨f4, _, ok_init F4 T0 G_near G_spare, ⟨bmk, a4, i4, bkc⟩, PySem.W.mg_of X G bg, b4⟩
  have G_Bed_leads : MtB P w K mg base CX0 1 CB "leads" ["self", "node", "arc"] (spLeads CB) := ⟨f5, _, ok_leads F5 T0, ⟨a5, i5, k5⟩, b5⟩
  have G_Bed_reach : MtB P w K mg base CX0 2 CB "reach" ["self", "starts", "goals"] (spReach K CB) := ⟨f6, _, ok_reach F6 T0 G_Bed_leads, ⟨a6, i6, k6⟩, b6⟩
  have G_Bed_push : MtB P w K mg base CX0 1 CB "push" ["self", "came", "goal", "most"] (spPush CB) := ⟨f7, _, ok_push F7 T0, ⟨a7, i7, k7⟩, b7⟩
  have G_Bed_settle : MtB P w K mg base CX0 3 CB "settle" ["self"] (spSettle CB) := ⟨f8, _, ok_settle F8 T0 G_Bed_reach G_Bed_push, ⟨a8, i8, k8⟩, b8⟩
  have G_circulation : FnB P w K mg base (L2.CX P w) 4 "circulation" ["count", "arcs"] (spCirc K CA) := ⟨f9, _, ok_circulation F9 T0 G_check_bounds G_Bed__init G_Bed_settle, PySem.W.mg_of X G a9, k9, b9⟩
  have G_cut_holds : FnB P w K mg base (L2.CX P w) 3 "cut_holds" ["count", "arcs", "nodes"] (spHolds K CA) := ⟨f10, _, ok_cut_holds F10 T0 G_check_bounds, PySem.W.mg_of X G a10, k10, b10⟩
  have G_law_bag : FnB P w K mg base CX0 1 "_law_bag" ["script"] (spBag K) := ⟨f11, _, ok_law_bag F11 B, PySem.W.mg_of X G a11, k11, b11⟩
  have G_law_take : FnB P w K mg base CX0 1 "_law_take" ["bag", "many"] (spTake) := ⟨f12, _, ok_law_take F12 B, PySem.W.mg_of X G a12, k12, b12⟩
  have G_law_base : FnB P w K mg base CX0 2 "_law_base" ["bag", "count", "most"] (spBase) := ⟨f13, _, ok_law_base F13 B G_law_take, PySem.W.mg_of X G a13, k13, b13⟩
  have G_law_excess : FnB P w K mg base CX0 1 "_law_excess" ["arcs", "nodes"] (spExc K) := ⟨f14, _, ok_law_excess F14 B, PySem.W.mg_of X G a14, k14, b14⟩
  have G_law_barred : FnB P w K mg base CX0 2 "_law_barred" ["count", "arcs"] (spBarred K) := ⟨f15, _, ok_law_barred F15 B G_law_excess, PySem.W.mg_of X G a15, k15, b15⟩
  have G_law_pinched : FnB P w K mg base CX0 2 "_law_pinched" ["bag", "count", "arcs", "amounts", "bounds"] (spPinched K) := ⟨f16, _, ok_law_pinched F16 B G_law_take, PySem.W.mg_of X G a16, k16, b16⟩
  have G_law_whole : FnB P w K mg base CX0 1 "_law_whole" ["count", "arcs", "told"] (spWhole K) := ⟨f17, _, ok_law_whole F17 B, PySem.W.mg_of X G a17, k17, b17⟩
  have G_law_is_cut : FnB P w K mg base CX0 2 "_law_is_cut" ["count", "arcs", "nodes"] (spIsCut K) := ⟨f18, _, ok_law_is_cut F18 B G_law_excess, PySem.W.mg_of X G a18, k18, b18⟩
  have G_law_error : FnB P w K mg base CX0 5 "_law_error" ["which", "count", "arcs"] (spError K) := ⟨f19, _, ok_law_error F19 T G_circulation G_cut_holds, PySem.W.mg_of X G a19, k19, b19⟩
  have G_law_judged : FnB P w K mg base CX0 4 "_law_judged" ["bag", "count", "arcs", "nodes"] (spJudged K) := ⟨f20, _, ok_law_judged F20 B G_law_take G_cut_holds G_law_is_cut, PySem.W.mg_of X G a20, k20, b20⟩
  exact ok_law F21 B G_law_bag G_law_take G_law_base G_law_pinched G_law_barred G_circulation G_law_is_cut G_law_whole G_law_judged G_law_error
theorem walk {l : PySem.W.OpenLaw} {q : Program} {loose : List Str} {XP : (Str → Option Value) → Heap → Prop} {YP : World → Heap → Prop} {d : DefRec} {K : Params → PySem.W.Frag} (hn : l.most = some 63) (hdf : d.params.defaults = [])
    (hY : ∀ (w : World) (h : Heap), YP w h → (K w.params).In h)
    (F : ∀ (w : World) (mg : Str → Option Value) (fa : Addr) (h : Heap), (K w.params).In h → h.Ns mainGlobals mg → mg d.name = some (.ref fa) →
      ∃ fd : FuncData, (∀ (s : Shared) (u : Value), BindsTo s fd ⟨[u], []⟩ [("script", u)]) ∧ ∀ base : Heap, (K w.params).In base → base.Ns mainGlobals mg → FnOk l.prog w (K w.params) mg base CX0 6 fa fd ["script"] (spLaw (K w.params))) :
    PySem.W.WalkO q loose XP YP l.row.toRowW d [] (fun f vs => PySem.call f vs) :=
  L2.walk_of (n := 63) (k := 6) (x := "script") (CX := fun _ => CX0) (sp := fun w => spLaw (K w.params)) hn (by decide) hdf ⟨rfl, by decide, by decide⟩ hY F (fun _ _ a ns hl _ hS => ⟨a, ns, rfl, hS, hl, fun _ => rfl⟩) fun _ _ _ _ _ z => z
end K01
open PySem PySem.W PyProof.Rows
set_option maxRecDepth 100000 in
set_option maxHeartbeats 0 in
theorem PySem.Challenge.cw_eachfloweachlink_k01_circulation_or_cut_holds : PySem.Challenge.rw_eachfloweachlink_k01_circulation_or_cut.Holds := by
  w_on; o_law; k_head; (case hw => w_witness2)
  k_fill
  refine K01.walk (l := PySem.Challenge.rw_eachfloweachlink_k01_circulation_or_cut) rfl rfl (fun w h Y => PySem.W.kIn_of Y) ?F
  case F =>
    intro w mg fa h KX G hmg
    refine' K01.all_mk KX G hmg ?gA ?TA ?a1 ?l1 ?c1 ?k1 ?a2 ?l2 ?c2 ?k2 ?a3 ?l3 ?c3 ?k3 ?a4 ?i4 ?l4 ?c4 ?k4 ?a5 ?i5 ?l5 ?c5 ?k5 ?a6 ?i6 ?l6 ?c6 ?k6 ?a7 ?i7 ?l7 ?c7 ?k7 ?a8 ?i8 ?l8 ?c8 ?k8 ?a9 ?l9 ?c9 ?k9 ?a10 ?l10 ?c10 ?k10 ?a11 ?l11 ?c11 ?k11 ?a12 ?l12 ?c12 ?k12 ?a13 ?l13 ?c13 ?k13 ?a14 ?l14 ?c14 ?k14 ?a15 ?l15 ?c15 ?k15 ?a16 ?l16 ?c16 ?k16 ?a17 ?l17 ?c17 ?k17 ?a18 ?l18 ?c18 ?k18 ?a19 ?l19 ?c19 ?k19 ?a20 ?l20 ?c20 ?k20 ?a21 ?l21 ?c21 ?k21 ?z_len ?z_int ?z_range ?z_list ?z_min ?z_max ?z_abs ?z_isinstance ?z_bool ?z_str ?z_tuple ?z_dict ?z_sorted ?z_sum ?z_repr ?z_zip ?z_enumerate ?z_reversed ?gD ?bg ?h1 ?h2 ?iAc ?iAm ?kAD ?bpg ?bhd ?bpo ?bsa ?bmk ?bkc ?bnT ?bnH ?bnL ?bnU ?bnC ?bnN ?bnS
    (case gD => k_is)
    (case bg => k_is)
    (case gA => k_is)
    case TA =>
      refine' ⟨_, PySem.XS.errTxt_mk KX G ?gC ?xL ?hbm ?sup ?stc ?sa ?ga ?gg ?eC ?hC ?noF ?iC ?tI ?kC ?mC ?vC ?tC ?isC ?sC ?mgS ?l ?c ?lc ?ld ?hv ?hf ?top⟩
      (case gC => k_is)
      (case xL => k_is)
      (case hbm => decide +kernel)
      (case sup => ks_is)
      (case stc => k_is)
      (case sa => k_is)
      (case ga => k_is)
      (case gg => k_is)
      (case eC => k_is)
      (case hC => k_is)
      (case noF => (intro f hf; cases List.mem_singleton.mp hf; k_is))
      (case iC => k_is)
      (case tI => k_is)
      (case kC => k_is)
      (case mC => k_is)
      (case vC => k_is)
      (case tC => k_is)
      (case isC => k_is)
      (case sC => first | rfl | k_is)
      (case mgS => k_is)
      (case l => k_is)
      (case c => k_is)
      (case lc => k_is)
      (case ld => k_is)
      (case hv => rfl)
      (case hf => decide +kernel)
      (case top => decide +kernel)
    (case a1 => k_is)
    (case l1 => k_is)
    (case c1 => k_is)
    (case k1 => k_is)
    (case a2 => k_is)
    (case l2 => k_is)
    (case c2 => k_is)
    (case k2 => k_is)
    (case a3 => k_is)
    (case l3 => k_is)
    (case c3 => k_is)
    (case k3 => k_is)
    (case a4 => k_is)
    (case i4 => k_is)
    (case l4 => k_is)
    (case c4 => k_is)
    (case k4 => k_is)
    (case a5 => k_is)
    (case i5 => k_is)
    (case l5 => k_is)
    (case c5 => k_is)
    (case k5 => k_is)
    (case a6 => k_is)
    (case i6 => k_is)
    (case l6 => k_is)
    (case c6 => k_is)
    (case k6 => k_is)
    (case a7 => k_is)
    (case i7 => k_is)
    (case l7 => k_is)
    (case c7 => k_is)
    (case k7 => k_is)
    (case a8 => k_is)
    (case i8 => k_is)
    (case l8 => k_is)
    (case c8 => k_is)
    (case k8 => k_is)
    (case a9 => k_is)
    (case l9 => k_is)
    (case c9 => k_is)
    (case k9 => k_is)
    (case a10 => k_is)
    (case l10 => k_is)
    (case c10 => k_is)
    (case k10 => k_is)
    (case a11 => k_is)
    (case l11 => k_is)
    (case c11 => k_is)
    (case k11 => k_is)
    (case a12 => k_is)
    (case l12 => k_is)
    (case c12 => k_is)
    (case k12 => k_is)
    (case a13 => k_is)
    (case l13 => k_is)
    (case c13 => k_is)
    (case k13 => k_is)
    (case a14 => k_is)
    (case l14 => k_is)
    (case c14 => k_is)
    (case k14 => k_is)
    (case a15 => k_is)
    (case l15 => k_is)
    (case c15 => k_is)
    (case k15 => k_is)
    (case a16 => k_is)
    (case l16 => k_is)
    (case c16 => k_is)
    (case k16 => k_is)
    (case a17 => k_is)
    (case l17 => k_is)
    (case c17 => k_is)
    (case k17 => k_is)
    (case a18 => k_is)
    (case l18 => k_is)
    (case c18 => k_is)
    (case k18 => k_is)
    (case a19 => k_is)
    (case l19 => k_is)
    (case c19 => k_is)
    (case k19 => k_is)
    (case a20 => k_is)
    (case l20 => k_is)
    (case c20 => k_is)
    (case k20 => k_is)
    (case a21 => k_is)
    (case l21 => k_is)
    (case c21 => k_is)
    (case k21 => k_is)
    (case z_len => k_is)
    (case z_int => k_is)
    (case z_range => k_is)
    (case z_list => k_is)
    (case z_min => k_is)
    (case z_max => k_is)
    (case z_abs => k_is)
    (case z_isinstance => k_is)
    (case z_bool => k_is)
    (case z_str => k_is)
    (case z_tuple => k_is)
    (case z_dict => k_is)
    (case z_sorted => k_is)
    (case z_sum => k_is)
    (case z_repr => k_is)
    (case z_zip => k_is)
    (case z_enumerate => k_is)
    (case z_reversed => k_is)
    (case h1 => k_is)
    (case h2 => k_is)
    (case iAc => k_is)
    (case iAm => k_is)
    (case kAD => kit_is)
    (case bpg => k_is)
    (case bhd => k_is)
    (case bpo => k_is)
    (case bsa => k_is)
    (case bmk => k_is)
    (case bkc => k_is)
    (case bnT => k_is)
    (case bnH => k_is)
    (case bnL => k_is)
    (case bnU => k_is)
    (case bnC => k_is)
    (case bnN => k_is)
    (case bnS => k_is)
